import PyProof.Rows.All
import Wide.All
import OpenK.AllK
import Wide.FinOn
import KE.KCallOwn
import KE.KRevSl
import KE.KExcSuper
import HandS.ForMost
import HandS.ForExc
import HandS.IsInst
import HandS.Zip
import HandS.OwnEq
import HandS.DictComp
import HandS.Style
import HandS.StrMore
import HandS.ExcField
import HandS.ExcSuper
import HandS.ExcInit
import HandS.Codes
import HandS.RaiseMore
import HandS.Replace
import HandS.ExcIs
import PySem.Challenge.RW_gridknot_k04_texts_of_grids
set_option Elab.async false
set_option linter.all false
set_option maxRecDepth 100000
set_option maxHeartbeats 4000000
/-! Rules that the kit lacks: a def by its name with its binding, text[::-1], a call with keywords alone, str of an own instance. -/
namespace GK
open PySem PySem.Spec PyProof.Rows L2
/-! ### a def by its name -/
structure Cl (P : Program) (w : World) (K : PySem.W.Frag) (mg : Str → Option Value) (base : Heap) (cx : CXT) (k : Nat) (x : Str) (ps : List Str) (sp : Sp) : Prop where
  ex : ∃ (f : Addr) (fd : FuncData), FnOk P w K mg base cx k f fd ps sp ∧ mg x = some (.ref f) ∧ PySem.W.keepIn K (.ref f) = true ∧ Binds K fd ps []
section
variable {X : Cx} {cx : CXT} {k j : Nat} {x : Str} {ps : List Str} {sp : Sp} {E : XK} {p pos : Pos} {e : Expr} {es : List Expr} {t : TA}
theorem pe_cl (c : Cl X.prog X.w X.K X.mg X.base cx k x ps sp) (hr : Room j X.A) (hk : k ≤ j) (hg : Gl X x) (hx : Passes cx X E) (ha : PA X (e :: es) t)
    (hdb : (x == ("__debug__" : Str)) = false := by decide) (he : starEach (e :: es) X.env = (false, eval e X.env) :: starEach es X.env := by rfl) (hpl : (backTo pos (starEach es X.env)).any (·.1) = false := by rfl) :
    PE X (.Call (.Name x p) (e :: es) [] pos) (tCall sp [] E t) := by
  refine ⟨fun pins s σ H Q I h => ?_⟩
  obtain ⟨f, fd, F, hm, hkp, hb⟩ := c.ex
  exact (pe_call F (hr.mono hk) hg hm hkp hb .nil hx ha hdb he hpl).run pins s σ H Q I h
theorem pe_clS {E : L2.St → XK} (c : Cl X.prog X.w X.K X.mg X.base cx k x ps sp) (hr : Room j X.A) (hk : k ≤ j) (hg : Gl X x) (hx : ∀ σ, PassesAt cx X σ (E σ)) (ha : PA X (e :: es) t)
    (hdb : (x == ("__debug__" : Str)) = false := by decide) (he : starEach (e :: es) X.env = (false, eval e X.env) :: starEach es X.env := by rfl) (hpl : (backTo pos (starEach es X.env)).any (·.1) = false := by rfl) :
    PE X (.Call (.Name x p) (e :: es) [] pos) (tCallS sp E t) := by
  refine ⟨fun pins s σ H Q I h => ?_⟩
  obtain ⟨f, fd, F, hm, hkp, hb⟩ := c.ex
  exact (pe_callS F (hr.mono hk) hg hm hkp hb hx ha hdb he hpl).run pins s σ H Q I h
/-! ### f(k = v, ..) -/
variable {kws : List Keyword} {ks : List Str} {tk : TA} {f : Addr} {fd : FuncData} {g : List Value → List Value → List Value} {gV : List V → List V → List V}
theorem pe_callK0 (F : FnOk X.prog X.w X.K X.mg X.base cx k f fd ps sp) (hr : Room k X.A) (hg : Gl X x) (hm : X.mg x = some (.ref f)) (hk : PySem.W.keepIn X.K (.ref f) = true) (hb : KBinds X.K fd ps ks g gV) (hx : Passes cx X E)
    (hkw : PK X kws tk) (hall : (backToKw pos (keywordEach kws X.env)).all (·.1.isSome) = true := by rfl) (hks : (backToKw pos (keywordEach kws X.env)).filterMap (·.1) = ks := by rfl)
    (hdb : (x == ("__debug__" : Str)) = false := by decide)
    (hpl : ((backTo pos (starEach [] X.env)).any (·.1) || (backToKw pos (keywordEach kws X.env)).any (·.1.isNone)) = false := by rfl) :
    PE X (.Call (.Name x p) [] kws pos) (tCallK sp gV E tNil tk) := by
  refine ⟨fun pins s σ H Q I h => ?_⟩
  refine wpAny_Call_Name_kw (ld_glob I hg hm ?_ hdb)
  refine PySem.W.callWith_KW0 (h₀ := X.base) I.ok.mod.kin hk hall ?_ hpl
  refine thn (hkw.run pos pins s σ H _ I h) fun ws s2 ⟨zs, H2, I2, rz, q2⟩ => ⟨I2.kIn, ?_⟩
  rw [hks]
  exact run_fnk (us := []) (vs := []) F hr hb hx I2 .nil rz q2
end
/-! ### text[::-1]: some text that is no longer -/
section
variable {X : Cx}
def tRevS (te : TE) : TE := fun σ H Q => te σ H fun x H1 => ∃ z, x = .str z ∧ z.length ≤ sizeLine ∧ ∀ y : Str, y.length ≤ z.length → Q (.str y) H1
theorem sliceRange_len (a b c : Int) (n : Nat) (h : (sliceRange a b c).length ≤ n) (f : Nat → Option Nat) : ((sliceRange a b c).filterMap f).length ≤ n := Nat.le_trans (List.length_filterMap_le _ _) h
theorem back_len (n : Nat) : (Builtin.Str.strSliceIndices none none (-1) n).length ≤ n := by
  show (sliceRange ((n : Int) - 1) (-1) (-1)).length ≤ n
  rw [PySem.W.krv_sliceRange]
  simp
theorem pe_revS {e : Expr} {te : TE} {k : Nat} {p1 p2 p3 pos : Pos} (he : PE X e te) : PE X (.Subscript e (.Slice none none (some (.UnaryOp .USub (.Constant (.int 1) k p1) p2)) p3) pos) (tRevS te) := by
  refine ⟨fun pins s σ H Q I h => ?_⟩
  refine Subscript_ (thn (he.run pins s σ H _ I h) fun v s1 ⟨x, H1, I1, r1, q1⟩ => ?_)
  obtain ⟨z, rfl, hz, q⟩ := q1
  obtain ⟨t, rfl⟩ := r1
  have hst : PO X (some (.UnaryOp .USub (.Constant (.int 1) k p1) p2)) (tPart (tUn (rU fun i => .int (-i)) (tC (.int 1)))) := po_some (pe_un un_neg pe_int)
  refine wpAny_Slice (thn (po_none.run pins s1 σ H1 (fun o H2 => o = none ∧ H2 = H1) I1 ⟨rfl, rfl⟩) fun vl s2 ⟨l, H2, I2, pl, el, e2⟩ => ?_)
  subst el e2
  refine thn (po_none.run pins s2 σ H2 (fun o H3 => o = none ∧ H3 = H2) I2 ⟨rfl, rfl⟩) fun vu s3 ⟨u, H3, I3, pu, eu, e3⟩ => ?_
  subst eu e3
  refine thn (hst.run pins s3 σ H3 (fun o H4 => o = some (-1) ∧ H4 = H3) I3 ⟨1, rfl, -1, rfl, rfl, rfl⟩) fun vs s4 ⟨o, H4, I4, ps, eo, e4⟩ => ?_
  subst eo e4
  have I5 : Inv X pins σ H4 { s4 with heap := s4.heap.push { cls := .type "slice", data := .fields #[vl, vu, vs] } } := I4.kept (t' := s4.toks) fun b ob q => Heap.get?_push_of_some _ q
  obtain ⟨l0, rfl, el⟩ := IsPart.raw pl
  obtain ⟨u0, rfl, eu⟩ := IsPart.raw pu
  obtain ⟨st, rfl, es⟩ := IsPart.raw ps
  have l1 : l0 = none := by cases l0 with
    | none => rfl
    | some _ => cases el
  have u1 : u0 = none := by cases u0 with
    | none => rfl
    | some _ => cases eu
  subst l1 u1
  obtain ⟨⟨sv, st'⟩, rfl⟩ : ∃ z, st = some z := by
    cases st with
    | none => cases es
    | some z => exact ⟨z, rfl⟩
  have es' : sv = -1 := Option.some.inj es
  subst es'
  show wpAny (model X.prog X.w) X.A (subscriptTail e (.Slice none none (some (.UnaryOp .USub (.Constant (.int 1) k p1) p2)) p3) (.str z t) (.ref s4.heap.objs.size)) (EP X pins σ Q) X.xe { s4 with heap := s4.heap.push { cls := .type "slice", data := .fields #[partValue none, partValue none, partValue (some (-1, st'))] } }
  refine tail_any (ops := [.ref s4.heap.objs.size]) (typeIs_str _ z t) (PySem.F.slot_str_getitem.lookup) ?_ (by with_unfolding_all rfl)
  refine wpAny_getItem_str_slice (l := none) (u := none) (st := some (-1, st')) ⟨_, Heap.get?_push_size _ rfl, rfl, rfl⟩ rfl ?_
  show Made.post (if ((-1 : Int) == 1 && _) = true then Made.val (.str z t) else Made.str ⟨((Builtin.Str.strSliceIndices none none (-1) z.length).filterMap (z.cps[·]?)).toArray⟩) (EP X pins σ Q) _
  rw [if_neg (by simp)]
  have hl : (⟨((Builtin.Str.strSliceIndices none none (-1) z.length).filterMap (z.cps[·]?)).toArray⟩ : Str).length ≤ z.length := by
    show (((Builtin.Str.strSliceIndices none none (-1) z.length).filterMap (z.cps[·]?)).toArray).size ≤ z.length
    rw [List.size_toArray]
    exact Nat.le_trans (List.length_filterMap_le _ _) (back_len _)
  exact ⟨Nat.le_trans hl hz, .str _, H4, I5.tok _, ⟨_, rfl⟩, q _ hl⟩
end
/-! ### str(an own instance) by its own __str__ -/
section
variable {X : Cx} {cx : CXT} {n : Nat} {C f : Addr} {fd : FuncData} {ps : List Str} {sp : Sp} {E : XK}
def rStrOwn (C : Addr) (sp : Sp) (E : XK) : List V → Hp → VK → Prop := fun xs H Q => ∃ a dx fs, xs = [.ref a] ∧ H a = some (.ins C dx fs) ∧ sp [.ref a] H (fun v H' => (∃ z, v = .str z) ∧ Q v H') E
theorem call_strOwn (F : FnOk X.prog X.w X.K X.mg X.base cx n f fd ps sp) (hr : Room (n + 2) X.A) (hs : PySem.W.findIn X.K (.ref C) "__str__" = some (some (.ref f))) (hf : PySem.W.isFn X.K (.ref f) = true) (hb : Binds X.K fd ps []) (hx : Passes cx X E) :
    CallR X (.type "str") (rStrOwn C sp E) := by
  intro pins s σ H xs us Q I r h
  obtain ⟨a, dx, fs, rfl, ha, hsp⟩ := h
  cases r with
  | cons r1 r2 =>
    cases r2
    cases r1
    obtain ⟨mA, J, _⟩ := ins_get I.hok ha
    obtain ⟨od, J, _⟩ := J.look
    have hr2 : Room n X.A.in1.in1 := (hr.in1).in1
    refine PySem.W.kso_call hr2.units0 I.kIn J hs hf ?_
    have e0 : Env0 X.prog X.w X.K X.mg X.base X.A.in1.in1 X.stack s H := I.env0.in1.in1
    have hl := F.len _ _ _ _ hsp
    have rr : Vals [V.ref a] [Value.ref a] := .cons rfl .nil
    refine wpAny_call (codeAny_mono (F.run X.A.in1.in1 X.stack s H ⟨[.ref a], []⟩ [.ref a] [.ref a] _ E hr2 e0 (by
      have := hb s [.ref a] I.kIn (by simpa using hl)
      simpa using this) rr hsp) fun rs s' hq => ?_)
    cases rs with
    | error e => exact hx pins σ H s e s' I hq
    | ok fl =>
      cases fl with
      | ret u =>
        obtain ⟨v, H', I', rv, ⟨z, ez⟩, qv⟩ := I.after hq
        subst ez
        obtain ⟨tk, rfl⟩ := rv
        exact ⟨.str z, H', I', ⟨tk, rfl⟩, qv⟩
      | next => exact False.elim hq
      | brk => exact False.elim hq
      | cont => exact False.elim hq
end
end GK
/-! InvalidText: made (its __init__ says super().__init__, two classes above it ValueError; two fields), raised. -/
namespace GK
open PySem PySem.Spec PyProof.Rows L2
def topS (i : Nat) : Stmt := PySem.Challenge.pw_gridknot_k04_texts_of_grids.main.body.getD i (.Pass ⟨0, 0, 0, 0⟩)
abbrev sErr : Stmt := inClass (topS 7) 0
/-- what the written part says of InvalidText, at C, and of its __init__, at fI; its cell at cc, its code at cda -/
structure ErrTxt (P : Program) (K : PySem.W.Frag) (mg : Str → Option Value) (C fI cc cda : Addr) : Prop where
  gC : mg "InvalidText" = some (.ref C)
  gs : mg "super" = none
  cls : ∃ nm q N bs bm sn sub ab col dd k0 k1 k2 k3 k5, K.lookup C = some (excClassObj nm q C N bs bm true sn sub ab col dd k0 k1 k2 k3 k5 "ValueError.__new__") ∧ PySem.HandSPX.refsVE bm = true ∧ PySem.W.alongIn K "__init__" bm = some (some (.builtin "ValueError.__init__"))
  opq : PySem.W.nsIn K cStatics "thirdparty.any" = some none
  sub0 : PySem.W.subIn K (.ref C) (.type "ValueError") = some true
  subC : PySem.W.mroIn K C (.ref C) = some true
  sa : PySem.W.findIn K (.ref C) "__setattr__" = some (some (.builtin "object.__setattr__"))
  ga : PySem.W.findIn K (.ref C) "__getattribute__" = some (some (.builtin "BaseException.__getattribute__"))
  gg : PySem.W.findIn K (.ref C) "__getattr__" = some none
  noT : PySem.W.findIn K (.ref C) "text" = some none
  noA : PySem.W.findIn K (.ref C) "at" = some none
  iC : PySem.W.findIn K (.ref C) "__init__" = some (some (.ref fI))
  tI : PySem.W.typeIn K (.ref fI) = some (.type "function")
  kC : PySem.W.keepIn K (.ref C) = true
  exC : PySem.W.subIn K (.ref C) (.type "BaseException") = some true
  tyC : PySem.W.typeIn K (.ref C) = some (.type "type")
  hdC : PySem.W.hasDictIn K C = true
  te : PySem.W.exmOne K (.ref C) (.ref C) = some true
  fn : ∃ (oc : Value) (od : Option Addr) (doc pm : Value) (an : Option Addr) (ct : Value) (osl : Array (Option Value)),
    K.lookup fI = some ⟨oc, od, .func (PySem.W.ksFn "__init__" "InvalidText.__init__" (defArgs sErr) (defBody sErr) (defScope sErr) .none .none doc pm an (.ref cda) ct cc), osl⟩
  code : PySem.W.codeIn K (.ref cda) "InvalidText.__init__" = true
  codeO : ∃ (ccl : Value) (cdd : Option Addr) (vs : Array Value) (ccs : Array (Option Value)) (file : Str) (tf : Tok), K.lookup cda = some ⟨ccl, cdd, .fields vs, ccs⟩ ∧ vs[2]? = some (.str file tf) ∧ ((P.main.file : Str) == file) = true
  top : (P.main.scope.names.lookup ("super" : Str)).isSome = false
  cell : ∃ (cl : Value) (cld : Option Addr) (csl : Array (Option Value)), K.lookup cc = some ⟨cl, cld, .cell (some (.ref C)), csl⟩
theorem codeRec_in {K : PySem.W.Frag} {h : Heap} (X : K.In h) {cd : Value} {q : Str} (e : PySem.W.codeIn K cd q = true) : h.CodeRec cd q := PySem.W.codeRec_of X e
section
variable {prog : Program} {w : World} {M : Model} {A : Around} {E : Value → Shared → Prop} {h : Heap} {g : Array GenState} {d : Drawn} {t : Nat} {os : OsState}
variable {nm q : Str} {C N : Addr} {bs bm : List Value} {hdct : Bool} {sn : List Str} {sub : List Value} {ab : Bool} {col : Option Bool} {dd : Option Addr} {k0 k1 k2 k3 k5 : Option Value}
/-- ValueError.__init__ bound to e, called -/
theorem call_mwV {u e t0 : Addr} {rest : List Value} {Q : Value → Shared → Prop}
    (hC : h.get? C = some (excClassObj nm q C N bs bm hdct sn sub ab col dd k0 k1 k2 k3 k5 "ValueError.__new__")) (he : h.get? e = some (HandSPX.excO C t0)) (hu : h.get? u = some (PySem.W.kxs_mw "ValueError.__init__" e)) (hrest : rest.length ≤ sizeLine)
    (hq : ∀ h' t1, (∀ b o, b ≠ e → h.get? b = some o → h'.get? b = some o) → h'.get? e = some (HandSPX.excO C t1) → Q .none ⟨h', g, d, t, os⟩) :
    wpAny (model prog w) A (call (.ref u) rest) Q E ⟨h, g, d, t, os⟩ := by
  refine wpAny_call (codeAny_of_tree ?_)
  show wpAny _ A.in1 (callAny (.ref u) ⟨rest, []⟩) _ _ _
  simp only [callAny]
  refine wpAny_bind (wpAny_load hu ?_)
  simp only [PySem.W.kxs_mw, show (Value.type "method-wrapper" == Value.type "method" || Value.type "method-wrapper" == Value.type "builtin_function_or_method" || Value.type "method-wrapper" == Value.type "method-wrapper") = true by decide, if_true]
  refine PySem.W.KFB.if_so (by decide) ?_
  refine wpAny_bind (ESX.check_bound F.excBase_ValueError hC he rfl ?_)
  refine wpAny_bind (wpAny_pure (wpAny_pure ?_))
  refine ⟨Code.quiet_builtin _ (by decide +kernel), codeAny_builtin F.excBase_ValueError.initEntry ?_⟩
  rw [Around.under_plainId F.excBase_ValueError.init.plain _]
  wp_walk
  refine hq _ h.objs.size (fun b o hb ho => ?_) ?_
  · rw [Heap.get?_update_other _ _ (Ne.symm hb)]
    exact Heap.get?_push_of_some _ ho
  · rw [Heap.get?_update_self _ (Heap.get?_push_of_some _ he) rfl]
    rfl
end
/-- what __init__ leaves of a fresh exception at x -/
structure InitEnd (h h' : Heap) (x C dx t1 : Addr) (v1 v2 : Value) : Prop where
  keep : ∀ b o, b ≠ x → h.get? b = some o → h'.get? b = some o
  obj : h'.get? x = some { cls := .ref C, dict := some dx, data := .fields #[.ref t1, .none, .none, .none, .bool false, .none] }
  dbig : h.objs.size ≤ dx
  dne : dx ≠ x
  ns : h'.Ns1 dx (fun y => if y = "at" then some v2 else if y = "text" then some v1 else none)
section
open PySem.W PySem.Calls
variable {prog : Program} {w : World} {A : Around} {E : Value → Shared → Prop} {R : Result → Shared → Prop} {s : Shared} {K : Frag} {mg mb : Str → Option Value} {C fI cc cda : Addr}
theorem bootSuper : bootBuiltins ("super" : Str) = some (.type "super") := by kernel_rfl
theorem looks_mro {h : Heap} {cd : ClassData} (X : K.In h) (hc : clsIn K C = some cd) : Looks (model prog w) h (mroOf (.ref C)) cd.mro :=
  fun A Q E s k q => wpAny_bind ((looks_clsIn X hc) A _ E s k (wpAny_pure q))
theorem init_raw (T : ErrTxt prog K mg C fI cc cda) {x t0 : Addr} {v1 v2 : Value} (X : K.In s.heap) (G : s.heap.Ns mainGlobals mg) (B : s.heap.Ns builtinsNs mb) (hb : mb "super" = bootBuiltins "super") (hlim : s.heap.NoLimit)
    (hx : s.heap.get? x = some (HandSPX.excO C t0)) (hnx : K.lookup x = none) (hroom : A.depth < recursionLimit)
    (hq : ∀ h' tk dx t1, InitEnd s.heap h' x C dx t1 v1 v2 → R (.ok (.ret .none)) { s with heap := h', toks := tk }) :
    codeAny (model prog w) A (.call (.ref fI) ⟨[.ref x, v1, v2], []⟩) R s := by
  obtain ⟨oc, od, doc, pm, an, ct, osl, ho⟩ := T.fn
  obtain ⟨nm, q, N, bs, bm, sn, sub, ab, col, dd, k0, k1, k2, k3, k5, hC, hbm, hal⟩ := T.cls
  obtain ⟨ccl, cdd, vs, ccs, file, tf, hcode, hvs, hfile⟩ := T.codeO
  obtain ⟨cl, cld, csl, hcell⟩ := T.cell
  have hcl : clsIn K C = some { name := nm, bases := bs, mro := .ref C :: bm, ns := N, qualname := q, hasDict := true, slotNames := sn, subclasses := sub, abstract := ab, collection := col, hasDel := false } := by unfold clsIn; rw [hC] <;> rfl
  have hxC : x ≠ C := fun e => by
    rw [e, hC] at hnx
    cases hnx
  have hxL : s.heap.objs.size ≠ x := Nat.ne_of_gt (Heap.lt_size hx)
  refine ks_codeAny_call_defAt (fd := ksFn "__init__" "InvalidText.__init__" (defArgs sErr) (defBody sErr) (defScope sErr) .none .none doc pm an (.ref cda) ct cc) (body := defBody sErr) (binds := [("self", .ref x), ("text", v1), ("at", v2)]) hroom (X _ _ ho) rfl hlim (codeRec_of X T.code) rfl (BindsTo.of_eq (by first | rfl | with_unfolding_all rfl)) (show ∀ y ∈ (defScope sErr).names, y.2 ≠ .cell by decide +kernel) (fun y hy => ?_) (fun h₁ hns k => ?_) rfl rfl rfl
  · simp only [List.mem_cons, List.not_mem_nil, or_false] at hy
    rcases hy with rfl | rfl | rfl <;> rfl
  · have X₁ : K.In h₁ := X.keeps k
    have hx₁ := k _ _ hx
    have hC₁ := X₁ _ _ hC
    have G₁ : h₁.Ns mainGlobals mg := G.keeps k
    have B₁ : h₁.Ns builtinsNs mb := B.keeps k
    have I₁ : PySem.W.InstAt h₁ x (HandSPX.excO C t0) C none := ⟨hx₁, rfl, rfl, trivial⟩
    -- super().__init__("the text is wrong")
    refine ks_wpAt_execs_cons (ks_wpAt_Expr_any (ks_wpAt_MethodCall ?_))
    refine ks_wpAt_super_base (by rfl) (by rfl) (by decide) rfl (X₁ _ _ ho) rfl rfl rfl (X₁ _ _ hcode) rfl hvs hfile T.top ?_
    refine ks_loadName_global rfl rfl (loadGlobal_builtin G₁ T.gs B₁ (hb.trans bootSuper) ⟨rfl, ?_⟩)
    refine wpAny_loadName_free rfl rfl rfl ⟨_, X₁ _ _ hcell, rfl⟩ ?_
    refine wpAny_loadName_local (v := .ref x) rfl rfl hns (by first | rfl | with_unfolding_all rfl | kernel_rfl) ?_
    refine ks_wpAny_isType_cls hC₁ rfl ⟨rfl, ?_⟩
    obtain ⟨hh, gg, dw, tk, os⟩ := s
    refine ks_wpAny_call_super hC₁ rfl hx₁ rfl (fun c e => nomatch e) (looks_mroIn X₁ T.subC) (fun h₂ e₂ k₂ => ?_)
    have X₂ : K.In h₂ := X₁.keeps k₂
    have I₂ : PySem.W.InstAt h₂ x (HandSPX.excO C t0) C none := ⟨k₂ _ _ hx₁, rfl, rfl, trivial⟩
    have hI : Looks (model prog w) h₂ (isInstance (.ref x) (.type "ValueError")) true := I₂.type.andThen (looks_subIn X₂ T.sub0)
    refine kxs_getMethod kxs_ValueError e₂ (looks_opaque X₂ T.opq) (looks_mro X₂ hcl) (l := bm) (ESX.drop_own C bm) X₂ hal hI hxC (by decide) ?_
    have lt₂ : x < h₂.objs.size := Heap.lt_size (k₂ _ _ hx₁)
    refine kxs_callWith (i := "ValueError.__init__") (x := x) rfl ?_
    refine evalArgs_plain ?_
    refine Calls.spliced_cons (Calls.Constant_str (k := 0) (pos := ⟨20, 25, 20, 44⟩) ?_)
    refine Calls.spliced_nil ?_
    have hu : (h₂.push (kxs_mw "ValueError.__init__" x)).get? h₂.objs.size = some (kxs_mw "ValueError.__init__" x) := Heap.get?_push_size _ rfl
    refine ⟨hu, ?_⟩
    have k₃ : ∀ b o, h₂.get? b = some o → (h₂.push (kxs_mw "ValueError.__init__" x)).get? b = some o := fun b o e => Heap.get?_push_of_some _ e
    refine call_mwV (C := C) (k₃ _ _ (k₂ _ _ hC₁)) (k₃ _ _ (k₂ _ _ hx₁)) hu (by rw [sizeLine_eq]; exact (by decide : 1 ≤ 16777216)) (fun h₄ t1 k₄ hx₄ => ?_)
    have k₁₄ : ∀ b o, b ≠ x → h₁.get? b = some o → h₄.get? b = some o := fun b o hb e => k₄ b o hb (k₃ b o (k₂ b o e))
    have lx : ∀ b o, K.lookup b = some o → b ≠ x := fun b o e z => by
      rw [z, hnx] at e
      cases e
    have X₄ : K.In h₄ := fun b o e => k₁₄ b o (lx b o e) (X₁ b o e)
    obtain ⟨oL, es, ep, hL, rL⟩ := hns
    have hns₄ : h₄.Ns hh.objs.size (fun y => List.lookup y [((PySem.Str.ofString "self" : Str), Value.ref x), (PySem.Str.ofString "text", v1), (PySem.Str.ofString "at", v2)].reverse) := ⟨oL, es, ep, k₁₄ _ _ hxL hL, rL⟩
    -- self.text = text
    refine wpAt_of_wpAny ?_
    refine wpAny_execs_cons (plainObj_wpAny_Assign_Attribute ?_)
    refine ESX.ldL (v := v1) hns₄ (by first | rfl | with_unfolding_all rfl | kernel_rfl) (ESX.ldL (v := .ref x) hns₄ (by first | rfl | with_unfolding_all rfl | kernel_rfl) ?_)
    refine set_plain X₄ (ox := HandSPX.excO C t1) (od := none) ⟨hx₄, rfl, rfl, trivial⟩ T.sa ?_
    refine HandSPX.exc_osa X₄ hx₄ hcl (show HandSPX.refsVE (.ref C :: bm) = true from hbm) rfl T.noT (fun h₅ tk₅ dx k₅ dn dne hx₅ hn₅ => ?_)
    have X₅ : K.In h₅ := fun b o e => k₅ b o (lx b o e) (X₄ b o e)
    have hns₅ : h₅.Ns hh.objs.size (fun y => List.lookup y [((PySem.Str.ofString "self" : Str), Value.ref x), (PySem.Str.ofString "text", v1), (PySem.Str.ofString "at", v2)].reverse) := ⟨oL, es, ep, k₅ _ _ hxL (k₁₄ _ _ hxL hL), rL⟩
    -- self.at = at
    show wpAny _ _ (execs _ _) _ _ _
    refine wpAny_execs_cons (plainObj_wpAny_Assign_Attribute ?_)
    refine ESX.ldL (v := v2) hns₅ (by first | rfl | with_unfolding_all rfl | kernel_rfl) (ESX.ldL (v := .ref x) hns₅ (by first | rfl | with_unfolding_all rfl | kernel_rfl) ?_)
    have wi : PySem.Within (fun y : Str => if y = "text" then some v1 else none) [("text" : Str)] := fun y hy => by
      by_cases e : y = "text"
      · rw [e]
        exact List.mem_cons_self
      · have hy2 : (if y = "text" then some v1 else none) ≠ none := hy
        rw [if_neg e] at hy2
        exact absurd rfl hy2
    obtain ⟨od5, ho5, _⟩ := lookIn_ns hn₅
    refine set_plain X₅ (od := some od5) ⟨hx₅, rfl, rfl, ho5⟩ T.sa ?_
    refine OEX.osa_old X₅ hx₅ hn₅ wi (by decide) hcl (show HandSPX.refsVE (.ref C :: bm) = true from hbm) rfl T.noA (fun h₆ tk₆ k₆ hn₆ => ?_)
    show wpAny _ _ (execs _ _) _ _ _
    have z : hh.objs.size < h₄.objs.size := Heap.lt_size (k₁₄ _ _ hxL hL)
    refine wpAny_execs_nil (hq h₆ _ dx t1 ⟨fun b o hb e => ?_, k₆ _ _ (Ne.symm dne) hx₅, ?_, dne, hn₆⟩)
    · have e1 := k b o e
      have lt : b < hh.objs.size := Heap.lt_size e
      have e5 := k₅ b o hb (k₁₄ b o hb e1)
      exact k₆ b o (Nat.ne_of_lt (Nat.lt_of_lt_of_le (Nat.lt_trans lt z) dn)) e5
    · exact Nat.le_of_lt (Nat.lt_of_lt_of_le z dn)
/-- a made InvalidText -/
structure OwnMade (h h' : Heap) (e C d : Addr) (v1 v2 : Value) : Prop where
  keep : ∀ b o, h.get? b = some o → h'.get? b = some o
  new : h.objs.size ≤ e
  obj : ∃ oe vs, h'.get? e = some oe ∧ oe.cls = .ref C ∧ oe.dict = some d ∧ oe.data = .fields vs ∧ vs[1]? = some .none
  dbig : h.objs.size ≤ d
  dne : d ≠ e
  ns : h'.Ns1 d (fun y => if y = "at" then some v2 else if y = "text" then some v1 else none)
theorem err_made (T : ErrTxt prog K mg C fI cc cda) {v1 v2 : Value} (X : K.In s.heap) (G : s.heap.Ns mainGlobals mg) (B : s.heap.Ns builtinsNs mb) (hb : mb "super" = bootBuiltins "super") (hlim : s.heap.NoLimit) (hroom : A.depth + 1 < recursionLimit)
    (hq : ∀ h' tk e d, OwnMade s.heap h' e C d v1 v2 → R (.ok (.ret (.ref e))) { s with heap := h', toks := tk }) :
    codeAny (model prog w) A (.call (.ref C) ⟨[v1, v2], []⟩) R s := by
  obtain ⟨nm, q, N, bs, bm, sn, sub, ab, col, dd, k0, k1, k2, k3, k5, hC, hbm, hal⟩ := T.cls
  obtain ⟨hp, g, dr, tk, os⟩ := s
  have k : ∀ b o, hp.get? b = some o → ((hp.push (kdv_tup [v1, v2])).push (HandSPX.excO C hp.objs.size)).get? b = some o := fun b o e => Heap.get?_push_of_some _ (Heap.get?_push_of_some _ e)
  have hget : ((hp.push (kdv_tup [v1, v2])).push (HandSPX.excO C hp.objs.size)).get? (hp.objs.size + 1) = some (HandSPX.excO C hp.objs.size) := by heap_get
  have hnx : K.lookup (hp.objs.size + 1) = none := by
    cases e : K.lookup (hp.objs.size + 1) with
    | none => rfl
    | some o =>
      have z : hp.get? (hp.objs.size + 1) = some o := X _ _ e
      exact absurd (Nat.lt_of_succ_lt (Heap.lt_size z)) (Nat.lt_irrefl _)
  refine HandSPX.call_own F.excBase_ValueError (fun X => HandSPX.refsVE_contains X bm hbm) (X _ _ hC) (looks_findIn X T.iC) (fun self => bind_fn X self T.tI) (by rw [sizeLine_eq]; exact (by decide : 2 ≤ 16777216)) ?_
  refine init_raw (s := ⟨(hp.push (kdv_tup [v1, v2])).push (HandSPX.excO C hp.objs.size), g, dr, tk, os⟩) T (X.keeps k) (G.keeps k) (B.keeps k) hb (hlim.keeps k) hget hnx ?_ fun h' tk' dx t1 ⟨k', hx, dn, dne, hns⟩ => ?_
  · show A.depth + 1 < recursionLimit
    exact hroom
  · have old : ∀ b o, hp.get? b = some o → h'.get? b = some o := fun b o e => k' b o (Nat.ne_of_lt (Nat.lt_succ_of_lt (Heap.lt_size e))) (k b o e)
    have z : hp.objs.size + 1 + 1 ≤ dx := by
      first
        | (simpa only [Heap.size_push] using dn)
        | exact dn
        | (have q := dn; rw [Heap.size_push, Heap.size_push] at q; exact q)
    exact ⟨rfl, hq h' tk' (hp.objs.size + 1) dx ⟨old, Nat.le_succ _, ⟨_, _, hx, rfl, rfl, rfl, rfl⟩, Nat.le_trans (Nat.le_trans (Nat.le_succ _) (Nat.le_succ _)) z, dne, hns⟩⟩
end
/-! ### the rule: raise InvalidText(e, f) -/
theorem relO_two {v1 v2 : V} {u1 u2 : Value} (r1 : RelV v1 u1) (r2 : RelV v2 u2) (f : Str) : RelO (List.lookup f [(("at" : Str), v2), (("text" : Str), v1)]) (if f = "at" then some u2 else if f = "text" then some u1 else none) := by
  by_cases h1 : f = "at"
  · subst h1
    rw [if_pos rfl]
    have q : List.lookup ("at" : Str) [(("at" : Str), v2), (("text" : Str), v1)] = some v2 := by simp [List.lookup]
    rw [q]
    exact r2
  · rw [if_neg h1]
    have qw : (f == ("at" : Str)) = false := by simpa using h1
    by_cases h2 : f = "text"
    · subst h2
      rw [if_pos rfl]
      have q : List.lookup ("text" : Str) [(("at" : Str), v2), (("text" : Str), v1)] = some v1 := by simp [List.lookup, qw]
      rw [q]
      exact r1
    · rw [if_neg h2]
      have qz : (f == ("text" : Str)) = false := by simpa using h2
      have q2 : List.lookup f [(("at" : Str), v2), (("text" : Str), v1)] = none := by simp [List.lookup, qw, qz]
      rw [q2]
      trivial
section
variable {X : Cx} {C fI cc cda : Addr}
def tMkErr (C : Addr) (ta : TA) : L2.St → Hp → XK → Prop := fun σ H Q => ta σ H fun vs H1 => ∃ v1 v2, vs = [v1, v2] ∧ ∀ d, H1 d = none → Q (.ref C) (some d) (upd H1 d (.xd [(("at" : Str), v2), (("text" : Str), v1)]))
theorem pmk_err {a b : Expr} {ta : TA} {p pos : Pos} {k : Nat} (T : ErrTxt X.prog X.K X.mg C fI cc cda) (hr : Room k X.A) (ha : PA X [a, b] ta) (hg : Gl X "InvalidText" := by rfl)
    (he : starEach (a :: [b]) X.env = (false, eval a X.env) :: starEach [b] X.env := by rfl) (hpl : (backTo pos (starEach [b] X.env)).any (·.1) = false := by rfl) :
    PMk X (.Call (.Name "InvalidText" p) [a, b] [] pos) (tMkErr C ta) := by
  intro pins s σ H Q I h
  refine wpAny_Call_Name_kw (ld_glob I hg T.gC ?_)
  refine PySem.W.callWith_K (h₀ := X.base) I.ok.mod.kin T.kC (thn (ha.run pos pins s σ H _ I h) fun us s1 hh => ?_) he hpl
  obtain ⟨vs, H1, I1, r1, v1, v2, ev, q1⟩ := hh
  subst ev
  refine ⟨I1.kIn, ?_⟩
  cases r1 with
  | cons rv rn =>
    rename_i u1 us1
    cases rn with
    | cons rv2 rn2 =>
      rename_i u2 us2
      cases rn2
      show wpAny _ _ (call (.ref C) [u1, u2]) _ _ _
      have hlim := I1.nolimit
      obtain ⟨mb, hb1, hb2⟩ := I1.mod.blt
      have hG := I1.mod.glob.keeps I1.bk
      have hB := hb1.keeps I1.bk
      obtain ⟨hp, g, dr, tk, os⟩ := s1
      refine wpAny_call (err_made T I1.kIn hG hB (hb2 _ (by decide)) hlim (by have := hr.dp; omega) fun h' tk' e d M => ?_)
      show MkP X pins σ Q (.ref e) ⟨h', g, dr, tk', os⟩
      obtain ⟨oe, fv, hoe, hc, hd, hdat, h1⟩ := M.obj
      have hns := M.ns
      obtain ⟨G', g1, g2⟩ := restrict h' fun b => decide (b ≠ e)
      have gk : ∀ b, b ≠ e → G'.get? b = h'.get? b := fun b hb => g1 b (decide_eq_true hb)
      have ge : G'.get? e = none := g2 e (by simp)
      have old : ∀ b o, hp.get? b = some o → G'.get? b = some o := fun b o q => (gk b (Nat.ne_of_lt (Nat.lt_of_lt_of_le (Heap.lt_size q) M.new))).trans (M.keep b o q)
      have ob : ObjOk X.prog X.w (upd H1 d (.xd [(("at" : Str), v2), (("text" : Str), v1)])) G' d (.xd [(("at" : Str), v2), (("text" : Str), v1)]) :=
        ⟨_, hns.at (fun o q => (gk d M.dne).trans q), fun f => relO_two rv rv2 f⟩
      have J : Inv X pins σ (upd H1 d (.xd [(("at" : Str), v2), (("text" : Str), v1)])) ⟨G', g, dr, tk', os⟩ := I1.laid (t' := tk') old M.dbig ob
      refine ⟨e, oe, fv, ⟨G', g, dr, tk', os⟩, _, .ref C, some d, rfl, J, fun b o q => ?_, ge, hoe, ⟨hc, hd⟩, hdat, h1, ?_, rfl, I1.bare, raises_own T.exC T.tyC, q1 d (I1.hok.fresh M.dbig)⟩
      · by_cases hb : b = e
        · have q' : G'.get? b = some o := q
          rw [hb, ge] at q'; cases q'
        · exact (gk b hb).symm.trans q
      · rw [upd_ne (Ne.symm M.dne)]
        exact I1.hok.fresh M.new
/-- raise InvalidText(e, f) -/
def tRaiseErr (C : Addr) (W : WX) (ta : TA) : TS := fun _ σ H => tMkErr C ta σ H fun cls d H' => W cls d σ H'
theorem ps_raiseErr {a b : Expr} {ta : TA} {W : WX} {p pos pos2 : Pos} {k : Nat} (hc : X.calm = true) (T : ErrTxt X.prog X.K X.mg C fI cc cda) (hr : Room k X.A) (tk : Takes X W) (ha : PA X [a, b] ta) (hg : Gl X "InvalidText" := by rfl)
    (he : starEach (a :: [b]) X.env = (false, eval a X.env) :: starEach [b] X.env := by rfl) (hpl : (backTo pos (starEach [b] X.env)).any (·.1) = false := by rfl) :
    PS X (.Raise (some (.Call (.Name "InvalidText" p) [a, b] [] pos)) none pos2) (tRaiseErr C W ta) := ps_raise hc tk (pmk_err T hr ha hg he hpl)
end
end GK
/-! The plain mathematics of grids' texts: rows of signs, columns, marks. No program in sight. -/
namespace GK
/-! ### lists -/
theorem nodup_le : ∀ (n : Nat) (l : List Nat), l.Nodup → (∀ x ∈ l, x < n) → l.length ≤ n
  | 0, l, _, h => by
    cases l with
    | nil => exact Nat.le_refl _
    | cons x r => exact absurd (h x List.mem_cons_self) (Nat.not_lt_zero _)
  | n + 1, l, hn, h => by
    by_cases hm : n ∈ l
    · have h1 : (l.erase n).Nodup := hn.erase n
      have h2 : ∀ x ∈ l.erase n, x < n := fun x hx => by
        obtain ⟨a, b⟩ := (hn.mem_erase_iff).mp hx
        have := h x b
        omega
      have h3 := nodup_le n _ h1 h2
      rw [List.length_erase_of_mem hm] at h3
      omega
    · have h2 : ∀ x ∈ l, x < n := fun x hx => by
        have := h x hx
        have : x ≠ n := fun e => hm (e ▸ hx)
        omega
      exact Nat.le_succ_of_le (nodup_le n l hn h2)
theorem nodup_full : ∀ (n : Nat) (l : List Nat), l.Nodup → (∀ x ∈ l, x < n) → l.length = n → ∀ r, r < n → r ∈ l
  | 0, _, _, _, _, _, hr => absurd hr (Nat.not_lt_zero _)
  | n + 1, l, hn, h, hl, r, hr => by
    by_cases hm : n ∈ l
    · by_cases hrn : r = n
      · exact hrn ▸ hm
      · have h2 : ∀ x ∈ l.erase n, x < n := fun x hx => by
          obtain ⟨a, b⟩ := (hn.mem_erase_iff).mp hx
          have := h x b
          omega
        have h3 := nodup_full n (l.erase n) (hn.erase n) h2 (by rw [List.length_erase_of_mem hm, hl]; rfl) r (by omega)
        exact List.mem_of_mem_erase h3
    · have h2 : ∀ x ∈ l, x < n := fun x hx => by
        have := h x hx
        have : x ≠ n := fun e => hm (e ▸ hx)
        omega
      have := nodup_le n l hn h2
      omega
theorem count_le_one {m : Nat} : ∀ (l : List Nat), (∀ i j : Nat, l[i]? = some m → l[j]? = some m → i = j) → l.count m ≤ 1
  | [], _ => by simp
  | x :: r, h => by
    have ih := count_le_one r (fun i j hi hj => by
      have := h (i + 1) (j + 1) (by simpa using hi) (by simpa using hj)
      omega)
    rw [List.count_cons]
    by_cases hx : x = m
    · have h0 : r.count m = 0 := by
        rw [List.count_eq_zero]
        intro hm
        obtain ⟨j, hj⟩ := List.getElem?_of_mem hm
        have := h 0 (j + 1) (by simp [hx]) (by simpa using hj)
        omega
      rw [h0]
      split <;> omega
    · have : (x == m) = false := by simpa using hx
      rw [this]
      simpa using ih
theorem count_two {m : Nat} : ∀ (l : List Nat) (i j : Nat), i < j → l[i]? = some m → l[j]? = some m → 2 ≤ l.count m
  | [], i, _, _, hi, _ => by simp at hi
  | x :: r, 0, j, hij, hi, hj => by
    have hx : x = m := by simpa using hi
    obtain ⟨k, rfl⟩ : ∃ k, j = k + 1 := ⟨j - 1, by omega⟩
    have hm : m ∈ r := List.mem_of_getElem? (by simpa using hj)
    have := List.count_pos_iff.mpr hm
    rw [List.count_cons, hx]
    simp
    omega
  | x :: r, i + 1, j, hij, hi, hj => by
    obtain ⟨k, rfl⟩ : ∃ k, j = k + 1 := ⟨j - 1, by omega⟩
    have := count_two r i k (by omega) (by simpa using hi) (by simpa using hj)
    rw [List.count_cons]
    omega
theorem count_ne {m : Nat} {l : List Nat} (h : l.count m = 1) {i j : Nat} (hi : l[i]? = some m) (hj : l[j]? = some m) : i = j := by
  rcases Nat.lt_trichotomy i j with q | q | q
  · have := count_two l i j q hi hj
    omega
  · exact q
  · have := count_two l j i q hj hi
    omega
theorem count_three : ∀ l : List Nat, l.count 88 + l.count 79 + l.count 46 ≤ l.length ∧ (l.count 88 + l.count 79 + l.count 46 = l.length ↔ ∀ c ∈ l, c = 88 ∨ c = 79 ∨ c = 46)
  | [] => by simp
  | x :: r => by
    obtain ⟨h1, h2⟩ := count_three r
    simp only [List.count_cons, List.length_cons, List.forall_mem_cons]
    by_cases a : x = 88
    · subst a
      simp
      refine ⟨by omega, ?_⟩
      rw [← h2]
      omega
    · by_cases b : x = 79
      · subst b
        simp
        refine ⟨by omega, ?_⟩
        rw [← h2]
        omega
      · by_cases c : x = 46
        · subst c
          simp
          refine ⟨by omega, ?_⟩
          rw [← h2]
          omega
        · have e1 : (x == 88) = false := by simpa using a
          have e2 : (x == 79) = false := by simpa using b
          have e3 : (x == 46) = false := by simpa using c
          simp only [e1, e2, e3]
          simp [a, b, c]
          omega
theorem idxOf_at {m : Nat} {l : List Nat} (h : m ∈ l) : l[l.idxOf m]? = some m := by
  rw [List.getElem?_eq_getElem (List.idxOf_lt_length_of_mem h)]
  simp
theorem mem_of_count {m : Nat} {l : List Nat} (h : l.count m = 1) : m ∈ l := List.count_pos_iff.mp (by omega)
theorem idxOf_of {m i : Nat} {l : List Nat} (h : l.count m = 1) (hi : l[i]? = some m) : l.idxOf m = i := count_ne h (idxOf_at (mem_of_count h)) hi
/-! ### rows and columns -/
def col (R : List (List Nat)) (i : Nat) : List Nat := R.map fun l => l.getD i 0
def mark (R : List (List Nat)) (m : Nat) : List Nat := (List.range R.length).map fun i => (col R i).idxOf m
def PO (n : Nat) (l : List Nat) : Prop := l.count 88 = 1 ∧ l.count 79 = 1 ∧ (l.count 46 : Int) = (n : Int) - 2
def Sq (R : List (List Nat)) : Prop := ∀ l ∈ R, l.length = R.length
def ProgOK (R : List (List Nat)) : Prop := ∀ l ∈ R ++ (List.range R.length).map (col R), PO R.length l
def MarkOK (R : List (List Nat)) (m : Nat) : Prop := (∀ i, i < R.length → (col R i).count m = 1) ∧ (mark R m).Nodup
def Signs (R : List (List Nat)) : Prop := ∀ l ∈ R, l.length = R.length ∧ ∀ c ∈ l, c = 88 ∨ c = 79 ∨ c = 46
def LawOK (R : List (List Nat)) : Prop := 2 ≤ R.length ∧ Signs R ∧ MarkOK R 88 ∧ MarkOK R 79
theorem col_length (R : List (List Nat)) (i : Nat) : (col R i).length = R.length := List.length_map _
theorem col_at {R : List (List Nat)} {r i : Nat} {l : List Nat} (h : R[r]? = some l) : (col R i)[r]? = some (l.getD i 0) := by
  unfold col
  rw [List.getElem?_map, h]
  rfl
theorem getD_of {l : List Nat} {i c : Nat} (h : l[i]? = some c) : l.getD i 0 = c := by
  rw [List.getD_eq_getElem?_getD, h]
  rfl
theorem at_getD {l : List Nat} {i : Nat} (h : i < l.length) : l[i]? = some (l.getD i 0) := by
  rw [List.getD_eq_getElem?_getD, List.getElem?_eq_getElem h]
  rfl
theorem mark_length (R : List (List Nat)) (m : Nat) : (mark R m).length = R.length := by
  unfold mark
  rw [List.length_map, List.length_range]
theorem mark_at {R : List (List Nat)} {m i : Nat} (h : i < R.length) : (mark R m)[i]? = some ((col R i).idxOf m) := by
  unfold mark
  rw [List.getElem?_map, List.getElem?_range h]
  rfl
/-- where the mark of column i stands, a row has it -/
theorem mark_row {R : List (List Nat)} (hs : Sq R) {m i : Nat} (h : i < R.length) (hc : (col R i).count m = 1) : ∃ l, R[(col R i).idxOf m]? = some l ∧ l[i]? = some m := by
  have h1 := idxOf_at (mem_of_count hc)
  have h2 : (col R i).idxOf m < R.length := by
    have := List.idxOf_lt_length_of_mem (mem_of_count hc)
    rwa [col_length] at this
  refine ⟨R[(col R i).idxOf m], List.getElem?_eq_getElem h2, ?_⟩
  have h3 := col_at (i := i) (List.getElem?_eq_getElem h2)
  rw [h1] at h3
  have h4 := hs _ (List.getElem_mem h2)
  rw [at_getD (by omega)]
  exact h3.symm
theorem mark_lt {R : List (List Nat)} {m i : Nat} (hc : (col R i).count m = 1) : (col R i).idxOf m < R.length := by
  have := List.idxOf_lt_length_of_mem (mem_of_count hc)
  rwa [col_length] at this
theorem prog_to_law {R : List (List Nat)} (h0 : R ≠ []) (hs : Sq R) (hp : ProgOK R) : LawOK R := by
  have hr : ∀ l ∈ R, PO R.length l := fun l hl => hp l (List.mem_append_left _ hl)
  have hcl : ∀ i, i < R.length → PO R.length (col R i) := fun i hi => hp _ (List.mem_append_right _ (List.mem_map_of_mem (List.mem_range.mpr hi)))
  have n2 : 2 ≤ R.length := by
    obtain ⟨l, r, rfl⟩ := List.exists_cons_of_ne_nil h0
    obtain ⟨_, _, h3⟩ := hr l List.mem_cons_self
    omega
  have mk : ∀ m, (∀ l, PO R.length l → l.count m = 1) → MarkOK R m := fun m hm => by
    refine ⟨fun i hi => hm _ (hcl i hi), ?_⟩
    unfold mark
    rw [List.nodup_iff_pairwise_ne, List.pairwise_map]
    refine List.Pairwise.imp_of_mem ?_ (List.pairwise_lt_range)
    intro i j hi hj hij he
    have hi' := List.mem_range.mp hi
    have hj' := List.mem_range.mp hj
    obtain ⟨l, a1, a2⟩ := mark_row hs hi' (hm _ (hcl i hi'))
    obtain ⟨l2, b1, b2⟩ := mark_row hs hj' (hm _ (hcl j hj'))
    rw [he, b1] at a1
    cases a1
    have := count_ne (hm _ (hr _ (List.mem_of_getElem? b1))) a2 b2
    omega
  refine ⟨n2, fun l hl => ⟨hs l hl, ?_⟩, mk 88 fun l h => h.1, mk 79 fun l h => h.2.1⟩
  obtain ⟨h1, h2, h3⟩ := hr l hl
  refine (count_three l).2.mp ?_
  have := hs l hl
  omega
theorem law_to_prog {R : List (List Nat)} (h : LawOK R) : Sq R ∧ ProgOK R := by
  obtain ⟨n2, sg, mx, mo⟩ := h
  have hs : Sq R := fun l hl => (sg l hl).1
  refine ⟨hs, ?_⟩
  have one : ∀ m, MarkOK R m → ∀ l ∈ R, l.count m = 1 := fun m hm l hl => by
    obtain ⟨r, hr⟩ := List.getElem?_of_mem hl
    have hrn : r < R.length := (List.getElem?_eq_some_iff.mp hr).1
    have full := nodup_full R.length (mark R m) hm.2 (fun x hx => by
      unfold mark at hx
      obtain ⟨i, hi, rfl⟩ := List.mem_map.mp hx
      exact mark_lt (hm.1 i (List.mem_range.mp hi))) (mark_length R m) r hrn
    unfold mark at full
    obtain ⟨i, hi, e⟩ := List.mem_map.mp full
    have hi' := List.mem_range.mp hi
    obtain ⟨l2, a1, a2⟩ := mark_row hs hi' (hm.1 i hi')
    rw [e, hr] at a1
    cases a1
    have pos := List.count_pos_iff.mpr (List.mem_of_getElem? a2)
    have le : l.count m ≤ 1 := count_le_one l fun i j hi hj => by
      have li : i < R.length := by
        have := (List.getElem?_eq_some_iff.mp hi).1
        rwa [hs l hl] at this
      have lj : j < R.length := by
        have := (List.getElem?_eq_some_iff.mp hj).1
        rwa [hs l hl] at this
      have ci : (col R i)[r]? = some m := by rw [col_at hr, getD_of hi]
      have cj : (col R j)[r]? = some m := by rw [col_at hr, getD_of hj]
      have ei := idxOf_of (hm.1 i li) ci
      have ej := idxOf_of (hm.1 j lj) cj
      have hn := hm.2
      exact (List.getElem?_inj (by rw [mark_length]; exact li) hn).mp (by rw [mark_at li, mark_at lj, ei, ej])
    omega
  have po : ∀ l : List Nat, l.length = R.length → (∀ c ∈ l, c = 88 ∨ c = 79 ∨ c = 46) → l.count 88 = 1 → l.count 79 = 1 → PO R.length l := fun l h1 h2 h3 h4 => by
    have := (count_three l).2.mpr h2
    exact ⟨h3, h4, by omega⟩
  intro l hl
  rcases List.mem_append.mp hl with hl | hl
  · exact po l (hs l hl) (sg l hl).2 (one 88 mx l hl) (one 79 mo l hl)
  · obtain ⟨i, hi, rfl⟩ := List.mem_map.mp hl
    have hi' := List.mem_range.mp hi
    refine po _ (col_length R i) (fun c hc => ?_) (mx.1 i hi') (mo.1 i hi')
    unfold col at hc
    obtain ⟨l, hl, rfl⟩ := List.mem_map.mp hc
    refine (sg l hl).2 _ ?_
    have := hs l hl
    exact List.mem_of_getElem? (at_getD (by omega))
/-! ### the places that the law looks for -/
theorem filter_range_count (m : Nat) : ∀ l : List Nat, ((List.range l.length).filter fun k => l.getD k 0 == m).length = l.count m := by
  intro l
  induction l with
  | nil => rfl
  | cons x r ih =>
    rw [List.length_cons, List.range_succ_eq_map, List.filter_cons, List.count_cons, List.filter_map, ← ih]
    simp only [List.getD_cons_zero]
    by_cases hx : (x == m) = true
    · rw [if_pos hx, if_pos hx]
      simp [Function.comp_def]
    · rw [if_neg hx, if_neg hx]
      simp [Function.comp_def]
theorem filter_range_one {m : Nat} {l : List Nat} (h : l.count m = 1) : ((List.range l.length).filter fun k => l.getD k 0 == m) = [l.idxOf m] := by
  have h1 := filter_range_count m l
  rw [h] at h1
  obtain ⟨a, ha⟩ := List.length_eq_one_iff.mp h1
  rw [ha]
  have hm : a ∈ (List.range l.length).filter fun k => l.getD k 0 == m := by rw [ha]; exact List.mem_cons_self
  obtain ⟨b, c⟩ := List.mem_filter.mp hm
  have hb := List.mem_range.mp b
  have e : l.getD a 0 = m := by simpa using c
  rw [idxOf_of h (by rw [at_getD hb, e])]
theorem count_reverse' (m : Nat) (l : List Nat) : l.reverse.count m = l.count m := List.count_reverse
theorem idxOf_reverse {m : Nat} {l : List Nat} (h : l.count m = 1) : l.reverse.idxOf m = l.length - 1 - l.idxOf m := by
  have hl : l.idxOf m < l.length := List.idxOf_lt_length_of_mem (mem_of_count h)
  refine idxOf_of (by rw [count_reverse', h]) ?_
  rw [List.getElem?_reverse (by omega)]
  have : l.length - 1 - (l.length - 1 - l.idxOf m) = l.idxOf m := by omega
  rw [this]
  exact idxOf_at (mem_of_count h)
/-- the law's places: L the lines from above -/
def places (L : List (List Nat)) (i m : Nat) : List Nat := ((List.range L.length).filter fun k => (L.getD k []).getD i 0 == m).map fun k => L.length - 1 - k
theorem getD_col (L : List (List Nat)) (i k : Nat) : (L.getD k []).getD i 0 = (col L i).getD k 0 := by
  unfold col
  simp only [List.getD_eq_getElem?_getD, List.getElem?_map]
  cases h : L[k]? with
  | none => simp
  | some l => simp
theorem col_reverse (R : List (List Nat)) (i : Nat) : col R.reverse i = (col R i).reverse := by
  unfold col
  rw [List.map_reverse]
theorem places_length (R : List (List Nat)) (i m : Nat) : (places R.reverse i m).length = (col R i).count m := by
  unfold places
  rw [List.length_map]
  have e : (fun k => ((R.reverse.getD k []).getD i 0 == m)) = fun k => ((col R i).reverse.getD k 0 == m) := by
    funext k
    rw [getD_col, col_reverse]
  rw [e, show R.reverse.length = (col R i).reverse.length by simp [col], filter_range_count, count_reverse']
theorem places_one {R : List (List Nat)} {i m : Nat} (h : (col R i).count m = 1) : places R.reverse i m = [(col R i).idxOf m] := by
  unfold places
  have e : (fun k => ((R.reverse.getD k []).getD i 0 == m)) = fun k => ((col R i).reverse.getD k 0 == m) := by
    funext k
    rw [getD_col, col_reverse]
  have hl : (col R i).idxOf m < (col R i).length := List.idxOf_lt_length_of_mem (mem_of_count h)
  rw [e, show R.reverse.length = (col R i).reverse.length by simp [col], filter_range_one (by rw [count_reverse', h]), idxOf_reverse h]
  simp
  omega
/-! ### pairs that are grids -/
structure Pair (xs ohs : List Nat) (n : Nat) : Prop where
  n2 : 2 ≤ n
  lx : xs.length = n
  lo : ohs.length = n
  bx : ∀ x ∈ xs, x < n
  bo : ∀ x ∈ ohs, x < n
  nx : xs.Nodup
  no : ohs.Nodup
  ne : ∀ (i x o : Nat), xs[i]? = some x → ohs[i]? = some o → x ≠ o
theorem law_pair {R : List (List Nat)} (h : LawOK R) : Pair (mark R 88) (mark R 79) R.length := by
  obtain ⟨n2, sg, mx, mo⟩ := h
  have hs : Sq R := fun l hl => (sg l hl).1
  have lt : ∀ m, MarkOK R m → ∀ x ∈ mark R m, x < R.length := fun m hm x hx => by
    unfold mark at hx
    obtain ⟨i, hi, rfl⟩ := List.mem_map.mp hx
    exact mark_lt (hm.1 i (List.mem_range.mp hi))
  refine ⟨n2, mark_length R 88, mark_length R 79, lt 88 mx, lt 79 mo, mx.2, mo.2, fun i x o hx ho e => ?_⟩
  have hi : i < R.length := by
    have := (List.getElem?_eq_some_iff.mp hx).1
    rwa [mark_length] at this
  rw [mark_at hi] at hx ho
  have e1 := Option.some.inj hx
  have e2 := Option.some.inj ho
  obtain ⟨l, a1, a2⟩ := mark_row hs hi (mx.1 i hi)
  obtain ⟨l2, b1, b2⟩ := mark_row hs hi (mo.1 i hi)
  rw [e2, ← e, ← e1, a1] at b1
  cases b1
  rw [a2] at b2
  cases b2
/-- a sign of a row -/
def sg (x o r : Nat) : Nat := if o = r then 79 else if x = r then 88 else 46
def rowL (xs ohs : List Nat) (r : Nat) : List Nat := List.zipWith (fun x o => sg x o r) xs ohs
def rows (xs ohs : List Nat) : List (List Nat) := (List.range xs.length).map (rowL xs ohs)
theorem count_range_map {f : Nat → Nat} {m a n : Nat} (ha : a < n) (e : f a = m) (u : ∀ r, r < n → f r = m → r = a) : ((List.range n).map f).count m = 1 ∧ ((List.range n).map f).idxOf m = a := by
  have hat : ((List.range n).map f)[a]? = some m := by
    rw [List.getElem?_map, List.getElem?_range ha, ← e]
    rfl
  have hc : ((List.range n).map f).count m = 1 := by
    have pos := List.count_pos_iff.mpr (List.mem_of_getElem? hat)
    have le := count_le_one (m := m) ((List.range n).map f) fun i j hi hj => by
      have li : i < n := by
        have := (List.getElem?_eq_some_iff.mp hi).1
        simpa using this
      have lj : j < n := by
        have := (List.getElem?_eq_some_iff.mp hj).1
        simpa using this
      rw [List.getElem?_map, List.getElem?_range li] at hi
      rw [List.getElem?_map, List.getElem?_range lj] at hj
      have h1 := u i li (Option.some.inj hi)
      have h2 := u j lj (Option.some.inj hj)
      omega
    omega
  exact ⟨hc, idxOf_of hc hat⟩
theorem rowL_at {xs ohs : List Nat} {r i x o : Nat} (hx : xs[i]? = some x) (ho : ohs[i]? = some o) : (rowL xs ohs r)[i]? = some (sg x o r) := by
  unfold rowL
  rw [List.getElem?_zipWith, hx, ho]
theorem rowL_length {xs ohs : List Nat} {n r : Nat} (p : Pair xs ohs n) : (rowL xs ohs r).length = n := by
  unfold rowL
  rw [List.length_zipWith, p.lx, p.lo, Nat.min_self]
theorem rows_length (xs ohs : List Nat) : (rows xs ohs).length = xs.length := by
  unfold rows
  rw [List.length_map, List.length_range]
theorem rows_col {xs ohs : List Nat} {i x o : Nat} (hx : xs[i]? = some x) (ho : ohs[i]? = some o) : col (rows xs ohs) i = (List.range xs.length).map fun r => sg x o r := by
  unfold col rows
  rw [List.map_map]
  refine List.map_congr_left fun r _ => ?_
  show (rowL xs ohs r).getD i 0 = sg x o r
  exact getD_of (rowL_at hx ho)
theorem rows_mark {xs ohs : List Nat} {n : Nat} (p : Pair xs ohs n) : mark (rows xs ohs) 88 = xs ∧ mark (rows xs ohs) 79 = ohs ∧ MarkOK (rows xs ohs) 88 ∧ MarkOK (rows xs ohs) 79 := by
  have key : ∀ i, i < n → ∃ x o, xs[i]? = some x ∧ ohs[i]? = some o ∧ (col (rows xs ohs) i).count 88 = 1 ∧ (col (rows xs ohs) i).idxOf 88 = x ∧ (col (rows xs ohs) i).count 79 = 1 ∧ (col (rows xs ohs) i).idxOf 79 = o := fun i hi => by
    obtain ⟨x, hx⟩ : ∃ x, xs[i]? = some x := ⟨_, List.getElem?_eq_getElem (by rw [p.lx]; exact hi)⟩
    obtain ⟨o, ho⟩ : ∃ o, ohs[i]? = some o := ⟨_, List.getElem?_eq_getElem (by rw [p.lo]; exact hi)⟩
    refine ⟨x, o, hx, ho, ?_⟩
    have ne := p.ne i _ _ hx ho
    have bx := p.bx _ (List.mem_of_getElem? hx)
    have bo := p.bo _ (List.mem_of_getElem? ho)
    rw [rows_col hx ho, p.lx]
    have a := count_range_map (f := fun r => sg x o r) (m := 88) bx (by unfold sg; rw [if_neg (Ne.symm ne), if_pos rfl]) (fun r _ hr => by
      unfold sg at hr
      split at hr
      · cases hr
      · split at hr
        · rename_i q; exact q.symm
        · cases hr)
    have b := count_range_map (f := fun r => sg x o r) (m := 79) bo (by unfold sg; rw [if_pos rfl]) (fun r _ hr => by
      unfold sg at hr
      split at hr
      · rename_i q; exact q.symm
      · split at hr <;> cases hr)
    exact ⟨a.1, a.2, b.1, b.2⟩
  have ln : (rows xs ohs).length = n := by rw [rows_length, p.lx]
  have e88 : mark (rows xs ohs) 88 = xs := by
    refine List.ext_getElem? fun i => ?_
    by_cases hi : i < n
    · obtain ⟨x, o, hx, ho, _, e, _⟩ := key i hi
      rw [mark_at (by rw [ln]; exact hi), hx, e]
    · rw [List.getElem?_eq_none (by rw [mark_length, ln]; omega), List.getElem?_eq_none (by rw [p.lx]; omega)]
  have e79 : mark (rows xs ohs) 79 = ohs := by
    refine List.ext_getElem? fun i => ?_
    by_cases hi : i < n
    · obtain ⟨x, o, hx, ho, _, _, _, e⟩ := key i hi
      rw [mark_at (by rw [ln]; exact hi), ho, e]
    · rw [List.getElem?_eq_none (by rw [mark_length, ln]; omega), List.getElem?_eq_none (by rw [p.lo]; omega)]
  refine ⟨e88, e79, ⟨fun i hi => ?_, by rw [e88]; exact p.nx⟩, ⟨fun i hi => ?_, by rw [e79]; exact p.no⟩⟩
  · obtain ⟨x, o, _, _, e, _⟩ := key i (by rw [← ln]; exact hi)
    exact e
  · obtain ⟨x, o, _, _, _, _, e, _⟩ := key i (by rw [← ln]; exact hi)
    exact e
theorem sg_cases (x o r : Nat) : sg x o r = 88 ∨ sg x o r = 79 ∨ sg x o r = 46 := by
  unfold sg
  split
  · exact .inr (.inl rfl)
  · split
    · exact .inl rfl
    · exact .inr (.inr rfl)
theorem rowL_signs {xs ohs : List Nat} {r : Nat} : ∀ c ∈ rowL xs ohs r, c = 88 ∨ c = 79 ∨ c = 46 := fun c hc => by
  unfold rowL at hc
  obtain ⟨i, hi⟩ := List.getElem?_of_mem hc
  rw [List.getElem?_zipWith] at hi
  cases h1 : xs[i]? with
  | none => rw [h1] at hi; cases hi
  | some x =>
    cases h2 : ohs[i]? with
    | none => rw [h1, h2] at hi; cases hi
    | some o =>
      rw [h1, h2] at hi
      have e := Option.some.inj hi
      rw [← e]
      exact sg_cases x o r
theorem rows_law {xs ohs : List Nat} {n : Nat} (p : Pair xs ohs n) : LawOK (rows xs ohs) := by
  have ln : (rows xs ohs).length = n := by rw [rows_length, p.lx]
  obtain ⟨_, _, m1, m2⟩ := rows_mark p
  refine ⟨by rw [ln]; exact p.n2, fun l hl => ?_, m1, m2⟩
  unfold rows at hl
  obtain ⟨r, _, rfl⟩ := List.mem_map.mp hl
  exact ⟨by rw [rowL_length p, ln], rowL_signs⟩
end GK
/-! Facts of the top, heaps, the two small defs of core_plain. -/
namespace GK
open PySem PySem.Spec PyProof.Rows L2
/-! ### built-ins by name -/
theorem bIsi : bootBuiltins ("isinstance" : Str) = some (.builtin "isinstance") := by kernel_rfl
theorem bInt : bootBuiltins ("int" : Str) = some (.type "int") := by kernel_rfl
theorem bBool : bootBuiltins ("bool" : Str) = some (.type "bool") := by kernel_rfl
theorem bStr : bootBuiltins ("str" : Str) = some (.type "str") := by kernel_rfl
theorem bList : bootBuiltins ("list" : Str) = some (.type "list") := by kernel_rfl
theorem bTuple : bootBuiltins ("tuple" : Str) = some (.type "tuple") := by kernel_rfl
theorem bLen : bootBuiltins ("len" : Str) = some (.builtin "len") := by kernel_rfl
theorem bAll : bootBuiltins ("all" : Str) = some (.builtin "all") := by kernel_rfl
theorem bMax : bootBuiltins ("max" : Str) = some (.builtin "max") := by kernel_rfl
abbrev sX : Str := Str.ofString "X"
abbrev sO : Str := Str.ofString "O"
abbrev sD : Str := Str.ofString "."
structure Gb (mg : Str → Option Value) : Prop where
  isi : mg "isinstance" = none
  int : mg "int" = none
  bool : mg "bool" = none
  str : mg "str" = none
  list : mg "list" = none
  tuple : mg "tuple" = none
  len : mg "len" = none
  all : mg "all" = none
  zip : mg "zip" = none
  range : mg "range" = none
  max : mg "max" = none
  least : ∃ t, mg "LEAST_SIZE" = some (.int 2 t)
  cross : ∃ t, mg "CROSS" = some (.str sX t)
  ring : ∃ t, mg "RING" = some (.str sO t)
  noth : ∃ t, mg "NOTHING" = some (.str sD t)
/-! ### heaps -/
section
variable {H H1 H2 : Hp} {p a : Addr} {o : HO} {K : PySem.W.Frag} {xs : List V}
theorem same_new (h : H p = none) : Same H (upd H p o) := fun b x e => by
  rw [upd_ne (ne_of_none e h)]
  exact e
theorem snew (s : Same H H1) (h : H1 p = none) : Same H (upd H1 p o) := s.trans (same_new h)
theorem swr (s : Same H H1) (h : H p = none) : Same H (upd H1 p o) := fun b x e => by
  rw [upd_ne (ne_of_none e h)]
  exact s b x e
theorem sat (s : Same H H1) {o : HO} (h : H a = some o) : H1 a = some o := s a o h
theorem at_new {u : HO} (h : H a = some u) (hp : H p = none) : (upd H p o) a = some u := by
  rw [upd_ne (ne_of_none h hp)]
  exact h
theorem at_upd {u : HO} (h : H a = some u) (ne : a ≠ p) : (upd H p o) a = some u := by
  rw [upd_ne ne]
  exact h
theorem sqL (h : H a = some (.lst xs)) : SqL K H a xs := SqL.of h
theorem sqT (h : H a = some (.tup xs)) : SqT K H a xs := SqT.of h
/-- the list of ints -/
abbrev iv (xs : List Nat) : List V := xs.map fun (x : Nat) => V.int (x : Int)
theorem iv_length (xs : List Nat) : (iv xs).length = xs.length := List.length_map _
theorem iv_at {xs : List Nat} {i x : Nat} (h : xs[i]? = some x) : (iv xs)[i]? = some (.int (x : Int)) := by
  rw [List.getElem?_map, h]
  rfl
theorem iv_inv {xs : List Nat} {i : Nat} {v : V} (h : (iv xs)[i]? = some v) : ∃ x, xs[i]? = some x ∧ v = .int (x : Int) := by
  rw [List.getElem?_map] at h
  cases q : xs[i]? with
  | none => rw [q] at h; cases h
  | some x =>
    rw [q] at h
    exact ⟨x, rfl, (Option.some.inj h).symm⟩
end
theorem line_of {n : Nat} (h : n ≤ 16777216) : n ≤ sizeLine := by
  rw [sizeLine_eq]
  exact h
theorem line_lt {n : Nat} (h : n < 16777216) : n < sizeLine := by
  rw [sizeLine_eq]
  exact h
section
variable {P : Program} {w : World} {K : PySem.W.Frag} {mg : Str → Option Value} {base : Heap} {f : Addr} {fd : FuncData}
theorem Fun.cl {cx : CXT} {k : Nat} {x : Str} {st : Stmt} {ps : List Str} {sp : Sp} (F : L2.Fun K x x st f fd) (G : FnOk P w K mg base cx k f fd ps sp) (g : mg x = some (.ref f))
    (b : ∀ (kV doc pm : Value) (an : Option Addr) (cdv ct : Value) (us : List Value), us.length = ps.length → bindArgs (PySem.W.fnOf x x (defArgs st) (defBody st) (defScope st) .none kV doc pm an cdv ct) ⟨us, []⟩ = pure (ps.zip us)) : Cl P w K mg base cx k x ps sp :=
  ⟨f, fd, G, g, F.kp, F.binds b⟩
/-! ### is_integer, is_place_below -/
abbrev sIsInt : Stmt := topS 2
abbrev sPlace : Stmt := topS 3
theorem scIsInt : FnScope ["value"] ["value"] (defScope sIsInt) := ⟨rfl, rfl, rfl, by decide +kernel, rfl, by decide +kernel, by decide +kernel⟩
theorem scPlace : FnScope ["value", "most"] ["value", "most"] (defScope sPlace) := ⟨rfl, rfl, rfl, by decide +kernel, rfl, by decide +kernel, by decide +kernel⟩
def spIsInt : Sp := fun vs H Q _ => ∃ i : Int, vs = [.int i] ∧ Q (.bl true) H
theorem ok_isint (F : L2.Fun K "is_integer" "is_integer" sIsInt f fd) (B : Gb mg) : FnOk P w K mg base CX0 1 f fd ["value"] spIsInt := by
  refine F.ok scIsInt (fun vs H Q E h => ?_) (fun cdv A outer s H vs Q E hr h => ?_)
  · obtain ⟨i, rfl, _⟩ := h
    rfl
  · obtain ⟨i, rfl, q⟩ := h
    refine ⟨_, pss_one (ps_ret (pe_and (pe_callB call_isi (by rfl) B.isi bIsi (pa_cons (pv 0) (pa_cons (pe_bltn (v := .ty "int") (by rfl) B.int bInt rfl) pa_nil)))
      (pe_one (pe_not (pe_callB call_isi (by rfl) B.isi bIsi (pa_cons (pv 0) (pa_cons (pe_bltn (v := .ty "bool") (by rfl) B.bool bBool rfl) pa_nil))))))), ?_⟩
    refine ⟨_, rfl, .int i, .ty "int", _, _, true, rfl, .ty _, .base (.int i), kit_ty (by decide +kernel), true, rfl, ?_⟩
    refine iteT ⟨_, rfl, .int i, .ty "bool", _, _, false, rfl, .ty _, .base (.int i), kit_ty (by decide +kernel), false, rfl, ?_⟩
    exact q
def spPlace : Sp := fun vs H Q _ => ∃ i n : Int, vs = [.int i, .int n] ∧ 0 ≤ i ∧ i < n ∧ Q (.bl true) H
theorem ok_place (F : L2.Fun K "is_place_below" "is_place_below" sPlace f fd) (c : Cl P w K mg base CX0 1 "is_integer" ["value"] spIsInt) : FnOk P w K mg base CX0 2 f fd ["value", "most"] spPlace := by
  refine F.ok scPlace (fun vs H Q E h => ?_) (fun cdv A outer s H vs Q E hr h => ?_)
  · obtain ⟨i, n, rfl, _⟩ := h
    rfl
  · obtain ⟨i, n, rfl, h0, h1, q⟩ := h
    refine ⟨_, pss_one (ps_ret (pe_and (pe_cl c hr (by decide) (by rfl) pass0 (pa_cons (pv 0) pa_nil)) (pe_one (pe_chain op_le op_lt pe_int (pv 0) (pv 1))))), ?_⟩
    refine ⟨_, rfl, i, rfl, true, rfl, iteT ?_⟩
    refine ⟨_, rfl, 0, i, rfl, rfl, _, rfl, ?_⟩
    rw [decide_eq_true h0]
    refine iteT ⟨_, rfl, i, n, rfl, rfl, ?_⟩
    show Q (.bl (decide (i < n))) H
    rw [decide_eq_true h1]
    exact q
end
end GK
/-! Loops and comprehensions over anything that is walked, n turns. -/
namespace GK
open PySem PySem.Spec PyProof.Rows L2
theorem lc_any {J : It} {n : Nat} {g : TG} {tt : TT} {te : TE} {vs : List Nat} {σ : L2.St} {H1 : Hp} {D : Addr} {Qd : Hp → Prop} (Pv : Nat → Hp → Prop) (h0 : Pv 0 (upd H1 D (.lst [])))
    (hgo : ∀ i H, i < n → Pv i H → J.go i H) (hst : ∀ H, Pv n H → J.stop n H)
    (hs : ∀ i H x H', i < n → Pv i H → J.yld i H x H' → g x (wipe σ vs) H' fun σ2 H2 => wipe σ2 vs = wipe σ vs ∧ tt σ2 H2 fun b H3 =>
      if b = true then te σ2 H3 fun y H4 => ∃ acc, H4 D = some (.lst acc) ∧ acc.length < sizeLine ∧ Pv (i + 1) (upd H4 D (.lst (acc ++ [y]))) else Pv (i + 1) H3) (hd : ∀ H, Pv n H → Qd H) :
    ∃ W : Nat → Nat → Hp → Prop, (∃ m, W 0 m (upd H1 D (.lst []))) ∧ ∀ i m H, W i m H →
      (J.stop i H ∧ Qd H) ∨ (J.go i H ∧ ∃ Nx : Hp → Prop, (∀ H', Nx H' → ∃ m', m' < m ∧ W (i + 1) m' H') ∧ ∀ x H', J.yld i H x H' → g x (wipe σ vs) H' fun σ2 H2 => wipe σ2 vs = wipe σ vs ∧ tt σ2 H2 fun b H3 =>
        if b = true then te σ2 H3 fun y H4 => ∃ acc, H4 D = some (.lst acc) ∧ acc.length < sizeLine ∧ Nx (upd H4 D (.lst (acc ++ [y]))) else Nx H3) := by
  refine ⟨fun i m H => m = n - i ∧ i ≤ n ∧ Pv i H, ⟨n, by simp, Nat.zero_le _, h0⟩, ?_⟩
  rintro i m H ⟨rfl, hi, p⟩
  by_cases hlt : i < n
  · exact .inr ⟨hgo i H hlt p, Pv (i + 1), fun H' p' => ⟨n - (i + 1), by omega, rfl, hlt, p'⟩, fun x H' y => hs i H x H' hlt p y⟩
  · have e : i = n := by omega
    subst e
    exact .inl ⟨hst H p, hd H p⟩
theorem dc_any {J : It} {n : Nat} {g : TG} {tt : TT} {tk tv : TE} {vs : List Nat} {σ : L2.St} {H1 : Hp} {D : Addr} {Qd : Hp → Prop} (Pv : Nat → Hp → Prop) (h0 : Pv 0 (upd H1 D (.dK [])))
    (hgo : ∀ i H, i < n → Pv i H → J.go i H) (hst : ∀ H, Pv n H → J.stop n H)
    (hs : ∀ i H x H', i < n → Pv i H → J.yld i H x H' → g x (wipe σ vs) H' fun σ2 H2 => wipe σ2 vs = wipe σ vs ∧ tt σ2 H2 fun b H3 =>
      if b = true then tk σ2 H3 fun y H4 => tv σ2 H4 fun z H5 => ∃ kvs k, y = kV k ∧ H5 D = some (.dK kvs) ∧ kvs.length < sizeLine ∧ Pv (i + 1) (upd H5 D (.dK (putK kvs k z))) else Pv (i + 1) H3) (hd : ∀ H, Pv n H → Qd H) :
    ∃ W : Nat → Nat → Hp → Prop, (∃ m, W 0 m (upd H1 D (.dK []))) ∧ ∀ i m H, W i m H →
      (J.stop i H ∧ Qd H) ∨ (J.go i H ∧ ∃ Nx : Hp → Prop, (∀ H', Nx H' → ∃ m', m' < m ∧ W (i + 1) m' H') ∧ ∀ x H', J.yld i H x H' → g x (wipe σ vs) H' fun σ2 H2 => wipe σ2 vs = wipe σ vs ∧ tt σ2 H2 fun b H3 =>
        if b = true then tk σ2 H3 fun y H4 => tv σ2 H4 fun z H5 => ∃ kvs k, y = kV k ∧ H5 D = some (.dK kvs) ∧ kvs.length < sizeLine ∧ Nx (upd H5 D (.dK (putK kvs k z))) else Nx H3) := by
  refine ⟨fun i m H => m = n - i ∧ i ≤ n ∧ Pv i H, ⟨n, by simp, Nat.zero_le _, h0⟩, ?_⟩
  rintro i m H ⟨rfl, hi, p⟩
  by_cases hlt : i < n
  · exact .inr ⟨hgo i H hlt p, Pv (i + 1), fun H' p' => ⟨n - (i + 1), by omega, rfl, hlt, p'⟩, fun x H' y => hs i H x H' hlt p y⟩
  · have e : i = n := by omega
    subst e
    exact .inl ⟨hst H p, hd H p⟩
theorem for_any {J : It} {n : Nat} {g : TG} {tb : TS} {D : Ends} {σ : L2.St} {H : Hp} (Pv : Nat → L2.St → Hp → Prop) (h0 : Pv 0 σ H)
    (hgo : ∀ i σ H, i < n → Pv i σ H → J.go i H) (hst : ∀ σ H, Pv n σ H → J.stop n H)
    (hs : ∀ i σ H x H', i < n → Pv i σ H → J.yld i H x H' → g x σ H' fun σ2 H2 => tb { D with nx := Pv (i + 1), ct := Pv (i + 1), bk := D.nx } σ2 H2) (hd : ∀ σ H, Pv n σ H → D.nx σ H) :
    ∃ W : Nat → Nat → L2.St → Hp → Prop, (∃ m, W 0 m σ H) ∧ ∀ i m σ H, W i m σ H →
      (J.stop i H ∧ D.nx σ H) ∨ (J.go i H ∧ ∃ N : L2.St → Hp → Prop, (∀ σ' H', N σ' H' → ∃ m', m' < m ∧ W (i + 1) m' σ' H') ∧ ∀ x H', J.yld i H x H' → g x σ H' fun σ2 H2 => tb { D with nx := N, ct := N, bk := D.nx } σ2 H2) := by
  refine ⟨fun i m σ H => m = n - i ∧ i ≤ n ∧ Pv i σ H, ⟨n, by simp, Nat.zero_le _, h0⟩, ?_⟩
  rintro i m σ H ⟨rfl, hi, p⟩
  by_cases hlt : i < n
  · exact .inr ⟨hgo i σ H hlt p, Pv (i + 1), fun σ' H' p' => ⟨n - (i + 1), by omega, rfl, hlt, p'⟩, fun x H' y => hs i σ H x H' hlt p y⟩
  · have e : i = n := by omega
    subst e
    exact .inl ⟨hst σ H p, hd σ H p⟩
theorem yesI {σ : L2.St} {H : Hp} {A B : Hp → Prop} (h : A H) : tYes σ H (fun b H3 => if b = true then A H3 else B H3) := by
  show (if true = true then A H else B H)
  rw [if_pos rfl]
  exact h
/-! ### a list or a tuple at a name -/
section
variable {X : Cx} {tg : Expr}
structure ISeq (K : PySem.W.Frag) (i : Nat) (σ : L2.St) (H : Hp) (R : It → Hp → Prop) : Prop where
  h : ∃ a, σ[i]? = some (some (.ref a)) ∧ (((∃ xs, SqL K H a xs) ∧ R (Itl K a) H) ∨ ((∃ xs, SqT K H a xs) ∧ R (Itt K a) H))
abbrev iSeq (K : PySem.W.Frag) (i : Nat) : TI := fun σ H R => ISeq K i σ H R
theorem pi_seq {e : Expr} {i : Nat} (he : PE X e (tVar i)) : PI X tg e (iSeq X.K i) := by
  refine ⟨fun pins s σ H R I h => ?_⟩
  obtain ⟨a, e1, h | h⟩ := h.h
  · exact (pi_list he).run pins s σ H R I ⟨_, e1, a, rfl, h⟩
  · exact (pi_tup he).run pins s σ H R I ⟨_, e1, a, rfl, h⟩
end
/-- tracked, a list or a tuple -/
def LT (H : Hp) (a : Addr) (xs : List V) : Prop := H a = some (.lst xs) ∨ H a = some (.tup xs)
theorem LT.same {H H1 : Hp} {a : Addr} {xs : List V} (s : Same H H1) (h : LT H a xs) : LT H1 a xs := h.elim (fun q => .inl (s _ _ q)) fun q => .inr (s _ _ q)
theorem LT.new {H : Hp} {a p : Addr} {o : HO} {xs : List V} (h : LT H a xs) (hp : H p = none) : LT (upd H p o) a xs := h.same (same_new hp)
theorem LT.len {K : PySem.W.Frag} {H : Hp} {a : Addr} {xs : List V} (h : LT H a xs) : LenV K (.ref a) H xs.length := h.elim (fun q => .inl ⟨xs, SqL.of q, rfl⟩) fun q => .inr ⟨xs, SqT.of q, rfl⟩
theorem LT.iter {K : PySem.W.Frag} {H : Hp} {a : Addr} {xs : List V} {i : Nat} {σ : L2.St} {R : It → Hp → Prop} (e : σ[i]? = some (some (.ref a))) (h : LT H a xs) (r1 : H a = some (.lst xs) → R (Itl K a) H) (r2 : H a = some (.tup xs) → R (Itt K a) H) : ISeq K i σ H R :=
  ⟨⟨a, e, h.elim (fun q => .inl ⟨⟨xs, SqL.of q⟩, r1 q⟩) fun q => .inr ⟨⟨xs, SqT.of q⟩, r2 q⟩⟩⟩
/-- it yields the items xs while Good -/
structure Wk (J : It) (xs : List V) (Good : Hp → Prop) : Prop where
  go : ∀ i H, i < xs.length → Good H → J.go i H
  st : ∀ H, Good H → J.stop xs.length H
  yd : ∀ i H x H', Good H → J.yld i H x H' → H' = H ∧ xs[i]? = some x
theorem wk_list {K : PySem.W.Frag} {a : Addr} {xs : List V} : Wk (Itl K a) xs (fun H => SqL K H a xs) :=
  ⟨fun i H hi h => ⟨xs, xs[i], h, List.getElem?_eq_getElem hi⟩, fun H h => ⟨xs, h, Nat.le_refl _⟩, fun i H x H' h y => ⟨y.1, y.2 xs h⟩⟩
theorem wk_tup {K : PySem.W.Frag} {a : Addr} {xs : List V} : Wk (Itt K a) xs (fun H => SqT K H a xs) :=
  ⟨fun i H hi h => ⟨xs, xs[i], h, List.getElem?_eq_getElem hi⟩, fun H h => ⟨xs, h, Nat.le_refl _⟩, fun i H x H' h y => ⟨y.1, y.2 xs h⟩⟩
theorem LT.iterW {K : PySem.W.Frag} {H : Hp} {a : Addr} {xs : List V} {i : Nat} {σ : L2.St} {R : It → Hp → Prop} (e : σ[i]? = some (some (.ref a))) (h : LT H a xs) (r : ∀ (J : It) (Good : Hp → Prop), Wk J xs Good → (∀ H', Same H H' → Good H') → R J H) : ISeq K i σ H R :=
  LT.iter e h (fun q => r _ _ (wk_list (K := K) (a := a)) fun H' s => SqL.of (s _ _ q)) fun q => r _ _ (wk_tup (K := K) (a := a)) fun H' s => SqT.of (s _ _ q)
end GK
/-! is_rows, is_pair_of_grid -/
namespace GK
open PySem PySem.Spec PyProof.Rows L2
theorem all_rep (n : Nat) : (List.replicate n true).all id = true := by
  induction n with
  | zero => rfl
  | succ n ih => rw [List.replicate_succ, List.all_cons, ih]; rfl
theorem rep_snoc (n : Nat) (b : Bool) : List.replicate n b ++ [b] = List.replicate (n + 1) b := by
  rw [List.replicate_succ']
theorem find_none {xs : List Nat} {x : Nat} (h : x ∉ xs) : valV (xs.map fun (y : Nat) => ((Sum.inl (y : Int) : Key), V.bl true)) (Sum.inl (x : Int)) = none := by
  unfold valV
  rw [List.find?_eq_none.mpr (fun p hp => ?_)]
  · rfl
  · obtain ⟨y, hy, rfl⟩ := List.mem_map.mp hp
    intro e
    have e2 : (Sum.inl (y : Int) : Key) = Sum.inl (x : Int) := of_decide_eq_true e
    have e3 : (y : Int) = (x : Int) := Sum.inl.inj e2
    have e4 : y = x := by omega
    exact h (e4 ▸ hy)
theorem notin_take {xs : List Nat} (hn : xs.Nodup) {i x : Nat} (h : xs[i]? = some x) : x ∉ xs.take i := fun hm => by
  obtain ⟨j, hj⟩ := List.getElem?_of_mem hm
  have lj : j < i := by
    have := (List.getElem?_eq_some_iff.mp hj).1
    rw [List.length_take] at this
    omega
  rw [List.getElem?_take_of_lt lj] at hj
  have e := (List.getElem?_inj (List.getElem?_eq_some_iff.mp hj).1 hn).mp (hj.trans h.symm)
  omega
section
variable {P : Program} {w : World} {K : PySem.W.Frag} {mg : Str → Option Value} {base : Heap} {f : Addr} {fd : FuncData}
abbrev sRows : Stmt := topS 13
theorem scRows : FnScope ["value", "n", "row"] ["value", "n"] (defScope sRows) := ⟨rfl, rfl, rfl, by decide +kernel, rfl, by decide +kernel, by decide +kernel⟩
theorem kit_lt (t : String) (h : t = "list" ∨ t = "tuple") : PySem.W.kitAny K (.type t) [.type "list", .type "tuple"] = some true := by
  rcases h with rfl | rfl
  · exact kitAny_cons (b := true) (kit_ty (by decide +kernel)) (fun e => nomatch e) fun _ => rfl
  · exact kitAny_cons (b := false) (kit_ty (by decide +kernel)) (fun _ => kitAny_cons (b := true) (kit_ty (by decide +kernel)) (fun e => nomatch e) fun _ => rfl) fun e => nomatch e
theorem LT.ty {H : Hp} {a : Addr} {xs : List V} (h : LT H a xs) : ∃ t, (t = "list" ∨ t = "tuple") ∧ ∀ H', Same H H' → TyX K H' (.ref a) (.type t) :=
  h.elim (fun q => ⟨_, .inl rfl, fun H' s => .base (.lst (s _ _ q))⟩) fun q => ⟨_, .inr rfl, fun H' s => .base (.tup (s _ _ q))⟩
/-- a sequence in which each number below n stands once -/
structure Perm (xs : List Nat) (n : Nat) : Prop where
  l : xs.length = n
  b : ∀ x ∈ xs, x < n
  d : xs.Nodup
def spRows : Sp := fun vs H Q _ => ∃ (a : Addr) (xs : List Nat) (n : Nat), vs = [.ref a, .int (n : Int)] ∧ LT H a (iv xs) ∧ Perm xs n ∧ n ≤ 100000 ∧ ∀ H', Same H H' → Q (.bl true) H'
theorem ok_rows (F : L2.Fun K "is_rows" "is_rows" sRows f fd) (B : Gb mg) (c : Cl P w K mg base CX0 2 "is_place_below" ["value", "most"] spPlace) : FnOk P w K mg base CX0 3 f fd ["value", "n"] spRows := by
  refine F.ok scRows (fun vs H Q E h => ?_) (fun cdv A outer s H vs Q E hr h => ?_)
  · obtain ⟨a, xs, n, rfl, _⟩ := h
    rfl
  · obtain ⟨a, xs, n, rfl, hL, hp, hn, q⟩ := h
    have nd := scRows.nd
    refine ⟨_, pss_cons (ps_if (PW.pt (pw_or (pt_not (pt_val (pe_callB call_isiT (by rfl) B.isi bIsi (pa_cons (pv 0) (pa_cons (pe_tup (pa_cons (pe_bltn (v := .ty "list") (by rfl) B.list bList rfl) (pa_cons (pe_bltn (v := .ty "tuple") (by rfl) B.tuple bTuple rfl) pa_nil))) pa_nil)))))
          (pw_or1 (pt_cmpR op_ne (pe_callB call_len (by rfl) B.len bLen (pa_cons (pv 0) pa_nil)) (pv 1) (nomark _)))))
        (pss_one (ps_ret pe_bl)) pss_nil)
      (pss_cons (ps_if (pt_not (pt_val (pe_callB (cr_all rfl) (by rfl) B.all bAll (pa_cons
          (pe_lc (own := [("row", 2)]) (g := gName 2) (tt := tYes) rfl nd (pi_seq (pv 0)) (blkOk_by (N := ["value", "n", "row"]) (sc := defScope sRows) (by decide +kernel)) (fun _ _ _ _ _ => pg_name (i := 2) nd rfl (Or.inl rfl)) (fun _ _ _ _ _ => pts_nil)
            (fun _ _ _ _ _ => pe_cl c hr (by decide) (by rfl) pass0 (pa_cons (pv 2) (pa_cons (pv 1) pa_nil)))) pa_nil))))
        (pss_one (ps_ret pe_bl)) pss_nil)
      (pss_one (ps_ret (pe_cmpR op_eq (pe_callB call_lenD (by rfl) B.len bLen (pa_cons
          (pe_dc (own := [("row", 2)]) (g := gName 2) (tt := tYes) rfl nd (pi_seq (pv 0)) (blkOk_by (N := ["value", "n", "row"]) (sc := defScope sRows) (by decide +kernel)) (fun _ _ _ _ _ => pg_name (i := 2) nd rfl (Or.inl rfl)) (fun _ _ _ _ _ => pts_nil)
            (fun _ _ _ _ _ => pv 2) (fun _ _ _ _ _ => pe_bl)) pa_nil)) (pv 1) (nomark _))))), ?_⟩
    obtain ⟨ty, hty2, hty⟩ := hL.ty (K := K)
    -- isinstance(value, (list, tuple)), len(value) != n
    refine ⟨_, rfl, by show 2 ≤ sizeLine; exact line_of (by decide), fun p np => ?_⟩
    have s1 : Same H (upd H p (.tup [.ty "list", .ty "tuple"])) := same_new np
    refine ⟨.ref a, p, _, _, _, true, rfl, upd_same, .cons (.ty _) (.cons (.ty _) .nil), hty _ s1, kit_lt ty hty2, true, rfl, ?_⟩
    refine iteF ?_
    refine ⟨_, rfl, .ref a, _, rfl, (hL.same s1).len, _, rfl, rfl, _, rfl, ?_⟩
    refine iteNS (by rw [iv_length, hp.l]) ?_
    generalize upd H p (.tup [.ty "list", .ty "tuple"]) = H1 at s1
    -- not all([..])
    refine LT.iterW (by rfl) (hL.same s1) ?_
    intro J Good wk gd D hD
    refine lc_any (tt := tYes) (n := (iv xs).length) (fun i H' => Same H1 H' ∧ H' D = some (.lst ((List.replicate i true).map V.bl))) ⟨same_new hD, upd_same⟩
      (fun i H' hi hP => wk.go i H' hi (gd H' hP.1)) (fun H' hP => wk.st H' (gd H' hP.1)) (fun i H' x H'' hi hP hy => ?_) (fun H' hP => ?_)
    · obtain ⟨sm, eD⟩ := hP
      obtain ⟨rfl, ex⟩ := wk.yd i H' x H'' (gd H' sm) hy
      obtain ⟨v, hv, rfl⟩ := iv_inv ex
      have hvn := hp.b v (List.mem_of_getElem? hv)
      refine ⟨rfl, ?_⟩
      refine yesI ?_
      refine ⟨_, rfl, _, rfl, (v : Int), (n : Int), rfl, by omega, by omega, _, eD, ?_, swr sm hD, ?_⟩
      · rw [List.length_map, List.length_replicate]
        rw [iv_length, hp.l] at hi
        exact line_lt (by omega)
      · rw [upd_same]
        show some (HO.lst ((List.replicate i true).map V.bl ++ [true].map V.bl)) = _
        rw [← List.map_append, rep_snoc]
    · obtain ⟨sm, eD⟩ := hP
      refine ⟨D, List.replicate (iv xs).length true, rfl, SqL.of eD, _, rfl, ?_⟩
      rw [all_rep]
      refine iteF ?_
      -- len({row: True ..}) == n
      refine LT.iterW (by rfl) (hL.same (s1.trans sm)) ?_
      intro J2 Good2 wk2 gd2 D2 hD2
      refine dc_any (tt := tYes) (n := (iv xs).length) (fun i H'' => Same H' H'' ∧ H'' D2 = some (.dK ((xs.take i).map fun (y : Nat) => ((Sum.inl (y : Int) : Key), V.bl true)))) ⟨same_new hD2, upd_same⟩
        (fun i H'' hi hP => wk2.go i H'' hi (gd2 H'' hP.1)) (fun H'' hP => wk2.st H'' (gd2 H'' hP.1)) (fun i H2 x H3 hi hP hy => ?_) (fun H2 hP => ?_)
      · obtain ⟨sm2, eD2⟩ := hP
        obtain ⟨rfl, ex⟩ := wk2.yd i H2 x H3 (gd2 H2 sm2) hy
        obtain ⟨v, hv, rfl⟩ := iv_inv ex
        refine ⟨rfl, ?_⟩
        refine yesI ?_
        refine ⟨_, rfl, _, Sum.inl (v : Int), rfl, eD2, ?_, swr sm2 hD2, ?_⟩
        · rw [List.length_map, List.length_take]
          rw [iv_length, hp.l] at hi
          exact line_lt (by omega)
        · rw [upd_same, putK_new _ (find_none (notin_take hp.d hv)), List.take_add_one, hv, List.map_append]
          rfl
      · obtain ⟨sm2, eD2⟩ := hP
        refine ⟨D2, _, rfl, eD2, _, rfl, rfl, ?_⟩
        have e : ((List.map (fun (y : Nat) => ((Sum.inl (y : Int) : Key), V.bl true)) (List.take (iv xs).length xs)).length : Int) = (n : Int) := by
          rw [List.length_map, List.length_take, iv_length, hp.l]
          omega
        rw [e, decide_eq_true rfl]
        exact q _ ((s1.trans sm).trans sm2)
end
end GK
/-! zip of two names, is_pair_of_grid -/
namespace GK
open PySem PySem.Spec PyProof.Rows L2
/-- new pairs of the items of xs and ys while Good -/
structure WkZ (J : It) (xs ys : List V) (n : Nat) (Good : Hp → Prop) : Prop where
  go : ∀ i H, i < n → Good H → J.go i H
  st : ∀ H, Good H → J.stop n H
  yd : ∀ i H v H', Good H → J.yld i H v H' → ∃ T x y, v = .ref T ∧ H T = none ∧ H' = upd H T (.tup [x, y]) ∧ xs[i]? = some x ∧ ys[i]? = some y
theorem wkz_list {K : PySem.W.Frag} {a b : Addr} {xs ys : List V} {n : Nat} (h1 : xs.length = n) (h2 : ys.length = n) : WkZ (Itz K a b) xs ys n (fun H => SqL K H a xs ∧ SqL K H b ys) :=
  ⟨fun i H hi h => ⟨xs, ys, xs[i], ys[i], h.1, h.2, List.getElem?_eq_getElem (by omega), List.getElem?_eq_getElem (by omega)⟩, fun H h => ⟨xs, ys, h.1, h.2, .inl (by omega)⟩, fun i H v H' h y => by
    obtain ⟨T, x, z, e, hT, e2, f1, f2⟩ := y
    exact ⟨T, x, z, e, hT, e2, f1 _ h.1, f2 _ h.2⟩⟩
theorem wkz_tup {K : PySem.W.Frag} {a b : Addr} {xs ys : List V} {n : Nat} (h1 : xs.length = n) (h2 : ys.length = n) : WkZ (RZ.ItzT K a b) xs ys n (fun H => SqT K H a xs ∧ SqT K H b ys) :=
  ⟨fun i H hi h => ⟨xs, ys, xs[i], ys[i], h.1, h.2, List.getElem?_eq_getElem (by omega), List.getElem?_eq_getElem (by omega)⟩, fun H h => ⟨xs, ys, h.1, h.2, .inl (by omega)⟩, fun i H v H' h y => by
    obtain ⟨T, x, z, e, hT, e2, f1, f2⟩ := y
    exact ⟨T, x, z, e, hT, e2, f1 _ h.1, f2 _ h.2⟩⟩
structure IZipV (K : PySem.W.Frag) (i j : Nat) (σ : L2.St) (H : Hp) (R : It → Hp → Prop) : Prop where
  h : ∃ a b, σ[i]? = some (some (.ref a)) ∧ σ[j]? = some (some (.ref b)) ∧ ∃ xs ys, (SqL K H a xs ∧ SqL K H b ys ∧ R (Itz K a b) H) ∨ (SqT K H a xs ∧ SqT K H b ys ∧ R (RZ.ItzT K a b) H)
theorem pi_zipV {X : Cx} {e e2 : Expr} {i j : Nat} {p pos tpos : Pos} {elts : List Expr} {kk : Nat} (hg : Gl X "zip") (hm : X.mg "zip" = none) (he : PE X e (tVar i)) (he2 : PE X e2 (tVar j))
    (hs : starEach [e, e2] X.env = (false, eval e X.env) :: starEach [e2] X.env := by rfl) (hs2 : starEach [e2] X.env = (false, eval e2 X.env) :: starEach [] X.env := by rfl) (hpl : (backTo pos (starEach [e2] X.env)).any (·.1) = false := by rfl) :
    PI X (.Tuple elts kk tpos) (.Call (.Name "zip" p) [e, e2] [] pos) (fun σ H R => IZipV X.K i j σ H R) := by
  refine ⟨fun pins s σ H R I h => ?_⟩
  obtain ⟨a, b, e1, e2, xs, ys, h⟩ := h.h
  exact (RZ.pi_zipA hg hm (pa_cons he (pa_cons he2 pa_nil hs2) hs) hs hpl).run pins s σ H R I ⟨_, e1, _, e2, a, b, xs, ys, rfl, h⟩
/-- two tracked lists, or two tracked tuples -/
def LT2 (H : Hp) (a b : Addr) (xs ys : List V) : Prop := (H a = some (.lst xs) ∧ H b = some (.lst ys)) ∨ (H a = some (.tup xs) ∧ H b = some (.tup ys))
theorem LT2.same {H H1 : Hp} {a b : Addr} {xs ys : List V} (s : Same H H1) (h : LT2 H a b xs ys) : LT2 H1 a b xs ys := h.elim (fun q => .inl ⟨s _ _ q.1, s _ _ q.2⟩) fun q => .inr ⟨s _ _ q.1, s _ _ q.2⟩
theorem LT2.l {H : Hp} {a b : Addr} {xs ys : List V} (h : LT2 H a b xs ys) : LT H a xs := h.elim (fun q => .inl q.1) fun q => .inr q.1
theorem LT2.r {H : Hp} {a b : Addr} {xs ys : List V} (h : LT2 H a b xs ys) : LT H b ys := h.elim (fun q => .inl q.2) fun q => .inr q.2
theorem LT2.iterW {K : PySem.W.Frag} {H : Hp} {a b : Addr} {xs ys : List V} {n i j : Nat} {σ : L2.St} {R : It → Hp → Prop} (e : σ[i]? = some (some (.ref a))) (e2 : σ[j]? = some (some (.ref b))) (h : LT2 H a b xs ys) (h1 : xs.length = n) (h2 : ys.length = n)
    (r : ∀ (J : It) (Good : Hp → Prop), WkZ J xs ys n Good → (∀ H', Same H H' → Good H') → R J H) : IZipV K i j σ H R := by
  refine ⟨a, b, e, e2, xs, ys, ?_⟩
  rcases h with ⟨q1, q2⟩ | ⟨q1, q2⟩
  · exact .inl ⟨SqL.of q1, SqL.of q2, r _ _ (wkz_list (K := K) (a := a) (b := b) h1 h2) fun H' s => ⟨SqL.of (s _ _ q1), SqL.of (s _ _ q2)⟩⟩
  · exact .inr ⟨SqT.of q1, SqT.of q2, r _ _ (wkz_tup (K := K) (a := a) (b := b) h1 h2) fun H' s => ⟨SqT.of (s _ _ q1), SqT.of (s _ _ q2)⟩⟩
theorem Pair.px {xs ohs : List Nat} {n : Nat} (p : Pair xs ohs n) : Perm xs n := ⟨p.lx, p.bx, p.nx⟩
theorem Pair.po {xs ohs : List Nat} {n : Nat} (p : Pair xs ohs n) : Perm ohs n := ⟨p.lo, p.bo, p.no⟩
section
variable {P : Program} {w : World} {K : PySem.W.Frag} {mg : Str → Option Value} {base : Heap} {f : Addr} {fd : FuncData}
abbrev sPair : Stmt := topS 14
theorem scPair : FnScope ["xs", "ohs", "x", "o"] ["xs", "ohs"] (defScope sPair) := ⟨rfl, rfl, rfl, by decide +kernel, rfl, by decide +kernel, by decide +kernel⟩
def spPair : Sp := fun vs H Q _ => ∃ (a b : Addr) (xs ohs : List Nat) (n : Nat), vs = [.ref a, .ref b] ∧ LT2 H a b (iv xs) (iv ohs) ∧ Pair xs ohs n ∧ n ≤ 100000 ∧ ∀ H', Same H H' → Q (.bl true) H'
theorem ok_pair (F : L2.Fun K "is_pair_of_grid" "is_pair_of_grid" sPair f fd) (B : Gb mg) (c : Cl P w K mg base CX0 3 "is_rows" ["value", "n"] spRows) : FnOk P w K mg base CX0 4 f fd ["xs", "ohs"] spPair := by
  refine F.ok scPair (fun vs H Q E h => ?_) (fun cdv A outer s H vs Q E hr h => ?_)
  · obtain ⟨a, b, xs, ohs, n, rfl, _⟩ := h
    rfl
  · obtain ⟨a, b, xs, ohs, n, rfl, hL, hp, hn, q⟩ := h
    have nd := scPair.nd
    obtain ⟨tl, el⟩ := B.least
    refine ⟨_, pss_cons (ps_if (PW.pt (pw_or (pt_not (pt_val (pe_callB call_isiT (by rfl) B.isi bIsi (pa_cons (pv 0) (pa_cons (pe_tup (pa_cons (pe_bltn (v := .ty "list") (by rfl) B.list bList rfl) (pa_cons (pe_bltn (v := .ty "tuple") (by rfl) B.tuple bTuple rfl) pa_nil))) pa_nil)))))
          (pw_or1 (pt_cmpR op_lt (pe_callB call_len (by rfl) B.len bLen (pa_cons (pv 0) pa_nil)) (pe_glob (v := .int 2) (by rfl) el ⟨tl, rfl⟩) (nomark _)))))
        (pss_one (ps_ret pe_bl)) pss_nil)
      (pss_cons (ps_if (PW.pt (pw_or (pt_not (pt_val (pe_cl c hr (by decide) (by rfl) pass0 (pa_cons (pv 0) (pa_cons (pe_callB call_len (by rfl) B.len bLen (pa_cons (pv 0) pa_nil)) pa_nil)))))
          (pw_or1 (pt_not (pt_val (pe_cl c hr (by decide) (by rfl) pass0 (pa_cons (pv 1) (pa_cons (pe_callB call_len (by rfl) B.len bLen (pa_cons (pv 0) pa_nil)) pa_nil))))))))
        (pss_one (ps_ret pe_bl)) pss_nil)
      (pss_one (ps_ret (pe_callB (cr_all rfl) (by rfl) B.all bAll (pa_cons
          (pe_lc (own := [("x", 2), ("o", 3)]) (g := gTup K 2 (gCons (gName 2) (gCons (gName 3) gNil))) (tt := tYes) rfl nd (pi_zipV (by rfl) B.zip (pv 0) (pv 1)) (blkOk_by (N := ["xs", "ohs", "x", "o"]) (sc := defScope sPair) (by decide +kernel))
            (fun _ _ _ _ _ => pg_tup (n := 2) rfl (pgs_cons (pg_name (i := 2) nd rfl (.inl rfl) (.inr rfl)) (pgs_cons (pg_name (i := 3) nd rfl (.inl rfl) (.inr rfl)) pgs_nil))) (fun _ _ _ _ _ => pts_nil)
            (fun _ _ _ _ _ => pe_cmpR op_ne (pv 2) (pv 3) (nomark _))) pa_nil))))), ?_⟩
    obtain ⟨ty, hty2, hty⟩ := hL.l.ty (K := K)
    refine ⟨_, rfl, by show 2 ≤ sizeLine; exact line_of (by decide), fun p np => ?_⟩
    have s1 : Same H (upd H p (.tup [.ty "list", .ty "tuple"])) := same_new np
    refine ⟨.ref a, p, _, _, _, true, rfl, upd_same, .cons (.ty _) (.cons (.ty _) .nil), hty _ s1, kit_lt ty hty2, true, rfl, ?_⟩
    refine iteF ?_
    have lx : (iv xs).length = n := by rw [iv_length, hp.lx]
    have lo : (iv ohs).length = n := by rw [iv_length, hp.lo]
    refine ⟨_, rfl, .ref a, _, rfl, (hL.l.same s1).len, _, _, rfl, rfl, _, rfl, ?_⟩
    rw [decide_eq_false (show ¬ (((iv xs).length : Int) < 2) by have := hp.n2; omega)]
    refine iteF ?_
    generalize upd H p (.tup [.ty "list", .ty "tuple"]) = H1 at s1
    -- is_rows, twice
    refine ⟨_, rfl, _, rfl, .ref a, _, rfl, (hL.l.same s1).len, a, xs, n, by rw [lx]; rfl, hL.l.same s1, hp.px, hn, fun H2 s2 => ⟨true, rfl, ?_⟩⟩
    refine iteF ?_
    have s12 := s1.trans s2
    refine ⟨_, rfl, _, rfl, .ref a, _, rfl, (hL.l.same s12).len, b, ohs, n, by rw [lx]; rfl, hL.r.same s12, hp.po, hn, fun H3 s3 => ⟨true, rfl, ?_⟩⟩
    refine iteF ?_
    have s13 := s12.trans s3
    -- all([..])
    refine LT2.iterW (by rfl) (by rfl) (hL.same s13) lx lo ?_
    intro J Good wk gd D hD
    refine lc_any (tt := tYes) (n := n) (fun i H' => Same H3 H' ∧ H' D = some (.lst ((List.replicate i true).map V.bl))) ⟨same_new hD, upd_same⟩
      (fun i H' hi hP => wk.go i H' hi (gd H' hP.1)) (fun H' hP => wk.st H' (gd H' hP.1)) (fun i H' x H'' hi hP hy => ?_) (fun H' hP => ?_)
    · obtain ⟨sm, eD⟩ := hP
      obtain ⟨T, x1, y1, rfl, hT, rfl, ex, ey⟩ := wk.yd i H' x H'' (gd H' sm) hy
      obtain ⟨v, hv, rfl⟩ := iv_inv ex
      obtain ⟨o, ho, rfl⟩ := iv_inv ey
      have hne := hp.ne i v o hv ho
      refine ⟨T, _, rfl, SqT.of upd_same, rfl, _, _, rfl, _, _, rfl, rfl, rfl, ?_⟩
      refine yesI ?_
      refine ⟨_, rfl, _, rfl, rfl, _, at_new eD hT, ?_, swr (snew sm hT) hD, ?_⟩
      · rw [List.length_map, List.length_replicate]
        exact line_lt (by omega)
      · have e : decide (V.int (v : Int) = V.int (o : Int)) = false := decide_eq_false fun z => hne (by
          have := V.int.inj z
          omega)
        rw [upd_same, e]
        show some (HO.lst ((List.replicate i true).map V.bl ++ [true].map V.bl)) = _
        rw [← List.map_append, rep_snoc]
    · obtain ⟨sm, eD⟩ := hP
      refine ⟨D, List.replicate n true, rfl, SqL.of eD, ?_⟩
      rw [all_rep]
      exact q _ (s13.trans sm)
end
end GK
/-! class Grid, row_text -/
namespace GK
open PySem PySem.Spec PyProof.Rows L2
abbrev sGrid : Stmt := topS 15
abbrev sInit : Stmt := inClass sGrid 0
abbrev sEq : Stmt := inClass sGrid 1
abbrev sStr : Stmt := inClass sGrid 3
abbrev sRowText : Stmt := topS 16
/-- what the written part says of Grid, at C -/
structure GridTxt (K : PySem.W.Frag) (mg : Str → Option Value) (C fI fE fS : Addr) : Prop where
  gC : mg "Grid" = some (.ref C)
  cl : Cls K C
  made : Mk K C fI
  nx : NoAttr K C "xs"
  no : NoAttr K C "ohs"
  eE : PySem.W.findIn K (.ref C) "__eq__" = some (some (.ref fE))
  eF : PySem.W.isFn K (.ref fE) = true
  sE : PySem.W.findIn K (.ref C) "__str__" = some (some (.ref fS))
  sF : PySem.W.isFn K (.ref fS) = true
  ha : PySem.W.findIn K (.ref C) "__class__" = some (some (.builtin "object.__class__"))
  hn : PySem.W.specialIn K (.builtin "object.__class__") "__get__" = some (some (.builtin "getset_descriptor.__get__"))
  htk : PySem.W.takesIn K (.builtin "object.__class__") = some true
  hm : PySem.W.mroIn K C (.type "object") = some true
  kit : PySem.W.kitOne K (.ref C) (.ref C) = some true
/-- a grid of these rows of marks -/
def GridAt (C : Addr) (H : Hp) (g : Addr) (xs ohs : List Nat) : Prop := ∃ dx p q, H g = some (.ins C dx [(("xs" : Str), .ref p), (("ohs" : Str), .ref q)]) ∧ H p = some (.tup (iv xs)) ∧ H q = some (.tup (iv ohs))
theorem GridAt.same {C : Addr} {H H1 : Hp} {g : Addr} {xs ohs : List Nat} (s : Same H H1) (h : GridAt C H g xs ohs) : GridAt C H1 g xs ohs := by
  obtain ⟨dx, p, q, h1, h2, h3⟩ := h
  exact ⟨dx, p, q, s _ _ h1, s _ _ h2, s _ _ h3⟩
/-- all but x as it was -/
def Keep (x : Addr) (H H' : Hp) : Prop := ∀ c o, c ≠ x → H c = some o → H' c = some o
theorem lk_xs {p q : V} : List.lookup ("xs" : Str) [(("xs" : Str), p), (("ohs" : Str), q)] = some p := by simp [List.lookup]
theorem lk_ohs {p q : V} : List.lookup ("ohs" : Str) [(("xs" : Str), p), (("ohs" : Str), q)] = some q := by
  have e : (("ohs" : Str) == ("xs" : Str)) = false := by decide +kernel
  simp [List.lookup, e]
theorem put_two {p q : V} : putF ("ohs" : Str) q (putF ("xs" : Str) p []) = [(("xs" : Str), p), (("ohs" : Str), q)] := by
  have e : ¬ (("xs" : Str) = ("ohs" : Str)) := by decide +kernel
  show putF ("ohs" : Str) q [(("xs" : Str), p)] = _
  unfold putF
  rw [if_neg e]
  rfl
section
variable {P : Program} {w : World} {K : PySem.W.Frag} {mg : Str → Option Value} {base : Heap} {f C fI fE fS : Addr} {fd : FuncData}
/-! ### __init__ -/
theorem scInit : FnScope ["self", "xs", "ohs"] ["self", "xs", "ohs"] (defScope sInit) := ⟨rfl, rfl, rfl, by decide +kernel, rfl, by decide +kernel, by decide +kernel⟩
def spInit (C : Addr) : Sp := fun vs H Q _ => ∃ (x dx a b : Addr) (xs ohs : List Nat) (n : Nat), vs = [.ref x, .ref a, .ref b] ∧ H x = some (.ins C dx []) ∧ LT2 H a b (iv xs) (iv ohs) ∧ Pair xs ohs n ∧ n ≤ 100000 ∧
  ∀ H', Keep x H H' → GridAt C H' x xs ohs → Q .non H'
/-- tuple(a name) -/
structure TupA (K : PySem.W.Frag) (xs : List V) (H : Hp) (Q : VK) : Prop where
  h : ∃ p ys, xs = [.ref p] ∧ ((SqL K H p ys ∧ ∀ l, H l = none → Q (.ref l) (upd H l (.tup ys))) ∨ (SqT K H p ys ∧ Q (.ref p) H))
theorem call_tupA {X : Cx} : CallR X (.type "tuple") (TupA X.K) := fun pins s σ H xs us Q I r h => call_tuple_of pins s σ H xs us Q I r h.h
theorem tup_of {H : Hp} {a : Addr} {xs : List V} {Q : VK} (h : LT H a xs) (q : ∀ H' p, Same H H' → H' p = some (.tup xs) → Q (.ref p) H') :
    TupA K [V.ref a] H Q :=
  ⟨a, xs, rfl, h.elim (fun e => .inl ⟨SqL.of e, fun l hl => q _ l (same_new hl) upd_same⟩) fun e => .inr ⟨SqT.of e, q H a (Same.refl H) e⟩⟩
theorem ok_init (F : L2.Fun K "__init__" "Grid.__init__" sInit f fd) (B : Gb mg) (T : GridTxt K mg C fI fE fS) (c : Cl P w K mg base CX0 4 "is_pair_of_grid" ["xs", "ohs"] spPair) : FnOk P w K mg base CX0 5 f fd ["self", "xs", "ohs"] (spInit C) := by
  refine F.ok scInit (fun vs H Q E h => ?_) (fun cdv A outer s H vs Q E hr h => ?_)
  · obtain ⟨x, dx, a, b, xs, ohs, n, rfl, _⟩ := h
    rfl
  · obtain ⟨x, dx, a, b, xs, ohs, n, rfl, hx, hL, hp, hn, q⟩ := h
    refine ⟨_, pss_cons (ps_if (pt_not (pt_val (pe_cl c hr (by decide) (by rfl) pass0 (pa_cons (pv 1) (pa_cons (pv 2) pa_nil))))) (pss_one ps_never) pss_nil)
      (pss_cons (ps_fld (pv 0) (pe_callTy call_tupA (by rfl) B.tuple bTuple (pa_cons (pv 1) pa_nil)) rfl)
      (pss_one (ps_fld (pv 0) (pe_callTy call_tupA (by rfl) B.tuple bTuple (pa_cons (pv 2) pa_nil)) rfl))), ?_⟩
    refine ⟨_, rfl, _, rfl, a, b, xs, ohs, n, rfl, hL, hp, hn, fun H1 s1 => ⟨true, rfl, ?_⟩⟩
    refine iteF ?_
    refine ⟨_, rfl, ?_⟩
    refine tup_of (hL.l.same s1) fun H2 p s2 ep => ?_
    have hx2 := s2 _ _ (s1 _ _ hx)
    refine ⟨_, rfl, x, C, dx, _, rfl, hx2, T.cl, T.nx, by decide, ?_⟩
    have hL2 := (hL.same s1).same s2
    have pne : p ≠ x := ne_of ep hx2 (by intro z; cases z)
    have kp : Keep x H (upd H2 x (.ins C dx (putF "xs" (.ref p) []))) := fun b o ne e => at_upd (s2 _ _ (s1 _ _ e)) ne
    have hL3 : LT2 (upd H2 x (.ins C dx (putF "xs" (.ref p) []))) a b (iv xs) (iv ohs) := by
      rcases hL2 with ⟨e1, e2⟩ | ⟨e1, e2⟩
      · exact .inl ⟨at_upd e1 (ne_of e1 hx2 (by intro z; cases z)), at_upd e2 (ne_of e2 hx2 (by intro z; cases z))⟩
      · exact .inr ⟨at_upd e1 (ne_of e1 hx2 (by intro z; cases z)), at_upd e2 (ne_of e2 hx2 (by intro z; cases z))⟩
    refine ⟨_, rfl, ?_⟩
    refine tup_of hL3.r fun H3 p2 s3 ep2 => ?_
    have hx3 : H3 x = some (.ins C dx (putF "xs" (.ref p) [])) := s3 _ _ upd_same
    have p2ne : p2 ≠ x := ne_of ep2 hx3 (by intro z; cases z)
    refine ⟨_, rfl, x, C, dx, _, rfl, hx3, T.cl, T.no, (show 1 < 1000 by decide), ?_⟩
    refine q _ (fun b o ne e => at_upd (s3 _ _ (kp b o ne e)) ne) ⟨dx, p, p2, ?_, at_upd (s3 _ _ (at_upd ep pne)) pne, at_upd ep2 p2ne⟩
    rw [upd_same, put_two]
/-- Grid(..) at the class's call -/
theorem init_at {H : Hp} {a b x dx : Addr} {xs ohs : List Nat} {n : Nat} {Q : VK} {E : XK} (hL : LT2 H a b (iv xs) (iv ohs)) (hp : Pair xs ohs n) (hn : n ≤ 100000) (nx : H x = none) (nd : H dx = none)
    (q : ∀ H', Same H H' → GridAt C H' x xs ohs → Q (.ref x) H') : spInit C (.ref x :: ([.ref a, .ref b] ++ [])) (upd (upd H dx (.own x)) x (.ins C dx [])) (fun v H2 => v = .non ∧ Q (.ref x) H2) E := by
  have s0 : Same H (upd (upd H dx (.own x)) x (.ins C dx [])) := fun c o e => by
    rw [upd_ne (ne_of_none e nx), upd_ne (ne_of_none e nd)]
    exact e
  refine ⟨x, dx, a, b, xs, ohs, n, rfl, upd_same, hL.same s0, hp, hn, fun H' kp g => ⟨rfl, q H' (fun c o e => kp c o (ne_of_none e nx) (s0 c o e)) g⟩⟩
/-! ### __eq__ -/
theorem scEq : FnScope ["self", "other"] ["self", "other"] (defScope sEq) := ⟨rfl, rfl, rfl, by decide +kernel, rfl, by decide +kernel, by decide +kernel⟩
/-- two grids of the same marks -/
def SameG (C : Addr) : Addr → Addr → Hp → Prop := fun a b H => ∃ xs ohs, GridAt C H a xs ohs ∧ GridAt C H b xs ohs
theorem prs_iv (xs : List Nat) (H : Hp) : Prs DFlat (iv xs) (iv xs) H := by
  refine ⟨rfl, fun i x y hx hy => ?_⟩
  obtain ⟨v, hv, rfl⟩ := iv_inv hx
  obtain ⟨u, hu, rfl⟩ := iv_inv hy
  rw [hv] at hu
  cases hu
  exact ⟨rfl, rfl, by simp [eqV]⟩
theorem ok_eq (F : L2.Fun K "__eq__" "Grid.__eq__" sEq f fd) (B : Gb mg) (T : GridTxt K mg C fI fE fS) : FnOk P w K mg base CX0 2 f fd ["self", "other"] (spEq (SameG C)) := by
  refine F.ok scEq (fun vs H Q E h => ?_) (fun cdv A outer s H vs Q E hr h => ?_)
  · obtain ⟨a, b, rfl, _⟩ := h
    rfl
  · obtain ⟨a, b, rfl, ⟨xs, ohs, g1, g2⟩, q⟩ := h
    obtain ⟨dx, p, p2, h1, h2, h3⟩ := g1
    obtain ⟨dy, r, r2, k1, k2, k3⟩ := g2
    refine ⟨_, pss_one (ps_ret (pe_and (pe_callB call_isi (by rfl) B.isi bIsi (pa_cons (pv 1) (pa_cons (pe_glob (v := .ref C) (by rfl) T.gC rfl) pa_nil)))
      (pe_and (pe_cmpR (op_eqG (rcG_tup mon_flat eqG_flat) hr) (pe_fld (pv 0) rfl) (pe_fld (pv 1) rfl) (nomark _))
      (pe_one (pe_cmpR (op_eqG (rcG_tup mon_flat eqG_flat) hr) (pe_fld (pv 0) rfl) (pe_fld (pv 1) rfl) (nomark _)))))), ?_⟩
    refine ⟨_, rfl, .ref b, .ref C, .ref C, .ref C, true, rfl, .own C, .base (.ins k1 T.cl T.ha T.hn T.htk T.hm), T.kit, true, rfl, ?_⟩
    refine iteT ?_
    refine ⟨_, rfl, a, C, dx, _, _, rfl, h1, T.cl, T.nx, lk_xs, _, rfl, b, C, dy, _, _, rfl, k1, T.cl, T.nx, lk_xs, ?_⟩
    refine ⟨⟨p, r, iv xs, iv xs, rfl, rfl, SqT.of h2, SqT.of k2, prs_iv _ _⟩, fun H1 e1 => ⟨true, rfl, ?_⟩⟩
    refine iteT ?_
    refine ⟨_, rfl, a, C, dx, _, _, rfl, e1 _ _ h1, T.cl, T.no, lk_ohs, _, rfl, b, C, dy, _, _, rfl, e1 _ _ k1, T.cl, T.no, lk_ohs, ?_⟩
    exact ⟨⟨p2, r2, iv ohs, iv ohs, rfl, rfl, SqT.of (e1 _ _ h3), SqT.of (e1 _ _ k3), prs_iv _ _⟩, fun H2 e2 => q H2 (e1.trans e2)⟩
end
end GK
/-! row_text, Grid.__str__ -/
namespace GK
open PySem PySem.Spec PyProof.Rows L2
open SX (S)
theorem sX_eq : sX = S [88] := by decide +kernel
theorem sO_eq : sO = S [79] := by decide +kernel
theorem sD_eq : sD = S [46] := by decide +kernel
theorem nl_eq : (Str.ofString "\n") = S [10] := by decide +kernel
theorem em_eq : (Str.ofString "") = S [] := by decide +kernel
theorem S_length (l : List Nat) : (S l).length = l.length := by
  show l.toArray.size = l.length
  rw [List.size_toArray]
/-- one-sign texts -/
def ones (l : List Nat) : List Str := l.map fun c => S [c]
theorem joinL_ones (l : List Nat) : TL.joinL [] (l.map fun c => [c]) = l := by
  induction l with
  | nil => rfl
  | cons c r ih =>
    cases r with
    | nil => rfl
    | cons d q =>
      show [c] ++ ([] ++ TL.joinL [] ((d :: q).map fun c => [c])) = _
      rw [ih]
      rfl
theorem join_ones (l : List Nat) : Txt.join (S []) (ones l) = S l := by
  have e : ones l = (l.map fun c => [c]).map S := by
    unfold ones
    rw [List.map_map]
    rfl
  rw [e, SX.join_S, joinL_ones]
theorem ones_sum (l : List Nat) : ((ones l).map (·.length)).sum = l.length := by
  unfold ones
  induction l with
  | nil => rfl
  | cons c r ih =>
    rw [List.map_cons, List.map_cons, List.sum_cons, ih, S_length]
    simp
    omega
theorem ones_length (l : List Nat) : (ones l).length = l.length := List.length_map _
section
variable {P : Program} {w : World} {K : PySem.W.Frag} {mg : Str → Option Value} {base : Heap} {f C fI fE fS : Addr} {fd : FuncData}
theorem scRowText : FnScope ["grid", "r", "signs", "x", "o"] ["grid", "r"] (defScope sRowText) := ⟨rfl, rfl, rfl, by decide +kernel, rfl, by decide +kernel, by decide +kernel⟩
def spRowText (C : Addr) : Sp := fun vs H Q _ => ∃ (g : Addr) (xs ohs : List Nat) (n r : Nat), vs = [.ref g, .int (r : Int)] ∧ GridAt C H g xs ohs ∧ Pair xs ohs n ∧ n ≤ 1000 ∧ ∀ H', Same H H' → Q (.str (S (rowL xs ohs r))) H'
theorem dec_nat (a b : Nat) : decide (V.int (a : Int) = V.int (b : Int)) = decide (a = b) := by
  by_cases h : a = b
  · rw [decide_eq_true h, h, decide_eq_true rfl]
  · rw [decide_eq_false h, decide_eq_false (fun e => h (by have := V.int.inj e; omega))]
theorem ok_rowtext (F : L2.Fun K "row_text" "row_text" sRowText f fd) (B : Gb mg) (T : GridTxt K mg C fI fE fS) : FnOk P w K mg base CX0 1 f fd ["grid", "r"] (spRowText C) := by
  refine F.ok scRowText (fun vs H Q E h => ?_) (fun cdv A outer s H vs Q E hr h => ?_)
  · obtain ⟨g, xs, ohs, n, r, rfl, _⟩ := h
    rfl
  · obtain ⟨g, xs, ohs, n, r, rfl, ⟨dx, p1, p2, h1, h2, h3⟩, hp, hn, q⟩ := h
    have nd := scRowText.nd
    obtain ⟨tx, ex⟩ := B.cross
    obtain ⟨to, eo⟩ := B.ring
    obtain ⟨td, ed⟩ := B.noth
    have lx : (iv xs).length = n := by rw [iv_length, hp.lx]
    have lo : (iv ohs).length = n := by rw [iv_length, hp.lo]
    refine ⟨_, pss_cons (ps_set (i := 2) nd rfl (.inl rfl) (pe_lst pa_nil))
      (pss_cons (ps_for PassesOwn.never rfl (RZ.pi_zipA (by rfl) B.zip (pa_cons (pe_fld (pv 0) rfl) (pa_cons (pe_fld (pv 0) rfl) pa_nil)))
          (pg_tup (n := 2) rfl (pgs_cons (pg_name (i := 3) nd rfl (.inl rfl)) (pgs_cons (pg_name (i := 4) nd rfl (.inl rfl)) pgs_nil)))
        (pss_one (ps_expr (pe_bm PySem.F.plainAttrs_list PySem.F.slot_list_append PySem.F.type_list_append mt_append (pv 2)
          (pa_cons (pe_ifExp (pt_cmpR op_eq (pv 3) (pv 1) (nomark _)) (pe_glob (v := .str sX) (by rfl) ex ⟨tx, rfl⟩)
            (pe_ifExp (pt_cmpR op_eq (pv 4) (pv 1) (nomark _)) (pe_glob (v := .str sO) (by rfl) eo ⟨to, rfl⟩) (pe_glob (v := .str sD) (by rfl) ed ⟨td, rfl⟩))) pa_nil)))))
      (pss_one (ps_ret (pe_join pe_str (pv 2))))), ?_⟩
    refine ⟨Nat.zero_le _, fun o no => ?_⟩
    have s1 : Same H (upd H o (.lst [])) := same_new no
    refine ⟨_, rfl, g, C, dx, _, _, rfl, s1 _ _ h1, T.cl, T.nx, lk_xs, _, rfl, g, C, dx, _, _, rfl, s1 _ _ h1, T.cl, T.no, lk_ohs, ?_⟩
    refine ⟨p1, p2, iv xs, iv ohs, rfl, .inr ⟨SqT.of (s1 _ _ h2), SqT.of (s1 _ _ h3), ?_⟩⟩
    have wk := wkz_tup (K := K) (a := p1) (b := p2) lx lo
    have gd : ∀ H', Same H H' → SqT K H' p1 (iv xs) ∧ SqT K H' p2 (iv ohs) := fun H' s => ⟨SqT.of (s _ _ h2), SqT.of (s _ _ h3)⟩
    refine for_any (n := n) (fun i σ H' => ∃ y3 y4, σ = [some (.ref g), some (.int (r : Int)), some (.ref o), y3, y4] ∧ Same H H' ∧ H' o = some (.lst ((ones ((rowL xs ohs r).take i)).map V.str))) ⟨none, none, rfl, s1, upd_same⟩
      (fun i σ H' hi hP => by obtain ⟨_, _, _, sm, _⟩ := hP; exact wk.go i H' hi (gd H' sm)) (fun σ H' hP => by obtain ⟨_, _, _, sm, _⟩ := hP; exact wk.st H' (gd H' sm)) (fun i σ H' x H'' hi hP hy => ?_) (fun σ H' hP => ?_)
    · obtain ⟨y3, y4, rfl, sm, eD⟩ := hP
      obtain ⟨Tt, x1, y1, rfl, hT, rfl, ex, ey⟩ := wk.yd i H' x H'' (gd H' sm) hy
      obtain ⟨v, hv, rfl⟩ := iv_inv ex
      obtain ⟨u, hu, rfl⟩ := iv_inv ey
      have hne := hp.ne i v u hv hu
      refine ⟨Tt, _, rfl, SqT.of upd_same, rfl, _, _, rfl, _, _, rfl, rfl, ?_⟩
      have eD2 := at_new (o := .tup [V.int (v : Int), V.int (u : Int)]) eD hT
      have row := rowL_at (r := r) hv hu
      have fin : ∀ z : Str, z = S [sg v u r] → (ones ((rowL xs ohs r).take i)).map V.str ++ [V.str z] = (ones ((rowL xs ohs r).take (i + 1))).map V.str := fun z hz => by
        rw [List.take_add_one, row]
        unfold ones
        rw [List.map_append, List.map_append, hz]
        rfl
      have len : ((ones ((rowL xs ohs r).take i)).map V.str).length < sizeLine := by
        rw [List.length_map, ones_length, List.length_take]
        exact line_lt (by omega)
      have s2 := swr (o := .lst ((ones ((rowL xs ohs r).take (i + 1))).map V.str)) (snew (o := .tup [V.int (v : Int), V.int (u : Int)]) sm hT) no
      refine ⟨_, rfl, .inl ⟨rfl, _, SqL.of eD2⟩, ?_⟩
      refine ⟨_, rfl, _, rfl, rfl, _, rfl, ?_⟩
      rw [dec_nat]
      by_cases h1 : v = r
      · rw [decide_eq_true h1]
        refine iteT ?_
        refine ⟨o, _, _, rfl, rfl, eD2, len, ?_⟩
        have e := fin sX (by rw [sX_eq]; unfold sg; rw [if_neg (fun z => hne (h1.trans z.symm)), if_pos h1])
        refine ⟨_, _, rfl, ?_, ?_⟩
        · rw [e]
          exact s2
        · rw [upd_same, e]
      · rw [decide_eq_false h1]
        refine iteF ?_
        refine ⟨_, rfl, _, rfl, rfl, _, rfl, ?_⟩
        rw [dec_nat]
        by_cases h2 : u = r
        · rw [decide_eq_true h2]
          refine iteT ?_
          refine ⟨o, _, _, rfl, rfl, eD2, len, ?_⟩
          have e := fin sO (by rw [sO_eq]; unfold sg; rw [if_pos h2])
          refine ⟨_, _, rfl, ?_, ?_⟩
          · rw [e]
            exact s2
          · rw [upd_same, e]
        · rw [decide_eq_false h2]
          refine iteF ?_
          refine ⟨o, _, _, rfl, rfl, eD2, len, ?_⟩
          have e := fin sD (by rw [sD_eq]; unfold sg; rw [if_neg h2, if_neg h1])
          refine ⟨_, _, rfl, ?_, ?_⟩
          · rw [e]
            exact s2
          · rw [upd_same, e]
    · obtain ⟨y3, y4, rfl, sm, eD⟩ := hP
      rw [List.take_of_length_le (by rw [rowL_length hp]; exact Nat.le_refl _)] at eD
      refine ⟨⟨_, rfl⟩, _, rfl, _, o, ones (rowL xs ohs r), rfl, rfl, .inl (SqL.of eD), ?_, ?_⟩
      · rw [ones_sum, ones_length, rowL_length hp]
        show n + n * 0 ≤ _
        omega
      · show Q (.str (Txt.join (Str.ofString "") (ones (rowL xs ohs r)))) H'
        rw [em_eq, join_ones]
        exact q H' sm
/-! ### __str__ -/
theorem scStr : FnScope ["self", "r"] ["self"] (defScope sStr) := ⟨rfl, rfl, rfl, by decide +kernel, rfl, by decide +kernel, by decide +kernel⟩
/-- the lines of a grid's text, from above -/
def lineL (xs ohs : List Nat) : List (List Nat) := (rows xs ohs).reverse
def gtext (xs ohs : List Nat) : Str := Txt.join (S [10]) ((lineL xs ohs).map S)
theorem lineL_length (xs ohs : List Nat) : (lineL xs ohs).length = xs.length := by
  unfold lineL
  rw [List.length_reverse, rows_length]
theorem lineL_at {xs ohs : List Nat} {n i : Nat} (hp : Pair xs ohs n) (hi : i < n) : (lineL xs ohs)[i]? = some (rowL xs ohs (n - 1 - i)) := by
  unfold lineL
  rw [List.getElem?_reverse (by rw [rows_length, hp.lx]; exact hi), rows_length, hp.lx]
  unfold rows
  rw [List.getElem?_map, List.getElem?_range (by rw [hp.lx]; omega)]
  rfl
theorem lens_sum (n : Nat) : ∀ l : List (List Nat), (∀ z ∈ l, z.length = n) → ((l.map S).map (·.length)).sum = l.length * n
  | [], _ => by simp
  | z :: r, h => by
    rw [List.map_cons, List.map_cons, List.sum_cons, lens_sum n r (fun y hy => h y (List.mem_cons_of_mem _ hy)), S_length, h z List.mem_cons_self, List.length_cons, Nat.add_mul]
    omega
theorem lineL_mem {xs ohs : List Nat} {n : Nat} (hp : Pair xs ohs n) : ∀ z ∈ lineL xs ohs, z.length = n := fun z hz => by
  unfold lineL rows at hz
  obtain ⟨r, _, rfl⟩ := List.mem_map.mp (List.mem_reverse.mp hz)
  exact rowL_length hp
def spStr (C : Addr) : Sp := fun vs H Q _ => ∃ (g : Addr) (xs ohs : List Nat) (n : Nat), vs = [.ref g] ∧ GridAt C H g xs ohs ∧ Pair xs ohs n ∧ n ≤ 1000 ∧ ∀ H', Same H H' → Q (.str (gtext xs ohs)) H'
theorem ok_str (F : L2.Fun K "__str__" "Grid.__str__" sStr f fd) (B : Gb mg) (T : GridTxt K mg C fI fE fS) (c : Cl P w K mg base CX0 1 "row_text" ["grid", "r"] (spRowText C)) : FnOk P w K mg base CX0 2 f fd ["self"] (spStr C) := by
  refine F.ok scStr (fun vs H Q E h => ?_) (fun cdv A outer s H vs Q E hr h => ?_)
  · obtain ⟨g, xs, ohs, n, rfl, _⟩ := h
    rfl
  · obtain ⟨g, xs, ohs, n, rfl, hg, hp, hn, q⟩ := h
    obtain ⟨dx, p1, p2, h1, h2, h3⟩ := hg
    have hg : GridAt C H g xs ohs := ⟨dx, p1, p2, h1, h2, h3⟩
    have nd := scStr.nd
    have n2 := hp.n2
    refine ⟨_, pss_one (ps_ret (pe_callTy SkE.call_str_str (by rfl) B.str bStr (pa_cons (pe_join pe_str
      (pe_lc (own := [("r", 1)]) (g := gName 1) (tt := tYes) rfl nd
        (pi_range3 (by rfl) B.range (pa_cons (pe_op op_sub (pe_callB call_len (by rfl) B.len bLen (pa_cons (pe_fld (pv 0) rfl) pa_nil)) pe_int) (pa_cons (pe_un un_neg pe_int) (pa_cons (pe_un un_neg pe_int) pa_nil))))
        (blkOk_by (N := ["self", "r"]) (sc := defScope sStr) (by decide +kernel)) (fun _ _ _ _ _ => pg_name (i := 1) nd rfl (Or.inl rfl)) (fun _ _ _ _ _ => pts_nil)
        (fun _ _ _ _ _ => pe_cl c hr (by decide) (by rfl) pass0 (pa_cons (pv 0) (pa_cons (pv 1) pa_nil))))) pa_nil))), ?_⟩
    refine ⟨⟨_, rfl⟩, _, rfl, g, C, dx, _, _, rfl, h1, T.cl, T.nx, lk_xs, .ref p1, n, rfl, .inr ⟨iv xs, SqT.of h2, by rw [iv_length, hp.lx]⟩, (n : Int), 1, rfl, rfl, 1, rfl, 1, rfl, ?_⟩
    refine ⟨(n : Int) - 1, -1, -1, n, rfl, ?_, fun D hD => ?_⟩
    · have e := RgC.neg (i := (n : Int) - 1) (j := -1) (by omega) (by omega) (by decide) (by decide)
      rw [show ((n : Int) - 1 - -1).toNat = n by omega] at e
      exact e
    · refine lc_any (tt := tYes) (n := n) (fun i H' => Same H H' ∧ H' D = some (.lst ((((lineL xs ohs).take i).map S).map V.str))) ⟨same_new hD, upd_same⟩
        (fun i H' hi hP => hi) (fun H' hP => Nat.le_refl _) (fun i H' x H'' hi hP hy => ?_) (fun H' hP => ?_)
      · obtain ⟨sm, eD⟩ := hP
        obtain ⟨rfl, rfl⟩ := hy
        refine ⟨rfl, ?_⟩
        refine yesI ?_
        have ev : (n : Int) - 1 + (i : Nat) * -1 = ((n - 1 - i : Nat) : Int) := by omega
        refine ⟨_, rfl, _, rfl, g, xs, ohs, n, n - 1 - i, ?_, hg.same sm, hp, hn, fun H2 s2 => ⟨_, s2 _ _ eD, ?_, swr (sm.trans s2) hD, ?_⟩⟩
        · rw [ev]
          rfl
        · rw [List.length_map, List.length_map, List.length_take]
          exact line_lt (by omega)
        · rw [upd_same, List.take_add_one, lineL_at hp hi, List.map_append, List.map_append]
          rfl
      · obtain ⟨sm, eD⟩ := hP
        rw [List.take_of_length_le (by rw [lineL_length, hp.lx]; exact Nat.le_refl _)] at eD
        refine ⟨_, D, (lineL xs ohs).map S, rfl, rfl, .inl (SqL.of eD), ?_, _, rfl, ?_⟩
        · rw [lens_sum n _ (lineL_mem hp), List.length_map, lineL_length, hp.lx]
          have h1 : n * n ≤ 1000 * 1000 := Nat.mul_le_mul hn hn
          show n * n + n * 1 ≤ 16777216
          omega
        · show Q (.str (Txt.join (Str.ofString "\n") ((lineL xs ohs).map S))) H'
          rw [nl_eq]
          exact q H' sm
end
end GK
/-! Texts by lists of signs: count, index of one sign; the lines of a text. -/
namespace GK
open PySem PySem.Builtin PySem.Builtin.Str PySem.StrLaws
open SX (S)
theorem drop_count {L : List Nat} {c : Nat} : ∀ (m a : Nat), (∀ k, a ≤ k → k < a + m → L[k]? ≠ some c) → (L.drop a).count c = (L.drop (a + m)).count c
  | 0, a, _ => rfl
  | m + 1, a, h => by
    rw [drop_count m a (fun k h1 h2 => h k h1 (by omega))]
    by_cases hl : a + m < L.length
    · rw [List.drop_eq_getElem_cons hl, List.count_cons]
      have h1 := h (a + m) (by omega) (by omega)
      rw [List.getElem?_eq_getElem hl] at h1
      have h2 : (L[a + m] == c) = false := by
        rw [beq_eq_false_iff_ne]
        exact fun e => h1 (by rw [e])
      rw [h2]
      rfl
    · rw [List.drop_eq_nil_of_le (by omega), List.drop_eq_nil_of_le (by omega)]
theorem chain_count (x : Str) (c : Nat) : ∀ (cuts : List Nat) (a f : Nat), ChainG x ⟨#[c]⟩ x.length a cuts f → (∀ k, f ≤ k → ¬ At x ⟨#[c]⟩ x.length k) → cuts.length = (x.cps.toList.drop a).count c
  | [], a, f, h, hn => by
    have e : f = a := h
    subst e
    rw [List.length_nil, drop_count (x.cps.toList.length - f) f (fun k h1 h2 hk => hn k h1 ((subAt_one x c k).mpr hk)), List.drop_eq_nil_of_le (by omega)]
    rfl
  | d :: r, a, f, h, hn => by
    obtain ⟨h1, h2, h3, h4⟩ := h
    have ih := chain_count x c r (d + 1) f h4 hn
    have hd := (subAt_one x c d).mp h2
    have hl := (List.getElem?_eq_some_iff.mp hd).1
    have e1 := drop_count (L := x.cps.toList) (c := c) (d - a) a (fun k k1 k2 hk => h3 k k1 (by omega) ((subAt_one x c k).mpr hk))
    rw [show a + (d - a) = d by omega] at e1
    rw [e1, List.drop_eq_getElem_cons hl, List.count_cons, List.length_cons, ih]
    have e2 : x.cps.toList[d] = c := by
      rw [List.getElem?_eq_getElem hl] at hd
      exact Option.some.inj hd
    rw [e2]
    simp
theorem count_one (l : List Nat) (c : Nat) : Txt.count (S l) (S [c]) = (l.count c : Int) := by
  obtain ⟨f, g, hn⟩ := occ_tight (S l) (S [c]) (by show 1 ≤ ([c].toArray).size; simp)
  have key := chain_count (S l) c _ 0 f g hn
  show (((occurrences (S l) (S [c]) 0 (S l).length ((S l).length + 1)).length : Nat) : Int) = _
  rw [key]
  show (((l.toArray).toList.drop 0).count c : Int) = _
  simp
theorem index_one {l : List Nat} {c : Nat} (h : l.count c = 1) : ∃ rest, occurrences (S l) (S [c]) 0 (S l).length 1 = l.idxOf c :: rest := by
  have hin := SX.in_one l c
  rw [decide_eq_true (mem_of_count h)] at hin
  cases e : occurrences (S l) (S [c]) 0 (S l).length 1 with
  | nil =>
    rw [e] at hin
    cases hin
  | cons i rest =>
    have sp := occ_spec (S l) (S [c]) 0 (S l).length 1 i (by rw [e]; exact List.mem_cons_self)
    have hi := (subAt_one (S l) c i).mp sp
    have hi2 : l[i]? = some c := by simpa using hi
    exact ⟨rest, by rw [idxOf_of h hi2]⟩
/-! ### lines -/
theorem spl_facts : ∀ (l acc : List Nat), TL.spl [10] 0 acc l ≠ [] ∧ (TL.spl [10] 0 acc l).length ≤ l.length + 1 ∧ ∀ z ∈ TL.spl [10] 0 acc l, z.length ≤ acc.length + l.length
  | [], acc => by
    rw [TL.spl_nil]
    exact ⟨List.cons_ne_nil _ _, Nat.le_refl _, fun z hz => by rw [List.mem_singleton.mp hz]; exact Nat.le_refl _⟩
  | c :: r, acc => by
    by_cases h : TL.pre [10] (c :: r) = true
    · rw [TL.spl_hit h]
      obtain ⟨_, h2, h3⟩ := spl_facts r []
      refine ⟨List.cons_ne_nil _ _, ?_, fun z hz => ?_⟩
      · show (TL.spl [10] 0 [] r).length + 1 ≤ r.length + 1 + 1
        omega
      · rcases List.mem_cons.mp hz with rfl | hz
        · omega
        · have h4 := h3 z hz
          simp only [List.length_nil, List.length_cons] at h4 ⊢
          omega
    · have h' : TL.pre [10] (c :: r) = false := by simpa using h
      rw [TL.spl_miss h']
      obtain ⟨h1, h2, h3⟩ := spl_facts r (acc ++ [c])
      refine ⟨h1, ?_, fun z hz => ?_⟩
      · rw [List.length_cons]
        omega
      · have h4 := h3 z hz
        rw [List.length_append] at h4
        simp only [List.length_cons, List.length_nil] at h4 ⊢
        omega
/-- the lines of a text, from above -/
def linesOf (t : Str) : List (List Nat) := TL.spl [10] 0 [] (TL.tl t)
theorem lines_split (t : Str) : Txt.split t (Str.ofString "\n") = (linesOf t).map S := by
  rw [nl_eq]
  have h := SX.split_S (a := TL.tl t) (b := [10]) (by simp) (by decide)
  rw [show S (TL.tl t) = t from SX.S_tl t] at h
  exact h
theorem lines_ne (t : Str) : linesOf t ≠ [] := (spl_facts _ _).1
theorem lines_length (t : Str) : (linesOf t).length ≤ t.length + 1 := by
  have h := (spl_facts (TL.tl t) []).2.1
  rw [← TL.len_tl] at h
  exact h
theorem line_length {t : Str} {z : List Nat} (h : z ∈ linesOf t) : z.length ≤ t.length := by
  have h := (spl_facts (TL.tl t) []).2.2 z h
  rw [← TL.len_tl] at h
  simpa using h
/-- the rows from below -/
def rowsOf (t : Str) : List (List Nat) := (linesOf t).reverse
theorem rowsOf_ne (t : Str) : rowsOf t ≠ [] := by
  unfold rowsOf
  intro e
  exact lines_ne t (List.reverse_eq_nil_iff.mp e)
theorem rowsOf_length (t : Str) : (rowsOf t).length ≤ t.length + 1 := by
  unfold rowsOf
  rw [List.length_reverse]
  exact lines_length t
theorem rowOf_length {t : Str} {z : List Nat} (h : z ∈ rowsOf t) : z.length ≤ t.length := line_length (List.mem_reverse.mp h)
/-- a grid's text, read -/
theorem lines_gtext {xs ohs : List Nat} {n : Nat} (p : Pair xs ohs n) : linesOf (gtext xs ohs) = lineL xs ohs := by
  unfold linesOf gtext
  rw [SX.join_S]
  show TL.spl [10] 0 [] (TL.tl (S (TL.joinL [10] (lineL xs ohs)))) = _
  rw [show TL.tl (S (TL.joinL [10] (lineL xs ohs))) = TL.joinL [10] (lineL xs ohs) from TL.tl_mk _]
  refine SX.spl_join (c := 10) (sep := []) (fun e => ?_) (fun z hz hm => ?_)
  · have := congrArg List.length e
    rw [lineL_length, p.lx] at this
    have := p.n2
    simp at *
    omega
  · unfold lineL rows at hz
    obtain ⟨r, _, rfl⟩ := List.mem_map.mp (List.mem_reverse.mp hz)
    rcases rowL_signs 10 hm with h | h | h <;> cases h
theorem rows_gtext {xs ohs : List Nat} {n : Nat} (p : Pair xs ohs n) : rowsOf (gtext xs ohs) = rows xs ohs := by
  unfold rowsOf
  rw [lines_gtext p]
  unfold lineL
  rw [List.reverse_reverse]
/-- the text is read as these rows of marks -/
def Reads (t : Str) (xs ohs : List Nat) : Prop := LawOK (rowsOf t) ∧ xs = mark (rowsOf t) 88 ∧ ohs = mark (rowsOf t) 79
theorem reads_gtext {xs ohs : List Nat} {n : Nat} (p : Pair xs ohs n) : Reads (gtext xs ohs) xs ohs := by
  unfold Reads
  rw [rows_gtext p]
  obtain ⟨e1, e2, _⟩ := rows_mark p
  exact ⟨rows_law p, e1.symm, e2.symm⟩
end GK
/-! read_grid -/
namespace GK
open PySem PySem.Spec PyProof.Rows L2
open SX (S)
abbrev sRead : Stmt := topS 17
abbrev nRead : List Str := ["text", "lines", "n", "columns", "row", "line", "i", "column"]
theorem scRead : FnScope nRead ["text"] (defScope sRead) := ⟨rfl, rfl, rfl, by decide +kernel, rfl, by decide +kernel, by decide +kernel⟩
/-- the scope of a comprehension that a statement stores -/
def lcScope : Stmt → Scope
  | .Assign _ (.ListComp _ _ sc _) _ => sc
  | _ => { kind := .function, names := [], isGenerator := false, isCoroutine := false }
abbrev scI : Scope := lcScope ((defBody sRead).getD 3 (.Pass ⟨0, 0, 0, 0⟩))
def spRead (C Ce : Addr) : Sp := fun vs H Q E => ∃ t : Str, vs = [.str t] ∧ t.length ≤ 900 ∧
  (LawOK (rowsOf t) → ∀ H' g, Same H H' → GridAt C H' g (mark (rowsOf t) 88) (mark (rowsOf t) 79) → Q (.ref g) H') ∧
  (¬ LawOK (rowsOf t) → ∀ H' d, Same H H' → H' d = some (.xd [(("at" : Str), .int 0), (("text" : Str), .str t)]) → E (.ref Ce) (some d) H')
/-- what sep.join(a name) asks -/
abbrev rJoin (K : PySem.W.Frag) : V → List V → Hp → VK → Prop := fun x xs H Q => ∃ a p, ∃ ys : List Str, x = .str a ∧ xs = [.ref p] ∧ (SqL K H p (ys.map V.str) ∨ SqT K H p (ys.map V.str)) ∧ (ys.map (·.length)).sum + ys.length * a.length ≤ 16777216 ∧ Q (.str (Txt.join a ys)) H
theorem all_map (R : List (List Nat)) (n : Nat) : (R.map fun l => decide (l.length = n)).all id = true ↔ ∀ l ∈ R, l.length = n := by
  rw [List.all_eq_true]
  constructor
  · intro h l hl
    have := h _ (List.mem_map_of_mem hl)
    exact of_decide_eq_true this
  · intro h b hb
    obtain ⟨l, hl, rfl⟩ := List.mem_map.mp hb
    exact decide_eq_true (h l hl)
theorem iteNF {c A B : Prop} [Decidable c] (hc : ¬ c) (h : A) : if (!decide c) = true then A else B := by
  rw [decide_eq_false hc]
  exact h
/-- the list of texts of these signs -/
abbrev sv (R : List (List Nat)) : List V := (R.map S).map V.str
theorem sv_length (R : List (List Nat)) : (sv R).length = R.length := by rw [List.length_map, List.length_map]
theorem sv_inv {R : List (List Nat)} {i : Nat} {v : V} (h : (sv R)[i]? = some v) : ∃ z, R[i]? = some z ∧ v = .str (S z) := by
  rw [List.getElem?_map, List.getElem?_map] at h
  cases q : R[i]? with
  | none => rw [q] at h; cases h
  | some z =>
    rw [q] at h
    exact ⟨z, rfl, (Option.some.inj h).symm⟩
theorem sv_snoc {R : List (List Nat)} {i : Nat} {z : List Nat} (h : R[i]? = some z) : sv (R.take i) ++ [V.str (S z)] = sv (R.take (i + 1)) := by
  rw [List.take_add_one, h]
  show _ = ((R.take i ++ [z]).map S).map V.str
  rw [List.map_append, List.map_append]
  rfl
theorem iv_snoc {xs : List Nat} {i x : Nat} (h : xs[i]? = some x) : iv (xs.take i) ++ [V.int (x : Int)] = iv (xs.take (i + 1)) := by
  rw [List.take_add_one, h]
  show _ = (xs.take i ++ [x]).map _
  rw [List.map_append]
  rfl
section
variable {P : Program} {w : World} {K : PySem.W.Frag} {mg : Str → Option Value} {base : Heap} {f C fI fE fS Ce fX cc cda : Addr} {fd fdI : FuncData}
theorem ok_read (F : L2.Fun K "read_grid" "read_grid" sRead f fd) (B : Gb mg) (G : GridTxt K mg C fI fE fS) (T : ErrTxt P K mg Ce fX cc cda) (FI : FnOk P w K mg base CX0 5 fI fdI ["self", "xs", "ohs"] (spInit C)) (bI : Binds K fdI ["self", "xs", "ohs"] []) :
    FnOk P w K mg base (CX P w) 7 f fd ["text"] (spRead C Ce) := by
  refine F.okX scRead (fun vs H Q E h => ?_) (fun cdv A outer s H vs Q E hr h => ?_)
  · obtain ⟨t, rfl, _⟩ := h
    rfl
  · obtain ⟨t, rfl, ht, hQ, hE⟩ := h
    have nd := scRead.nd
    obtain ⟨tx, ex⟩ := B.cross
    obtain ⟨to, eo⟩ := B.ring
    obtain ⟨td, ed⟩ := B.noth
    refine ⟨_, pss_cons (ps_set (i := 1) nd rfl (.inr rfl) (pe_revL (pe_split (pv 0) pe_str)))
      (pss_cons (ps_set (i := 2) nd rfl (.inr rfl) (pe_callB call_len (by rfl) B.len bLen (pa_cons (pv 1) pa_nil)))
      (pss_cons (ps_if (pt_not (pt_val (pe_callB (cr_all rfl) (by rfl) B.all bAll (pa_cons
          (pe_lc (own := [("line", 5)]) (g := gName 5) (tt := tYes) rfl nd (pi_list (pv 1)) (blkOk_by (N := nRead) (sc := defScope sRead) (by decide +kernel)) (fun _ _ _ _ _ => pg_name (i := 5) nd rfl (Or.inl rfl)) (fun _ _ _ _ _ => pts_nil)
            (fun _ _ _ _ _ => pe_cmpR op_eq (pe_callB call_len_str (by rfl) B.len bLen (pa_cons (pv 5) pa_nil)) (pv 2) (nomark _))) pa_nil))))
        (pss_one (ps_raiseErr rfl T hr (takes_of rfl rfl rfl rfl) (pa_cons (pv 0) (pa_cons pe_int pa_nil)))) pss_nil)
      (pss_cons (ps_setLc (i := 3) (own := [("i", 6)]) (g := gName 6) (tt := tYes) (te := tM1 (rJoin K) (tC (.str (Str.ofString ""))) (tLc (iList K (tVar 1)) (gName 5) tYes (tOp rIxS (tVar 5) (tVar 6)) [5])) rfl nd rfl rfl (sw_true rfl rfl rfl (by decide +kernel)) (pi_range1 (by rfl) B.range (pa_cons (pv 2) pa_nil)) (blkOk_by (N := nRead) (sc := defScope sRead) (by decide +kernel))
          (fun _ _ _ _ _ => pg_name (i := 6) nd rfl (Or.inr rfl)) (fun _ _ _ _ _ => pts_nil)
          (fun _ _ _ _ _ => pe_join pe_str (pe_lc (own := [("line", 5)]) (g := gName 5) (tt := tYes) rfl nd (pi_list (pv 1)) (blkOk_by (N := nRead) (sc := relS scI (defScope sRead)) (by decide +kernel)) (fun _ _ _ _ _ => pg_name (i := 5) nd rfl (Or.inl rfl)) (fun _ _ _ _ _ => pts_nil)
            (fun _ _ _ _ _ => pe_ix ix_str (pv 5) (pv 6) (fun _ _ => rfl)))))
      (pss_cons (ps_for (passes_of rfl) rfl (pi_list (pe_op op_cat (pv 1) (pv 3))) (pg_name (i := 4) nd rfl (.inl rfl))
        (pss_one (ps_if (PW.pt (pw_or (pt_cmpR op_ne (pe_m1 PySem.F.slot_str_count PySem.F.type_str_count mt_count (pv 4) (pe_glob (v := .str sX) (by rfl) ex ⟨tx, rfl⟩)) pe_int (nomark _))
            (pw_or (pt_cmpR op_ne (pe_m1 PySem.F.slot_str_count PySem.F.type_str_count mt_count (pv 4) (pe_glob (v := .str sO) (by rfl) eo ⟨to, rfl⟩)) pe_int (nomark _))
            (pw_or1 (pt_cmpR op_ne (pe_m1 PySem.F.slot_str_count PySem.F.type_str_count mt_count (pv 4) (pe_glob (v := .str sD) (by rfl) ed ⟨td, rfl⟩)) (pe_op op_sub (pv 2) pe_int) (nomark _))))))
          (pss_one (ps_raiseErr rfl T hr (takes_of rfl rfl rfl rfl) (pa_cons (pv 0) (pa_cons pe_int pa_nil)))) pss_nil)))
      (pss_one (ps_ret (pe_make G.made FI hr (by rfl) G.gC bI .nil pass0 (pa_cons
          (pe_lc (own := [("column", 7)]) (g := gName 7) (tt := tYes) rfl nd (pi_list (pv 3)) (blkOk_by (N := nRead) (sc := defScope sRead) (by decide +kernel)) (fun _ _ _ _ _ => pg_name (i := 7) nd rfl (Or.inl rfl)) (fun _ _ _ _ _ => pts_nil)
            (fun _ _ _ _ _ => pe_m1 PySem.F.slot_str_index PySem.F.type_str_index mt_sindex (pv 7) (pe_glob (v := .str sX) (by rfl) ex ⟨tx, rfl⟩)))
          (pa_cons (pe_lc (own := [("column", 7)]) (g := gName 7) (tt := tYes) rfl nd (pi_list (pv 3)) (blkOk_by (N := nRead) (sc := defScope sRead) (by decide +kernel)) (fun _ _ _ _ _ => pg_name (i := 7) nd rfl (Or.inl rfl)) (fun _ _ _ _ _ => pts_nil)
            (fun _ _ _ _ _ => pe_m1 PySem.F.slot_str_index PySem.F.type_str_index mt_sindex (pv 7) (pe_glob (v := .str sO) (by rfl) eo ⟨to, rfl⟩))) pa_nil))))))))), ?_⟩
    generalize hRd : rowsOf t = R at hQ hE
    have hR0 : R ≠ [] := by rw [← hRd]; exact rowsOf_ne t
    have hRl : R.length ≤ 901 := by
      have := rowsOf_length t
      rw [hRd] at this
      omega
    have hRz : ∀ z ∈ R, z.length ≤ 900 := fun z hz => by
      have := rowOf_length (t := t) (z := z) (by rw [hRd]; exact hz)
      omega
    have eL : ((Txt.split t (Str.ofString "\n")).map V.str).reverse = sv R := by
      rw [lines_split, ← hRd]
      show _ = (((linesOf t).reverse.map S).map V.str)
      rw [List.map_reverse, List.map_reverse]
    -- lines
    refine ⟨_, rfl, ⟨t, rfl⟩, t, Str.ofString "\n", rfl, rfl, by decide +kernel, line_of (by omega), fun p np => ?_⟩
    refine ⟨p, _, rfl, SqL.of upd_same, fun l nl => ?_⟩
    rw [eL]
    have s1 : Same H (upd (upd H p (.lst ((Txt.split t (Str.ofString "\n")).map V.str))) l (.lst (sv R))) := snew (same_new np) nl
    have e1 : (upd (upd H p (.lst ((Txt.split t (Str.ofString "\n")).map V.str))) l (.lst (sv R))) l = some (.lst (sv R)) := upd_same
    generalize upd (upd H p (.lst ((Txt.split t (Str.ofString "\n")).map V.str))) l (.lst (sv R)) = H1 at s1 e1
    -- n
    refine ⟨_, rfl, .ref l, R.length, rfl, .inl ⟨_, SqL.of e1, (sv_length R).symm⟩, ?_⟩
    -- all([..])
    refine ⟨_, rfl, l, rfl, ⟨_, SqL.of e1⟩, fun D hD => ?_⟩
    have wk := wk_list (K := K) (a := l) (xs := sv R)
    refine lc_any (tt := tYes) (n := R.length) (fun i H' => Same H1 H' ∧ H' D = some (.lst (((R.take i).map fun z => decide (z.length = R.length)).map V.bl))) ⟨same_new hD, upd_same⟩
      (fun i H' hi hP => wk.go i H' (by rw [sv_length]; exact hi) (SqL.of (hP.1 _ _ e1))) (fun H' hP => by
        have q := wk.st H' (SqL.of (hP.1 _ _ e1))
        rw [sv_length] at q
        exact q) (fun i H' x H'' hi hP hy => ?_) (fun H' hP => ?_)
    · obtain ⟨sm, eD⟩ := hP
      obtain ⟨rfl, ex⟩ := wk.yd i H' x H'' (SqL.of (sm _ _ e1)) hy
      obtain ⟨z, hz, rfl⟩ := sv_inv ex
      have hzl := hRz z (List.mem_of_getElem? hz)
      refine ⟨rfl, ?_⟩
      refine yesI ?_
      refine ⟨_, rfl, S z, rfl, line_of (by rw [S_length]; omega), _, rfl, rfl, _, eD, ?_, swr sm hD, ?_⟩
      · rw [List.length_map, List.length_map, List.length_take]
        exact line_lt (by omega)
      · rw [upd_same, dec_nat, S_length, List.take_add_one, hz]
        show some (HO.lst _) = some (HO.lst (((R.take i ++ [z]).map _).map V.bl))
        rw [List.map_append, List.map_append]
        rfl
    · obtain ⟨sm, eD⟩ := hP
      rw [List.take_length] at eD
      refine ⟨D, R.map fun z => decide (z.length = R.length), rfl, SqL.of eD, _, rfl, ?_⟩
      have s2 := s1.trans sm
      have e2 := sm _ _ e1
      by_cases hs : Sq R
      rotate_left
      · have ef : (R.map fun z => decide (z.length = R.length)).all id = false := by
          rw [Bool.eq_false_iff]
          exact fun e => hs ((all_map R R.length).mp e)
        rw [ef]
        refine iteT ?_
        exact ⟨_, rfl, _, _, rfl, fun d hd => hE (fun h => hs (law_to_prog h).1) _ d (snew s2 hd) upd_same⟩
      · rw [(all_map R R.length).mpr hs]
        refine iteF ?_
        -- columns
        refine ⟨_, rfl, (R.length : Int), rfl, by omega, by omega, fun D2 hD2 => ?_⟩
        refine lc_any (tt := tYes) (n := R.length) (fun i H2 => Same H' H2 ∧ H2 D2 = some (.lst (sv (((List.range R.length).map (col R)).take i)))) ⟨same_new hD2, upd_same⟩
          (fun i H2 hi hP => by
            show i < (R.length : Int).toNat
            omega) (fun H2 hP => by
            show (R.length : Int).toNat ≤ R.length
            omega) (fun i H2 x H3 hi hP hy => ?_) (fun H2 hP => ?_)
        · obtain ⟨sm2, eD2⟩ := hP
          obtain ⟨rfl, rfl⟩ := hy
          refine ⟨rfl, ?_⟩
          refine yesI ?_
          have e3 := sm2 _ _ e2
          refine ⟨⟨_, rfl⟩, _, rfl, l, rfl, ⟨_, SqL.of e3⟩, fun D3 hD3 => ?_⟩
          refine lc_any (tt := tYes) (n := R.length) (fun j H4 => Same H3 H4 ∧ H4 D3 = some (.lst ((ones ((col R i).take j)).map V.str))) ⟨same_new hD3, upd_same⟩
            (fun j H4 hj hP => wk.go j H4 (by rw [sv_length]; exact hj) (SqL.of (hP.1 _ _ e3))) (fun H4 hP => by
              have q := wk.st H4 (SqL.of (hP.1 _ _ e3))
              rw [sv_length] at q
              exact q) (fun j H4 x H5 hj hP hy => ?_) (fun H4 hP => ?_)
          · obtain ⟨sm4, eD4⟩ := hP
            obtain ⟨rfl, ex⟩ := wk.yd j H4 x H5 (SqL.of (sm4 _ _ e3)) hy
            obtain ⟨z, hz, rfl⟩ := sv_inv ex
            have hzl := hs z (List.mem_of_getElem? hz)
            refine ⟨rfl, ?_⟩
            refine yesI ?_
            refine ⟨_, rfl, _, rfl, S z, 0 + (i : Int), z.getD i 0, rfl, rfl, line_of (by rw [S_length]; omega), ?_, _, eD4, ?_, swr sm4 hD3, ?_⟩
            · rw [Int.zero_add]
              exact atI_nat (at_getD (by rw [hzl]; exact hi))
            · rw [List.length_map, ones_length, List.length_take, col_length]
              exact line_lt (by omega)
            · rw [upd_same, List.take_add_one, col_at hz]
              unfold ones
              rw [List.map_append, List.map_append]
              rfl
          · obtain ⟨sm4, eD4⟩ := hP
            rw [List.take_of_length_le (by rw [col_length]; exact Nat.le_refl _)] at eD4
            refine ⟨_, D3, ones (col R i), rfl, rfl, .inl (SqL.of eD4), ?_, ?_⟩
            · rw [ones_sum, ones_length, col_length]
              show R.length + R.length * 0 ≤ _
              omega
            · refine ⟨_, sm4 _ _ eD2, ?_, swr (sm2.trans sm4) hD2, ?_⟩
              · rw [sv_length, List.length_take, List.length_map, List.length_range]
                exact line_lt (by omega)
              · have hc : ((List.range R.length).map (col R))[i]? = some (col R i) := by
                  rw [List.getElem?_map, List.getElem?_range hi]
                  rfl
                have ej : Txt.join (Str.ofString "") (ones (col R i)) = S (col R i) := by rw [em_eq, join_ones]
                rw [upd_same, ej, sv_snoc hc]
        · obtain ⟨sm2, eD2⟩ := hP
          rw [List.take_of_length_le (by rw [List.length_map, List.length_range]; exact Nat.le_refl _)] at eD2
          generalize hCs : (List.range R.length).map (col R) = Cs at eD2
          have hCl : Cs.length = R.length := by rw [← hCs, List.length_map, List.length_range]
          have e3 := sm2 _ _ e2
          have s3 := s2.trans sm2
          have hpo : (∀ z ∈ R ++ Cs, PO R.length z) ↔ LawOK R := by
            rw [← hCs]
            exact ⟨fun h => prog_to_law hR0 hs h, fun h => (law_to_prog h).2⟩
          -- for row in lines + columns
          refine ⟨_, rfl, _, rfl, l, D2, _, _, rfl, rfl, e3, eD2, ?_, fun p2 np2 => ?_⟩
          · rw [sv_length, sv_length, hCl]
            exact line_of (by omega)
          have eA : sv R ++ sv Cs = sv (R ++ Cs) := by
            show _ = (((R ++ Cs).map S).map V.str)
            rw [List.map_append, List.map_append]
          rw [eA]
          have s4 := snew (o := .lst (sv (R ++ Cs))) s3 np2
          have e4 := at_new (o := .lst (sv (R ++ Cs))) e3 np2
          have eD4 := at_new (o := .lst (sv (R ++ Cs))) eD2 np2
          have eP : (upd H2 p2 (.lst (sv (R ++ Cs)))) p2 = some (.lst (sv (R ++ Cs))) := upd_same
          generalize upd H2 p2 (.lst (sv (R ++ Cs))) = H3 at s4 e4 eD4 eP
          refine ⟨p2, rfl, ⟨_, SqL.of eP⟩, ?_⟩
          have wk2 := wk_list (K := K) (a := p2) (xs := sv (R ++ Cs))
          refine for_any (n := (R ++ Cs).length) (fun i σ H4 => ∃ y4, σ = [some (.str t), some (.ref l), some (.int (R.length : Int)), some (.ref D2), y4, none, none, none] ∧ H4 = H3 ∧ ∀ z ∈ (R ++ Cs).take i, PO R.length z) ⟨none, rfl, rfl, fun z hz => by simp at hz⟩
            (fun i σ H4 hi hP => by
              obtain ⟨_, _, rfl, _⟩ := hP
              exact wk2.go i _ (by rw [sv_length]; exact hi) (SqL.of eP)) (fun σ H4 hP => by
              obtain ⟨_, _, rfl, _⟩ := hP
              have q := wk2.st _ (SqL.of eP)
              rw [sv_length] at q
              exact q) (fun i σ H4 x H5 hi hP hy => ?_) (fun σ H4 hP => ?_)
          · obtain ⟨y4, rfl, rfl, po⟩ := hP
            obtain ⟨rfl, exi⟩ := wk2.yd i _ x H5 (SqL.of eP) hy
            obtain ⟨z, hz, rfl⟩ := sv_inv exi
            have hzm : z ∈ R ++ Cs := List.mem_of_getElem? hz
            have bad : ¬ PO R.length z → ¬ LawOK R := fun h1 h2 => h1 (hpo.mpr h2 z hzm)
            -- row.count(CROSS) != 1
            refine ⟨_, rfl, ⟨_, rfl⟩, S z, sX, rfl, rfl, rfl, _, rfl, ?_⟩
            rw [sX_eq, count_one]
            by_cases h88 : z.count 88 = 1
            rotate_left
            · refine iteNF (fun e => h88 (by have := V.int.inj e; omega)) ?_
              exact ⟨_, rfl, _, _, rfl, fun d hd => hE (bad fun h => h88 h.1) _ d (snew s4 hd) upd_same⟩
            refine iteNS (by rw [h88]; rfl) ?_
            refine ⟨_, rfl, ⟨_, rfl⟩, S z, sO, rfl, rfl, rfl, _, rfl, ?_⟩
            rw [sO_eq, count_one]
            by_cases h79 : z.count 79 = 1
            rotate_left
            · refine iteNF (fun e => h79 (by have := V.int.inj e; omega)) ?_
              exact ⟨_, rfl, _, _, rfl, fun d hd => hE (bad fun h => h79 h.2.1) _ d (snew s4 hd) upd_same⟩
            refine iteNS (by rw [h79]; rfl) ?_
            refine ⟨_, rfl, ⟨_, rfl⟩, S z, sD, rfl, rfl, _, rfl, (R.length : Int), 2, rfl, rfl, rfl, _, rfl, ?_⟩
            rw [sD_eq, count_one]
            by_cases h46 : (z.count 46 : Int) = (R.length : Int) - 2
            rotate_left
            · refine iteNF (fun e => h46 (V.int.inj e)) ?_
              exact ⟨_, rfl, _, _, rfl, fun d hd => hE (bad fun h => h46 h.2.2) _ d (snew s4 hd) upd_same⟩
            refine iteNS (by rw [h46]) ?_
            refine ⟨_, rfl, rfl, fun y hy => ?_⟩
            rw [List.take_add_one, hz] at hy
            rcases List.mem_append.mp hy with hy | hy
            · exact po y hy
            · rw [List.mem_singleton.mp hy]
              exact ⟨h88, h79, h46⟩
          · obtain ⟨y4, rfl, rfl, po⟩ := hP
            rw [List.take_length] at po
            have law := hpo.mp po
            have hpair := law_pair law
            -- Grid(..)
            have wk3 := wk_list (K := K) (a := D2) (xs := sv Cs)
            have colAt : ∀ (i : Nat) z, Cs[i]? = some z → i < R.length ∧ z = col R i := fun i z hz => by
              have hi : i < R.length := by
                have := (List.getElem?_eq_some_iff.mp hz).1
                omega
              rw [← hCs, List.getElem?_map, List.getElem?_range hi] at hz
              exact ⟨hi, (Option.some.inj hz).symm⟩
            refine ⟨_, rfl, D2, rfl, ⟨_, SqL.of eD4⟩, fun D5 hD5 => ?_⟩
            refine lc_any (tt := tYes) (n := R.length) (fun i H6 => Same H4 H6 ∧ H6 D5 = some (.lst (iv ((mark R 88).take i)))) ⟨same_new hD5, upd_same⟩
              (fun i H6 hi hP => wk3.go i H6 (by rw [sv_length, hCl]; exact hi) (SqL.of (hP.1 _ _ eD4))) (fun H6 hP => by
                have q := wk3.st H6 (SqL.of (hP.1 _ _ eD4))
                rw [sv_length, hCl] at q
                exact q) (fun i H6 x H7 hi hP hy => ?_) (fun H6 hP => ?_)
            · obtain ⟨sm6, eD6⟩ := hP
              obtain ⟨rfl, exi⟩ := wk3.yd i H6 x H7 (SqL.of (sm6 _ _ eD4)) hy
              obtain ⟨z, hz, rfl⟩ := sv_inv exi
              obtain ⟨_, rfl⟩ := colAt i z hz
              obtain ⟨rest, hrest⟩ := index_one (l := col R i) (c := 88) ((po _ (List.mem_append_right _ (List.mem_of_getElem? hz))).1)
              refine ⟨rfl, ?_⟩
              refine yesI ?_
              refine ⟨_, rfl, ⟨_, rfl⟩, S (col R i), sX, (col R i).idxOf 88, rest, rfl, rfl, by rw [sX_eq]; exact hrest, _, eD6, ?_, swr sm6 hD5, ?_⟩
              · rw [iv_length, List.length_take]
                exact line_lt (by omega)
              · rw [upd_same, iv_snoc (mark_at hi)]
            · obtain ⟨sm6, eD6⟩ := hP
              rw [List.take_of_length_le (by rw [mark_length]; exact Nat.le_refl _)] at eD6
              have eD7 := sm6 _ _ eD4
              refine ⟨_, rfl, D2, rfl, ⟨_, SqL.of eD7⟩, fun D8 hD8 => ?_⟩
              refine lc_any (tt := tYes) (n := R.length) (fun i H8 => Same H6 H8 ∧ H8 D8 = some (.lst (iv ((mark R 79).take i)))) ⟨same_new hD8, upd_same⟩
                (fun i H8 hi hP => wk3.go i H8 (by rw [sv_length, hCl]; exact hi) (SqL.of (hP.1 _ _ eD7))) (fun H8 hP => by
                  have q := wk3.st H8 (SqL.of (hP.1 _ _ eD7))
                  rw [sv_length, hCl] at q
                  exact q) (fun i H8 x H9 hi hP hy => ?_) (fun H8 hP => ?_)
              · obtain ⟨sm8, eD8⟩ := hP
                obtain ⟨rfl, exi⟩ := wk3.yd i H8 x H9 (SqL.of (sm8 _ _ eD7)) hy
                obtain ⟨z, hz, rfl⟩ := sv_inv exi
                obtain ⟨_, rfl⟩ := colAt i z hz
                obtain ⟨rest, hrest⟩ := index_one (l := col R i) (c := 79) ((po _ (List.mem_append_right _ (List.mem_of_getElem? hz))).2.1)
                refine ⟨rfl, ?_⟩
                refine yesI ?_
                refine ⟨_, rfl, ⟨_, rfl⟩, S (col R i), sO, (col R i).idxOf 79, rest, rfl, rfl, by rw [sO_eq]; exact hrest, _, eD8, ?_, swr sm8 hD8, ?_⟩
                · rw [iv_length, List.length_take]
                  exact line_lt (by omega)
                · rw [upd_same, iv_snoc (mark_at hi)]
              · obtain ⟨sm8, eD8⟩ := hP
                rw [List.take_of_length_le (by rw [mark_length]; exact Nat.le_refl _)] at eD8
                refine fun x dx nx nd ne => init_at (n := R.length) (.inl ⟨sm8 _ _ eD6, eD8⟩) hpair (by omega) nx nd fun H' sH gA => ?_
                exact hQ law H' x (((s4.trans sm6).trans sm8).trans sH) gA
end
end GK
/-! _law_told, _law_equal -/
namespace GK
open PySem PySem.Spec PyProof.Rows L2
open SX (S)
abbrev sTold : Stmt := topS 27
abbrev sEqual : Stmt := topS 20
abbrev nTold : List Str := ["_law_text_here", "_law_grid_here", "text_error", "_law_at", "_law_inside"]
theorem scTold : FnScope nTold ["_law_text_here"] (defScope sTold) := ⟨rfl, rfl, rfl, by decide +kernel, rfl, by decide +kernel, by decide +kernel⟩
/-- a pair of rows of marks, as tuples -/
def PairAt (H : Hp) (q : Addr) (xs ohs : List Nat) : Prop := ∃ a b, H q = some (.tup [.ref a, .ref b]) ∧ H a = some (.tup (iv xs)) ∧ H b = some (.tup (iv ohs))
theorem PairAt.same {H H1 : Hp} {q : Addr} {xs ohs : List Nat} (s : Same H H1) (h : PairAt H q xs ohs) : PairAt H1 q xs ohs := by
  obtain ⟨a, b, h1, h2, h3⟩ := h
  exact ⟨a, b, s _ _ h1, s _ _ h2, s _ _ h3⟩
def spTold : Sp := fun vs H Q _ => ∃ t : Str, vs = [.str t] ∧ t.length ≤ 900 ∧
  (LawOK (rowsOf t) → ∀ H' p q, Same H H' → H' p = some (.tup [.str (Str.ofString "value"), .ref q]) → PairAt H' q (mark (rowsOf t) 88) (mark (rowsOf t) 79) → Q (.ref p) H') ∧
  (¬ LawOK (rowsOf t) → ∀ H' p, Same H H' → H' p = some (.tup [.str (Str.ofString "text"), .str t, .bl true]) → Q (.ref p) H')
theorem lk_at {p q : V} : List.lookup ("at" : Str) [(("at" : Str), p), (("text" : Str), q)] = some p := by simp [List.lookup]
theorem lk_text {p q : V} : List.lookup ("text" : Str) [(("at" : Str), p), (("text" : Str), q)] = some q := by
  have e : (("text" : Str) == ("at" : Str)) = false := by decide +kernel
  simp [List.lookup, e]
section
variable {P : Program} {w : World} {K : PySem.W.Frag} {mg : Str → Option Value} {base : Heap} {f C fI fE fS Ce fX cc cda : Addr} {fd : FuncData}
/-- the readings of the try's body, of the suite -/
def tBodyT (K : PySem.W.Frag) (C Ce : Addr) : WX → TS := fun W => tSeq (tAsg (tCallS (spRead C Ce) (WE W) (tCons (tVar 0) tNil)) (gName 1))
  (tRet (tTup (tCons (tC (.str (Str.ofString "value"))) (tCons (tTup (tCons (tFld K (tVar 1) "xs") (tCons (tFld K (tVar 1) "ohs") tNil))) tNil))))
def tInside (K : PySem.W.Frag) : TE := tAndV (tCB (rIsi K) (tCons (tVar 3) (tCons (tC (.ty "int")) tNil))) (tAndV (tNotV (tCB (rIsi K) (tCons (tVar 3) (tCons (tC (.ty "bool")) tNil))))
  (tChain (rI0 fun i j => .bl (decide (i ≤ j))) (rI0 fun i j => .bl (decide (i ≤ j))) (tC (.int 0)) (tVar 3) (tCB (fun xs H Q => ∃ z, xs = [.str z] ∧ z.length ≤ sizeLine ∧ Q (.int z.length) H) (tCons (tVar 0) tNil))))
def tSuiteT (K : PySem.W.Frag) (Ce : Addr) : Addr → Value → Option Addr → TS := fun a cls d => tSeq (tAsg (tXf a cls d Ce "at" (tVar 2)) (gName 3)) (tSeq (tAsg (tInside K) (gName 4))
  (tRet (tTup (tCons (tC (.str (Str.ofString "text"))) (tCons (tXf a cls d Ce "text" (tVar 2)) (tCons (tVar 4) tNil))))))
theorem ok_told (F : L2.Fun K "_law_told" "_law_told" sTold f fd) (B : Gb mg) (G : GridTxt K mg C fI fE fS) (T : ErrTxt P K mg Ce fX cc cda) (c : Cl P w K mg base (CX P w) 7 "read_grid" ["text"] (spRead C Ce)) :
    FnOk P w K mg base CX0 8 f fd ["_law_text_here"] spTold := by
  refine F.ok scTold (fun vs H Q E h => ?_) (fun cdv A outer s H vs Q E hr h => ?_)
  · obtain ⟨t, rfl, _⟩ := h
    rfl
  · obtain ⟨t, rfl, ht, hV, hT⟩ := h
    have nd := scTold.nd
    have Xf : XfC K Ce := ⟨T.ga, T.gg, T.exC, T.hdC⟩
    refine ⟨_, pss_one (ps_try_as (i := 2) (tb := tBodyT K C Ce) (ts := tSuiteT K Ce) (Wout := fun _ _ _ _ => False) rfl rfl nd rfl rfl ⟨rfl, by decide, Or.inl T.gC⟩ takes0
      (fun W pn xe tk _ => pss_cons (ps_set (i := 1) nd rfl (Or.inl rfl) (pe_clS c hr (by decide) (by rfl) (fun σ => passAt tk σ) (pa_cons (pv 0) pa_nil)))
        (pss_one (ps_ret (pe_tup (pa_cons pe_str (pa_cons (pe_tup (pa_cons (pe_fld (pv 1) rfl) (pa_cons (pe_fld (pv 1) rfl) pa_nil))) pa_nil))))))
      (fun a oe cls d pn hz hf => pss_cons (ps_set (i := 3) nd rfl (Or.inl rfl) (pe_xf Xf T.noA hz hf (pv 2)))
        (pss_cons (ps_set (i := 4) nd rfl (Or.inl rfl) (pe_and (pe_callB call_isi (by rfl) B.isi bIsi (pa_cons (pv 3) (pa_cons (pe_bltn (v := .ty "int") (by rfl) B.int bInt rfl) pa_nil)))
          (pe_and (pe_not (pe_callB call_isi (by rfl) B.isi bIsi (pa_cons (pv 3) (pa_cons (pe_bltn (v := .ty "bool") (by rfl) B.bool bBool rfl) pa_nil))))
            (pe_one (pe_chain op_le op_le pe_int (pv 3) (pe_callB call_len_str (by rfl) B.len bLen (pa_cons (pv 0) pa_nil)))))))
        (pss_one (ps_ret (pe_tup (pa_cons pe_str (pa_cons (pe_xf Xf T.noT hz hf (pv 2)) (pa_cons (pv 4) pa_nil))))))))), ?_⟩
    refine ⟨_, rfl, t, rfl, ht, fun law H1 g s1 gA => ?_, fun nlaw H1 d s1 ed => ?_⟩
    · obtain ⟨dx, p, q, h1, h2, h3⟩ := gA
      refine ⟨_, rfl, g, C, dx, _, _, rfl, h1, G.cl, G.nx, lk_xs, _, rfl, g, C, dx, _, _, rfl, h1, G.cl, G.no, lk_ohs, (show 2 ≤ sizeLine from line_of (by decide)), fun q2 nq2 => ?_⟩
      refine ⟨(show 2 ≤ sizeLine from line_of (by decide)), fun q3 nq3 => ?_⟩
      exact hV law _ q3 q2 (snew (snew s1 nq2) nq3) upd_same ⟨p, q, at_new upd_same nq3, at_new (at_new h2 nq2) nq3, at_new (at_new h3 nq2) nq3⟩
    · refine ⟨true, T.te, fun _ a ha => ?_, fun e => Bool.noConfusion e⟩
      refine ⟨_, rfl, rfl, rfl, d, _, .int 0, rfl, ed, lk_at, ?_⟩
      refine ⟨_, rfl, .int 0, .ty "int", _, _, true, rfl, .ty _, .base (.int 0), kit_ty (by decide +kernel), true, rfl, ?_⟩
      refine iteT ?_
      refine ⟨_, rfl, .int 0, .ty "bool", _, _, false, rfl, .ty _, .base (.int 0), kit_ty (by decide +kernel), false, rfl, true, rfl, ?_⟩
      refine iteT ?_
      refine ⟨_, rfl, 0, 0, rfl, rfl, true, rfl, ?_⟩
      refine iteT ?_
      refine ⟨_, rfl, t, rfl, line_of (by omega), 0, _, rfl, rfl, ?_⟩
      refine ⟨_, rfl, rfl, rfl, d, _, .str t, rfl, ed, lk_text, _, rfl, (show 3 ≤ sizeLine from line_of (by decide)), fun p np => hT nlaw _ p (snew s1 np) ?_⟩
      rw [upd_same]
      show some (HO.tup [V.str (Str.ofString "text"), V.str t, V.bl (decide ((0 : Int) ≤ ((t.length : Nat) : Int)))]) = _
      rw [decide_eq_true (show (0 : Int) ≤ ((t.length : Nat) : Int) by omega)]
/-! ### _law_equal -/
def sc : V → Bool
  | .bl _ => true
  | .int _ => true
  | .str _ => true
  | _ => false
/-- the same data, fewer than d tuples deep -/
def EqD (H : Hp) : Nat → V → V → Prop
  | 0, _, _ => False
  | d + 1, x, y => (x = y ∧ sc x = true) ∨ ∃ a b xs ys, x = .ref a ∧ y = .ref b ∧ H a = some (.tup xs) ∧ H b = some (.tup ys) ∧ xs.length = ys.length ∧ xs.length ≤ 1000 ∧ ∀ (i : Nat) u v, xs[i]? = some u → ys[i]? = some v → EqD H d u v
def spEqual (d : Nat) : Sp := fun vs H Q _ => ∃ x y, vs = [x, y] ∧ EqD H d x y ∧ Q (.bl true) H
abbrev nEqual : List Str := ["_law_actual", "_law_expected", "_law_k"]
theorem scEqual : FnScope nEqual ["_law_actual", "_law_expected"] (defScope sEqual) := ⟨rfl, rfl, rfl, by decide +kernel, rfl, by decide +kernel, by decide +kernel⟩
theorem ok_equal (F : L2.Fun K "_law_equal" "_law_equal" sEqual f fd) (B : Gb mg) (gf : mg "_law_equal" = some (.ref f)) (bf : Binds K fd ["_law_actual", "_law_expected"] []) : ∀ d : Nat, FnOk P w K mg base CX0 d f fd ["_law_actual", "_law_expected"] (spEqual d)
  | 0 => ⟨fun vs H Q E h => by obtain ⟨x, y, rfl, _⟩ := h; rfl, fun A outer s H args us vs Q E _ _ _ _ h => by obtain ⟨x, y, _, h, _⟩ := h; exact h.elim⟩
  | d + 1 => by
    have ih := ok_equal F B gf bf d
    refine F.ok scEqual (fun vs H Q E h => ?_) (fun cdv A outer s H vs Q E hr h => ?_)
    · obtain ⟨x, y, rfl, _⟩ := h
      rfl
    · obtain ⟨x, y, rfl, he, q⟩ := h
      have nd := scEqual.nd
      refine ⟨_, pss_cons (ps_if (pt_cmpR op_isN (pv 1) pe_non (nomark _)) (pss_one ps_never) pss_nil)
        (pss_cons (ps_if (pt_val (pe_callB call_isi (by rfl) B.isi bIsi (pa_cons (pv 1) (pa_cons (pe_bltn (v := .ty "bool") (by rfl) B.bool bBool rfl) pa_nil))))
          (pss_one (ps_ret (pe_and (pe_callB call_isi (by rfl) B.isi bIsi (pa_cons (pv 0) (pa_cons (pe_bltn (v := .ty "bool") (by rfl) B.bool bBool rfl) pa_nil))) (pe_one (pe_cmpR op_eq (pv 0) (pv 1) (nomark _)))))) pss_nil)
        (pss_cons (ps_if (pt_val (pe_callB call_isi (by rfl) B.isi bIsi (pa_cons (pv 1) (pa_cons (pe_bltn (v := .ty "int") (by rfl) B.int bInt rfl) pa_nil))))
          (pss_one (ps_ret (pe_and (pe_callB call_isi (by rfl) B.isi bIsi (pa_cons (pv 0) (pa_cons (pe_bltn (v := .ty "int") (by rfl) B.int bInt rfl) pa_nil)))
            (pe_and (pe_not (pe_callB call_isi (by rfl) B.isi bIsi (pa_cons (pv 0) (pa_cons (pe_bltn (v := .ty "bool") (by rfl) B.bool bBool rfl) pa_nil)))) (pe_one (pe_cmpR op_eq (pv 0) (pv 1) (nomark _))))))) pss_nil)
        (pss_cons (ps_if (pt_val (pe_callB call_isi (by rfl) B.isi bIsi (pa_cons (pv 1) (pa_cons (pe_bltn (v := .ty "str") (by rfl) B.str bStr rfl) pa_nil))))
          (pss_one (ps_ret (pe_and (pe_callB call_isi (by rfl) B.isi bIsi (pa_cons (pv 0) (pa_cons (pe_bltn (v := .ty "str") (by rfl) B.str bStr rfl) pa_nil))) (pe_one (pe_cmpR op_eq (pv 0) (pv 1) (nomark _)))))) pss_nil)
        (pss_cons (ps_if (PW.pt (pw_or (pt_not (pt_val (pe_callB call_isi (by rfl) B.isi bIsi (pa_cons (pv 0) (pa_cons (pe_bltn (v := .ty "tuple") (by rfl) B.tuple bTuple rfl) pa_nil)))))
            (pw_or1 (pt_cmpR op_ne (pe_callB call_len (by rfl) B.len bLen (pa_cons (pv 0) pa_nil)) (pe_callB call_len (by rfl) B.len bLen (pa_cons (pv 1) pa_nil)) (nomark _))))) (pss_one (ps_ret pe_bl)) pss_nil)
        (pss_cons (ps_for PassesOwn.never rfl (pi_range1 (by rfl) B.range (pa_cons (pe_callB call_len (by rfl) B.len bLen (pa_cons (pv 1) pa_nil)) pa_nil)) (pg_name (i := 2) nd rfl (.inl rfl))
          (pss_one (ps_if (pt_not (pt_val (pe_call ih hr (by rfl) gf F.kp bf .nil pass0 (pa_cons (pe_ix ix_tup (pv 0) (pv 2) (fun _ _ => rfl)) (pa_cons (pe_ix ix_tup (pv 1) (pv 2) (fun _ _ => rfl)) pa_nil))))) (pss_one (ps_ret pe_bl)) pss_nil)))
        (pss_one (ps_ret pe_bl))))))), ?_⟩
      have no : ∀ z : V, z ≠ .non → decide (z = V.non) = false := fun z hz => decide_eq_false hz
      rcases he with ⟨rfl, hs⟩ | ⟨a, b, xs, ys, rfl, rfl, ha, hb, hl, hz, hi⟩
      · cases x with
        | bl k =>
          refine ⟨_, rfl, rfl, _, rfl, ?_⟩
          rw [no (.bl k) (by intro e; cases e)]
          refine iteF ?_
          refine ⟨_, rfl, .bl k, .ty "bool", _, _, true, rfl, .ty _, .base (.bl k), kit_ty (by decide +kernel), true, rfl, ?_⟩
          refine iteT ?_
          refine ⟨_, rfl, .bl k, .ty "bool", _, _, true, rfl, .ty _, .base (.bl k), kit_ty (by decide +kernel), true, rfl, ?_⟩
          refine iteT ?_
          refine ⟨_, rfl, _, rfl, rfl, ?_⟩
          rw [decide_eq_true rfl]
          exact q
        | int k =>
          refine ⟨_, rfl, rfl, _, rfl, ?_⟩
          rw [no (.int k) (by intro e; cases e)]
          refine iteF ?_
          refine ⟨_, rfl, .int k, .ty "bool", _, _, false, rfl, .ty _, .base (.int k), kit_ty (by decide +kernel), false, rfl, ?_⟩
          refine iteF ?_
          refine ⟨_, rfl, .int k, .ty "int", _, _, true, rfl, .ty _, .base (.int k), kit_ty (by decide +kernel), true, rfl, ?_⟩
          refine iteT ?_
          refine ⟨_, rfl, .int k, .ty "int", _, _, true, rfl, .ty _, .base (.int k), kit_ty (by decide +kernel), true, rfl, ?_⟩
          refine iteT ?_
          refine ⟨_, rfl, .int k, .ty "bool", _, _, false, rfl, .ty _, .base (.int k), kit_ty (by decide +kernel), false, rfl, true, rfl, ?_⟩
          refine iteT ?_
          refine ⟨_, rfl, _, rfl, rfl, ?_⟩
          rw [decide_eq_true rfl]
          exact q
        | str k =>
          refine ⟨_, rfl, rfl, _, rfl, ?_⟩
          rw [no (.str k) (by intro e; cases e)]
          refine iteF ?_
          refine ⟨_, rfl, .str k, .ty "bool", _, _, false, rfl, .ty _, .base (.str k), kit_ty (by decide +kernel), false, rfl, ?_⟩
          refine iteF ?_
          refine ⟨_, rfl, .str k, .ty "int", _, _, false, rfl, .ty _, .base (.str k), kit_ty (by decide +kernel), false, rfl, ?_⟩
          refine iteF ?_
          refine ⟨_, rfl, .str k, .ty "str", _, _, true, rfl, .ty _, .base (.str k), kit_ty (by decide +kernel), true, rfl, ?_⟩
          refine iteT ?_
          refine ⟨_, rfl, .str k, .ty "str", _, _, true, rfl, .ty _, .base (.str k), kit_ty (by decide +kernel), true, rfl, ?_⟩
          refine iteT ?_
          refine ⟨_, rfl, _, rfl, rfl, ?_⟩
          rw [decide_eq_true rfl]
          exact q
        | _ => cases hs
      · refine ⟨_, rfl, rfl, _, rfl, ?_⟩
        rw [no (.ref b) (by intro e; cases e)]
        refine iteF ?_
        refine ⟨_, rfl, .ref b, .ty "bool", _, _, false, rfl, .ty _, .base (.tup hb), kit_ty (by decide +kernel), false, rfl, ?_⟩
        refine iteF ?_
        refine ⟨_, rfl, .ref b, .ty "int", _, _, false, rfl, .ty _, .base (.tup hb), kit_ty (by decide +kernel), false, rfl, ?_⟩
        refine iteF ?_
        refine ⟨_, rfl, .ref b, .ty "str", _, _, false, rfl, .ty _, .base (.tup hb), kit_ty (by decide +kernel), false, rfl, ?_⟩
        refine iteF ?_
        refine ⟨_, rfl, .ref a, .ty "tuple", _, _, true, rfl, .ty _, .base (.tup ha), kit_ty (by decide +kernel), true, rfl, ?_⟩
        refine iteF ?_
        refine ⟨_, rfl, .ref a, xs.length, rfl, .inr ⟨xs, SqT.of ha, rfl⟩, _, rfl, .ref b, ys.length, rfl, .inr ⟨ys, SqT.of hb, rfl⟩, rfl, _, rfl, ?_⟩
        refine iteNS (by rw [hl]) ?_
        refine ⟨_, rfl, .ref b, ys.length, rfl, .inr ⟨ys, SqT.of hb, rfl⟩, (ys.length : Int), rfl, by omega, by omega, ?_⟩
        refine for_any (n := ys.length) (fun i σ H4 => ∃ y2, σ = [some (.ref a), some (.ref b), y2] ∧ H4 = H) ⟨none, rfl, rfl⟩
          (fun i σ H4 hi hP => by
            show i < (ys.length : Int).toNat
            omega) (fun σ H4 hP => by
            show (ys.length : Int).toNat ≤ ys.length
            omega) (fun i σ H4 x H5 hi' hP hy => ?_) (fun σ H4 hP => ?_)
        · obtain ⟨y2, rfl, rfl⟩ := hP
          obtain ⟨rfl, rfl⟩ := hy
          obtain ⟨u, hu⟩ : ∃ u, xs[i]? = some u := ⟨_, List.getElem?_eq_getElem (by omega)⟩
          obtain ⟨v, hv⟩ : ∃ v, ys[i]? = some v := ⟨_, List.getElem?_eq_getElem hi'⟩
          refine ⟨_, rfl, _, rfl, a, xs, 0 + (i : Int), u, rfl, rfl, SqT.of ha, by rw [Int.zero_add]; exact atI_nat hu, _, rfl, _, rfl, b, ys, 0 + (i : Int), v, rfl, rfl, SqT.of hb, by rw [Int.zero_add]; exact atI_nat hv, ?_⟩
          refine ⟨u, v, rfl, hi i u v hu hv, true, rfl, ?_⟩
          refine iteF ?_
          exact ⟨_, rfl, rfl⟩
        · obtain ⟨y2, rfl, rfl⟩ := hP
          exact q
end
end GK
/-! _law_marked -/
namespace GK
open PySem PySem.Spec PyProof.Rows L2
open SX (S)
theorem dec_sign (a b : Nat) : decide (V.str ⟨#[a]⟩ = V.str (S [b])) = decide (a = b) := by
  by_cases h : a = b
  · rw [decide_eq_true h, h]
    exact decide_eq_true rfl
  · rw [decide_eq_false h]
    refine decide_eq_false fun e => h ?_
    have e1 : (⟨#[a]⟩ : Str) = S [b] := V.str.inj e
    have e2 : S [a] = S [b] := e1
    have e3 := SX.S_inj e2
    exact List.head_eq_of_cons_eq e3
theorem inV_iv (x : Nat) (xs : List Nat) : inV (.int (x : Int)) (iv xs) = decide (x ∈ xs) := by
  unfold inV
  rw [List.any_map, Bool.eq_iff_iff, List.any_eq_true, decide_eq_true_eq]
  constructor
  · rintro ⟨y, hy, e⟩
    have e2 : ((y : Int) == (x : Int)) = true := e
    have e3 : (y : Int) = (x : Int) := by simpa using e2
    have e4 : y = x := by omega
    exact e4 ▸ hy
  · intro h
    exact ⟨x, h, by show ((x : Int) == (x : Int)) = true; simp⟩
theorem flat_iv (xs : List Nat) : (iv xs).all flatV = true := by
  rw [List.all_map, List.all_eq_true]
  intro x _
  rfl
/-- the places found among the first k lines -/
def plT (R : List (List Nat)) (i m k : Nat) : List Nat := ((List.range k).filter fun k => (R.reverse.getD k []).getD i 0 == m).map fun k => R.length - 1 - k
theorem plT_all (R : List (List Nat)) (i m : Nat) : plT R i m R.length = places R.reverse i m := by
  unfold plT places
  rw [List.length_reverse]
theorem plT_yes {R : List (List Nat)} {i m k : Nat} (h : (R.reverse.getD k []).getD i 0 = m) : plT R i m (k + 1) = plT R i m k ++ [R.length - 1 - k] := by
  unfold plT
  rw [List.range_succ, List.filter_append, List.map_append]
  have e : ((R.reverse.getD k []).getD i 0 == m) = true := by rw [h]; exact beq_self_eq_true _
  simp only [List.filter_cons, e, if_true, List.filter_nil, List.map_cons, List.map_nil]
theorem plT_no {R : List (List Nat)} {i m k : Nat} (h : ¬ (R.reverse.getD k []).getD i 0 = m) : plT R i m (k + 1) = plT R i m k := by
  unfold plT
  rw [List.range_succ, List.filter_append, List.map_append]
  have e : ((R.reverse.getD k []).getD i 0 == m) = false := by rw [beq_eq_false_iff_ne]; exact h
  simp only [List.filter_cons, e, Bool.false_eq_true, if_false, List.filter_nil, List.map_nil, List.append_nil]
theorem plT_le (R : List (List Nat)) (i m k : Nat) : (plT R i m k).length ≤ k := by
  unfold plT
  rw [List.length_map]
  exact Nat.le_trans (List.length_filter_le _ _) (by rw [List.length_range]; exact Nat.le_refl _)
section
variable {P : Program} {w : World} {K : PySem.W.Frag} {mg : Str → Option Value} {base : Heap} {f : Addr} {fd : FuncData}
abbrev sMarked : Stmt := topS 25
abbrev nMarked : List Str := ["_law_lines", "_law_mark", "_law_row", "_law_i", "_law_places", "_law_k"]
theorem scMarked : FnScope nMarked ["_law_lines", "_law_mark"] (defScope sMarked) := ⟨rfl, rfl, rfl, by decide +kernel, rfl, by decide +kernel, by decide +kernel⟩
def spMarked : Sp := fun vs H Q _ => ∃ (l : Addr) (R : List (List Nat)) (m : Nat), vs = [.ref l, .str (S [m])] ∧ H l = some (.lst (sv R.reverse)) ∧ Sq R ∧ R.length ≤ 901 ∧
  (MarkOK R m → ∀ H' p, Same H H' → H' p = some (.tup (iv (mark R m))) → Q (.ref p) H') ∧ (¬ MarkOK R m → ∀ H', Same H H' → Q .non H')
abbrev rLenK (K : PySem.W.Frag) : List V → Hp → VK → Prop := fun xs H Q => ∃ x n, xs = [x] ∧ LenV K x H n ∧ Q (.int (n : Nat)) H
abbrev rMinus : R2 := rI0 fun i j => .int (i - j)
theorem sv_at {R : List (List Nat)} {i : Nat} {z : List Nat} (h : R[i]? = some z) : (sv R)[i]? = some (.str (S z)) := by
  rw [List.getElem?_map, List.getElem?_map, h]
  rfl
theorem ok_marked (F : L2.Fun K "_law_marked" "_law_marked" sMarked f fd) (B : Gb mg) : FnOk P w K mg base CX0 1 f fd ["_law_lines", "_law_mark"] spMarked := by
  refine F.ok scMarked (fun vs H Q E h => ?_) (fun cdv A outer s H vs Q E hr h => ?_)
  · obtain ⟨l, R, m, rfl, _⟩ := h
    rfl
  · obtain ⟨l, R, m, rfl, hl, hs, hn, hY, hN⟩ := h
    have nd := scMarked.nd
    refine ⟨_, pss_cons (ps_set (i := 2) nd rfl (.inl rfl) (pe_lst pa_nil))
      (pss_cons (ps_for PassesOwn.never rfl (pi_range1 (by rfl) B.range (pa_cons (pe_callB call_len (by rfl) B.len bLen (pa_cons (pv 0) pa_nil)) pa_nil)) (pg_name (i := 3) nd rfl (.inr rfl))
        (pss_cons (ps_setLc (i := 4) (own := [("_law_k", 5)]) (g := gName 5) (tt := tTest (tOp rEq (tOp rIxS (tOp (rIxL K) (tVar 0) (tVar 5)) (tVar 3)) (tVar 1))) (te := tOp rMinus (tOp rMinus (tCB (rLenK K) (tCons (tVar 0) tNil)) (tC (.int 1))) (tVar 5))
            rfl nd rfl rfl (sw_true rfl rfl rfl (by decide +kernel)) (pi_range1 (by rfl) B.range (pa_cons (pe_callB call_len (by rfl) B.len bLen (pa_cons (pv 0) pa_nil)) pa_nil)) (blkOk_by (N := nMarked) (sc := defScope sMarked) (by decide +kernel))
            (fun _ _ _ _ _ => pg_name (i := 5) nd rfl (Or.inl rfl))
            (fun _ _ _ _ _ => pts_one (pt_cmpR op_eq (pe_ix ix_str (pe_ix ix_list (pv 0) (pv 5) (fun _ _ => rfl)) (pv 3) (fun _ _ => rfl)) (pv 1) (nomark _)))
            (fun _ _ _ _ _ => pe_op op_sub (pe_op op_sub (pe_callB call_len (by rfl) B.len bLen (pa_cons (pv 0) pa_nil)) pe_int) (pv 5)))
        (pss_cons (ps_if (PW.pt (pw_or (pt_cmpR op_ne (pe_callB call_len (by rfl) B.len bLen (pa_cons (pv 4) pa_nil)) pe_int (nomark _))
            (pw_or1 (pt_cmpR op_in_seq (pe_ix ix_list (pv 4) pe_int (fun _ _ => rfl)) (pv 2) rfl)))) (pss_one (ps_ret pe_non)) pss_nil)
        (pss_one (ps_expr (pe_bm PySem.F.plainAttrs_list PySem.F.slot_list_append PySem.F.type_list_append mt_append (pv 2) (pa_cons (pe_ix ix_list (pv 4) pe_int (fun _ _ => rfl)) pa_nil)))))))
      (pss_one (ps_ret (pe_callTy call_tupA (by rfl) B.tuple bTuple (pa_cons (pv 2) pa_nil))))), ?_⟩
    have lenL : ∀ H', Same H H' → LenV K (.ref l) H' R.length := fun H' s => .inl ⟨_, SqL.of (s _ _ hl), by rw [sv_length, List.length_reverse]⟩
    refine ⟨Nat.zero_le _, fun o no => ?_⟩
    have s1 : Same H (upd H o (.lst [])) := same_new no
    refine ⟨_, rfl, .ref l, R.length, rfl, lenL _ s1, (R.length : Int), rfl, by omega, by omega, ?_⟩
    refine for_any (n := R.length) (fun i σ H' => ∃ y3 y4, σ = [some (.ref l), some (.str (S [m])), some (.ref o), y3, y4, none] ∧ Same H H' ∧ H' o = some (.lst (iv ((mark R m).take i))) ∧ (∀ j, j < i → (col R j).count m = 1) ∧ ((mark R m).take i).Nodup)
      ⟨none, none, rfl, s1, upd_same, fun j hj => absurd hj (Nat.not_lt_zero _), List.nodup_nil⟩
      (fun i σ H' hi hP => by
        show i < (R.length : Int).toNat
        omega) (fun σ H' hP => by
        show (R.length : Int).toNat ≤ R.length
        omega) (fun i σ H' x H'' hi hP hy => ?_) (fun σ H' hP => ?_)
    · obtain ⟨y3, y4, rfl, sm, eO, h1, hnd⟩ := hP
      obtain ⟨rfl, rfl⟩ := hy
      -- places = [..]
      refine ⟨_, rfl, .ref l, R.length, rfl, lenL _ sm, (R.length : Int), rfl, by omega, by omega, fun D hD => ?_⟩
      have oD : o ≠ D := ne_of_none eO hD
      refine lc_any (n := R.length) (fun k H2 => Same H'' H2 ∧ H2 D = some (.lst (iv (plT R i m k)))) ⟨same_new hD, upd_same⟩
        (fun k H2 hk hP => by
          show k < (R.length : Int).toNat
          omega) (fun H2 hP => by
          show (R.length : Int).toNat ≤ R.length
          omega) (fun k H2 x H3 hk hP hy => ?_) (fun H2 hP => ?_)
      · obtain ⟨sm2, eD⟩ := hP
        obtain ⟨rfl, rfl⟩ := hy
        obtain ⟨z, hz⟩ : ∃ z, R.reverse[k]? = some z := ⟨_, List.getElem?_eq_getElem (by rw [List.length_reverse]; exact hk)⟩
        have hzl := hs z (List.mem_reverse.mp (List.mem_of_getElem? hz))
        have ez : (R.reverse.getD k []).getD i 0 = z.getD i 0 := by
          rw [List.getD_eq_getElem?_getD (l := R.reverse), hz]
          rfl
        refine ⟨rfl, ?_⟩
        refine ⟨_, rfl, _, rfl, l, sv R.reverse, 0 + (k : Int), .str (S z), rfl, rfl, SqL.of (sm2 _ _ (sm _ _ hl)), by rw [Int.zero_add]; exact atI_nat (sv_at hz),
          _, rfl, S z, 0 + (i : Int), z.getD i 0, rfl, rfl, line_of (by rw [S_length]; omega), by rw [Int.zero_add]; exact atI_nat (at_getD (by rw [hzl]; exact hi)), _, rfl, rfl, _, rfl, ?_⟩
        rw [dec_sign]
        refine ite2 (fun e => ?_) (fun e => ?_)
        · have e1 : z.getD i 0 = m := of_decide_eq_true e
          refine ⟨_, rfl, .ref l, R.length, rfl, lenL _ (sm.trans sm2), (R.length : Int), 1, rfl, rfl, _, rfl, (R.length : Int) - 1, 0 + (k : Int), rfl, rfl, _, eD, ?_, swr sm2 hD, ?_⟩
          · rw [iv_length]
            have := plT_le R i m k
            exact line_lt (by omega)
          · have ev : (R.length : Int) - 1 - (0 + (k : Int)) = ((R.length - 1 - k : Nat) : Int) := by omega
            rw [upd_same, plT_yes (ez.trans e1)]
            show some (HO.lst (iv (plT R i m k) ++ [V.int ((R.length : Int) - 1 - (0 + (k : Int)))])) = some (HO.lst (List.map _ (plT R i m k ++ [R.length - 1 - k])))
            rw [List.map_append, ev]
            rfl
        · have e1 : ¬ z.getD i 0 = m := fun q => e (decide_eq_true q)
          refine ⟨sm2, ?_⟩
          rw [plT_no (by rw [ez]; exact e1)]
          exact eD
      · obtain ⟨sm2, eD⟩ := hP
        rw [plT_all] at eD
        have s2 := sm.trans sm2
        have hlen := places_length R i m
        refine ⟨_, rfl, .ref D, (places R.reverse i m).length, rfl, .inl ⟨_, SqL.of eD, (iv_length _).symm⟩, rfl, _, rfl, ?_⟩
        rw [hlen]
        by_cases hc : (col R i).count m = 1
        rotate_left
        · refine iteNF (fun e => hc (by have := V.int.inj e; omega)) ?_
          exact hN (fun h => hc (h.1 i hi)) _ s2
        refine iteNS (by rw [hc]; rfl) ?_
        rw [places_one hc] at eD
        have mi := mark_at (m := m) hi
        -- places[0] in row
        refine ⟨_, rfl, D, iv [(col R i).idxOf m], 0, .int ((col R i).idxOf m : Int), rfl, rfl, SqL.of eD, atI_nat (j := 0) rfl, _, rfl, o, _, rfl, .inl (SqL.of (sm2 _ _ eO)), rfl, flat_iv _, _, rfl, ?_⟩
        rw [if_neg (by decide), inV_iv]
        refine ite2 (fun e => ?_) (fun e => ?_)
        · have e1 : (col R i).idxOf m ∈ (mark R m).take i := of_decide_eq_true e
          exact hN (fun h => notin_take h.2 mi e1) _ s2
        · have e1 : ¬ (col R i).idxOf m ∈ (mark R m).take i := fun q => e (decide_eq_true q)
          refine ⟨_, rfl, .inl ⟨rfl, _, SqL.of (sm2 _ _ eO)⟩, _, rfl, D, iv [(col R i).idxOf m], 0, .int ((col R i).idxOf m : Int), rfl, rfl, SqL.of eD, atI_nat (j := 0) rfl, o, _, _, rfl, rfl, sm2 _ _ eO, ?_, ?_⟩
          · rw [iv_length, List.length_take]
            exact line_lt (by omega)
          · refine ⟨_, _, rfl, swr s2 no, ?_, fun j hj => ?_, ?_⟩
            · rw [upd_same, iv_snoc mi]
            · by_cases q : j = i
              · rw [q]
                exact hc
              · exact h1 j (by omega)
            · rw [List.take_add_one, mi]
              show ((mark R m).take i ++ [(col R i).idxOf m]).Nodup
              rw [List.nodup_append]
              refine ⟨hnd, List.pairwise_singleton _ _, fun a ha b hb => ?_⟩
              rw [List.mem_singleton.mp hb]
              exact fun z => e1 (z ▸ ha)
    · obtain ⟨y3, y4, rfl, sm, eO, h1, hnd⟩ := hP
      rw [List.take_of_length_le (by rw [mark_length]; exact Nat.le_refl _)] at eO hnd
      refine ⟨_, rfl, ?_⟩
      refine tup_of (.inl eO) fun H2 p s2 ep => ?_
      exact hY ⟨h1, hnd⟩ _ p (sm.trans s2) ep
end
end GK
/-! _law_read, _law_is_right -/
namespace GK
open PySem PySem.Spec PyProof.Rows L2
open SX (S)
theorem three_signs : (Str.ofString "XO.").cps.toList = [88, 79, 46] := by decide +kernel
def Sgn (c : Nat) : Prop := c = 88 ∨ c = 79 ∨ c = 46
theorem sgn_mem (c : Nat) : c ∈ (Str.ofString "XO.").cps.toList ↔ Sgn c := by
  rw [three_signs]
  unfold Sgn
  simp
theorem mem_take_succ {α : Type} {l : List α} {i : Nat} {z : α} (h : l[i]? = some z) {p : α → Prop} (h1 : ∀ y ∈ l.take i, p y) (h2 : p z) : ∀ y ∈ l.take (i + 1), p y := fun y hy => by
  rw [List.take_add_one, h] at hy
  rcases List.mem_append.mp hy with hy | hy
  · exact h1 y hy
  · rw [List.mem_singleton.mp hy]
    exact h2
section
variable {P : Program} {w : World} {K : PySem.W.Frag} {mg : Str → Option Value} {base : Heap} {f : Addr} {fd : FuncData}
abbrev sLRead : Stmt := topS 26
abbrev nLRead : List Str := ["_law_text_here", "_law_lines", "_law_line", "_law_sign", "_law_xs", "_law_ohs"]
theorem scLRead : FnScope nLRead ["_law_text_here"] (defScope sLRead) := ⟨rfl, rfl, rfl, by decide +kernel, rfl, by decide +kernel, by decide +kernel⟩
def spLRead : Sp := fun vs H Q _ => ∃ t : Str, vs = [.str t] ∧ t.length ≤ 900 ∧
  (LawOK (rowsOf t) → ∀ H' p, Same H H' → PairAt H' p (mark (rowsOf t) 88) (mark (rowsOf t) 79) → Q (.ref p) H') ∧ (¬ LawOK (rowsOf t) → ∀ H', Same H H' → Q .non H')
theorem ok_lread (F : L2.Fun K "_law_read" "_law_read" sLRead f fd) (B : Gb mg) (c : Cl P w K mg base CX0 1 "_law_marked" ["_law_lines", "_law_mark"] spMarked) : FnOk P w K mg base CX0 2 f fd ["_law_text_here"] spLRead := by
  refine F.ok scLRead (fun vs H Q E h => ?_) (fun cdv A outer s H vs Q E hr h => ?_)
  · obtain ⟨t, rfl, _⟩ := h
    rfl
  · obtain ⟨t, rfl, ht, hY, hN⟩ := h
    have nd := scLRead.nd
    refine ⟨_, pss_cons (ps_set (i := 1) nd rfl (.inl rfl) (pe_split (pv 0) pe_str))
      (pss_cons (ps_if (pt_cmpR op_lt (pe_callB call_len (by rfl) B.len bLen (pa_cons (pv 1) pa_nil)) pe_int (nomark _)) (pss_one (ps_ret pe_non)) pss_nil)
      (pss_cons (ps_for PassesOwn.never rfl (pi_list (pv 1)) (pg_name (i := 2) nd rfl (.inl rfl))
        (pss_cons (ps_if (pt_cmpR op_ne (pe_callB call_len_str (by rfl) B.len bLen (pa_cons (pv 2) pa_nil)) (pe_callB call_len (by rfl) B.len bLen (pa_cons (pv 1) pa_nil)) (nomark _)) (pss_one (ps_ret pe_non)) pss_nil)
        (pss_one (ps_for PassesOwn.never rfl (pi_str (pv 2)) (pg_name (i := 3) nd rfl (.inl rfl))
          (pss_one (ps_if (pt_cmpR op_notIn_sign (pv 3) pe_str rfl) (pss_one (ps_ret pe_non)) pss_nil))))))
      (pss_cons (ps_set (i := 4) nd rfl (.inl rfl) (pe_cl c hr (by decide) (by rfl) pass0 (pa_cons (pv 1) (pa_cons pe_str pa_nil))))
      (pss_cons (ps_set (i := 5) nd rfl (.inl rfl) (pe_cl c hr (by decide) (by rfl) pass0 (pa_cons (pv 1) (pa_cons pe_str pa_nil))))
      (pss_cons (ps_if (PW.pt (pw_or (pt_cmpR op_isN (pv 4) pe_non (nomark _)) (pw_or1 (pt_cmpR op_isN (pv 5) pe_non (nomark _))))) (pss_one (ps_ret pe_non)) pss_nil)
      (pss_one (ps_ret (pe_tup (pa_cons (pv 4) (pa_cons (pv 5) pa_nil)))))))))), ?_⟩
    generalize hRd : rowsOf t = R at hY hN
    have hLd : linesOf t = R.reverse := by
      rw [← hRd]
      unfold rowsOf
      rw [List.reverse_reverse]
    have hRl : R.length ≤ 901 := by
      have := rowsOf_length t
      rw [hRd] at this
      omega
    have hRz : ∀ z ∈ R, z.length ≤ 900 := fun z hz => by
      have := rowOf_length (t := t) (z := z) (by rw [hRd]; exact hz)
      omega
    refine ⟨_, rfl, ⟨t, rfl⟩, t, Str.ofString "\n", rfl, rfl, by decide +kernel, line_of (by omega), fun l nl => ?_⟩
    rw [lines_split, hLd]
    have s1 : Same H (upd H l (.lst (sv R.reverse))) := same_new nl
    have e1 : (upd H l (.lst (sv R.reverse))) l = some (.lst (sv R.reverse)) := upd_same
    generalize (upd H l (.lst (sv R.reverse))) = H1 at s1 e1
    have lenL : LenV K (.ref l) H1 R.length := .inl ⟨_, SqL.of e1, by rw [sv_length, List.length_reverse]⟩
    refine ⟨_, rfl, .ref l, R.length, rfl, lenL, (R.length : Int), 2, rfl, rfl, _, rfl, ?_⟩
    refine ite2 (fun e => ?_) (fun e => ?_)
    · have e2 : (R.length : Int) < 2 := of_decide_eq_true e
      exact hN (fun h => by have := h.1; omega) _ s1
    have n2 : 2 ≤ R.length := by
      have e2 : ¬ (R.length : Int) < 2 := fun q => e (decide_eq_true q)
      omega
    have wk := wk_list (K := K) (a := l) (xs := sv R.reverse)
    refine ⟨_, rfl, l, rfl, ⟨_, SqL.of e1⟩, ?_⟩
    refine for_any (n := R.length) (fun i σ H' => ∃ y2 y3, σ = [some (.str t), some (.ref l), y2, y3, none, none] ∧ H' = H1 ∧ ∀ z ∈ R.reverse.take i, z.length = R.length ∧ ∀ c ∈ z, Sgn c) ⟨none, none, rfl, rfl, fun z hz => by simp at hz⟩
      (fun i σ H' hi hP => by
        obtain ⟨_, _, _, rfl, _⟩ := hP
        exact wk.go i _ (by rw [sv_length, List.length_reverse]; exact hi) (SqL.of e1)) (fun σ H' hP => by
        obtain ⟨_, _, _, rfl, _⟩ := hP
        have q := wk.st _ (SqL.of e1)
        rw [sv_length, List.length_reverse] at q
        exact q) (fun i σ H' x H'' hi hP hy => ?_) (fun σ H' hP => ?_)
    · obtain ⟨y2, y3, rfl, rfl, hz⟩ := hP
      obtain ⟨rfl, ex⟩ := wk.yd i _ x H'' (SqL.of e1) hy
      obtain ⟨z, hzi, rfl⟩ := sv_inv ex
      have hzm : z ∈ R := List.mem_reverse.mp (List.mem_of_getElem? hzi)
      have hzl := hRz z hzm
      refine ⟨_, rfl, S z, rfl, line_of (by rw [S_length]; omega), _, rfl, .ref l, R.length, rfl, lenL, rfl, _, rfl, ?_⟩
      rw [dec_nat, S_length]
      by_cases hl : z.length = R.length
      rotate_left
      · refine iteNF hl ?_
        exact hN (fun h => hl (h.2.1 z hzm).1) _ s1
      refine iteNS hl ?_
      refine ⟨_, rfl, S z, rfl, ?_⟩
      have zsz : (S z).cps.size = z.length := by
        show (z.toArray).size = _
        rw [List.size_toArray]
      refine for_any (n := z.length) (fun j σ H' => ∃ y3, σ = [some (.str t), some (.ref l), some (.str (S z)), y3, none, none] ∧ H' = H'' ∧ ∀ c ∈ z.take j, Sgn c) ⟨y3, rfl, rfl, fun c hc => by simp at hc⟩
        (fun j σ H' hj hP => by
          show j < (S z).cps.size
          rw [zsz]
          exact hj) (fun σ H' hP => by
          show (S z).cps.size ≤ z.length
          rw [zsz]
          exact Nat.le_refl _) (fun j σ H' x H3 hj hP hy => ?_) (fun σ H' hP => ?_)
      · obtain ⟨y4, rfl, e5, hc⟩ := hP
        obtain ⟨e6, c1, hc1, rfl⟩ := hy
        subst e6
        subst e5
        have hc2 : z[j]? = some c1 := by
          have : (z.toArray)[j]? = some c1 := hc1
          simpa using this
        refine ⟨_, rfl, c1, Str.ofString "XO.", rfl, rfl, _, rfl, ?_⟩
        by_cases hm : c1 ∈ (Str.ofString "XO.").cps.toList
        · refine iteNS hm ?_
          exact ⟨_, rfl, rfl, mem_take_succ hc2 hc ((sgn_mem c1).mp hm)⟩
        · refine iteNF hm ?_
          exact hN (fun h => hm ((sgn_mem c1).mpr ((h.2.1 z hzm).2 c1 (List.mem_of_getElem? hc2)))) _ s1
      · obtain ⟨y4, rfl, rfl, hc⟩ := hP
        rw [List.take_length] at hc
        exact ⟨_, _, rfl, rfl, mem_take_succ hzi hz ⟨hl, hc⟩⟩
    · obtain ⟨y2, y3, rfl, rfl, hz⟩ := hP
      rw [List.take_of_length_le (by rw [List.length_reverse]; exact Nat.le_refl _)] at hz
      have sg : Signs R := fun z hzm => hz z (List.mem_reverse.mpr hzm)
      have hs : Sq R := fun z hzm => (sg z hzm).1
      refine ⟨_, rfl, l, R, 88, by show [V.ref l, V.str sX] = _; rw [sX_eq], e1, hs, hRl, fun okX H2 p s2 ep => ?_, fun nokX H2 s2 => ?_⟩
      · refine ⟨_, rfl, l, R, 79, by show [V.ref l, V.str sO] = _; rw [sO_eq], s2 _ _ e1, hs, hRl, fun okO H3 p3 s3 ep3 => ?_, fun nokO H3 s3 => ?_⟩
        · refine ⟨_, rfl, rfl, _, rfl, ?_⟩
          rw [decide_eq_false (show ¬ (V.ref p = V.non) by intro e; cases e)]
          refine iteF ?_
          refine ⟨_, rfl, rfl, _, rfl, ?_⟩
          rw [decide_eq_false (show ¬ (V.ref p3 = V.non) by intro e; cases e)]
          refine iteF ?_
          refine ⟨_, rfl, _, rfl, (show 2 ≤ sizeLine from line_of (by decide)), fun q nq => ?_⟩
          exact hY ⟨n2, sg, okX, okO⟩ _ q (snew ((s1.trans s2).trans s3) nq) ⟨p, p3, upd_same, at_new (s3 _ _ ep) nq, at_new ep3 nq⟩
        · refine ⟨_, rfl, rfl, _, rfl, ?_⟩
          rw [decide_eq_false (show ¬ (V.ref p = V.non) by intro e; cases e)]
          refine iteF ?_
          refine ⟨_, rfl, rfl, _, rfl, ?_⟩
          refine iteT ?_
          exact hN (fun h => nokO h.2.2.2) _ ((s1.trans s2).trans s3)
      · have fin : ∀ (v : V) (H3 : Hp), Same H2 H3 → ∀ Q2 : VK, (∀ H4, Same H H4 → Q2 .non H4) → Q2 .non H3 := fun v H3 s3 Q2 q => q _ ((s1.trans s2).trans s3)
        refine ⟨_, rfl, l, R, 79, by show [V.ref l, V.str sO] = _; rw [sO_eq], s2 _ _ e1, hs, hRl, fun okO H3 p3 s3 ep3 => ?_, fun nokO H3 s3 => ?_⟩
        · refine ⟨_, rfl, rfl, _, rfl, ?_⟩
          refine iteT ?_
          exact hN (fun h => nokX h.2.2.1) _ ((s1.trans s2).trans s3)
        · refine ⟨_, rfl, rfl, _, rfl, ?_⟩
          refine iteT ?_
          exact hN (fun h => nokX h.2.2.1) _ ((s1.trans s2).trans s3)
end
end GK
/-! _law_is_right -/
namespace GK
open PySem PySem.Spec PyProof.Rows L2
open SX (S)
theorem EqD.scal {H : Hp} {d : Nat} {x : V} (h : sc x = true) : EqD H (d + 1) x x := .inl ⟨rfl, h⟩
theorem EqD.ints {H : Hp} {d : Nat} {a b : Addr} {xs : List Nat} (ha : H a = some (.tup (iv xs))) (hb : H b = some (.tup (iv xs))) (hl : xs.length ≤ 1000) : EqD H (d + 2) (.ref a) (.ref b) :=
  .inr ⟨a, b, _, _, rfl, rfl, ha, hb, rfl, by rw [iv_length]; exact hl, fun i u v hu hv => by
    have e : u = v := Option.some.inj (hu.symm.trans hv)
    subst e
    obtain ⟨x, _, rfl⟩ := iv_inv hu
    exact EqD.scal rfl⟩
theorem EqD.pair {H : Hp} {d : Nat} {p q : Addr} {xs ohs : List Nat} (hp : PairAt H p xs ohs) (hq : PairAt H q xs ohs) (hx : xs.length ≤ 1000) (ho : ohs.length ≤ 1000) : EqD H (d + 3) (.ref p) (.ref q) := by
  obtain ⟨a, b, h1, h2, h3⟩ := hp
  obtain ⟨a', b', h1', h2', h3'⟩ := hq
  refine .inr ⟨p, q, _, _, rfl, rfl, h1, h1', rfl, by show 2 ≤ 1000; decide, fun i u v hu hv => ?_⟩
  match i, hu, hv with
  | 0, hu, hv =>
    cases hu
    cases hv
    exact EqD.ints h2 h2' hx
  | 1, hu, hv =>
    cases hu
    cases hv
    exact EqD.ints h3 h3' ho
theorem EqD.value {H : Hp} {d : Nat} {p q p1 q1 : Addr} {z : Str} {xs ohs : List Nat} (hp : H p = some (.tup [.str z, .ref p1])) (hq : H q = some (.tup [.str z, .ref q1])) (h1 : PairAt H p1 xs ohs) (h2 : PairAt H q1 xs ohs) (hx : xs.length ≤ 1000) (ho : ohs.length ≤ 1000) : EqD H (d + 4) (.ref p) (.ref q) := by
  refine .inr ⟨p, q, _, _, rfl, rfl, hp, hq, rfl, by show 2 ≤ 1000; decide, fun i u v hu hv => ?_⟩
  match i, hu, hv with
  | 0, hu, hv =>
    cases hu
    cases hv
    exact EqD.scal rfl
  | 1, hu, hv =>
    cases hu
    cases hv
    exact EqD.pair h1 h2 hx ho
theorem EqD.three {H : Hp} {d : Nat} {p q : Addr} {z t : Str} {b : Bool} (hp : H p = some (.tup [.str z, .str t, .bl b])) (hq : H q = some (.tup [.str z, .str t, .bl b])) : EqD H (d + 2) (.ref p) (.ref q) := by
  refine .inr ⟨p, q, _, _, rfl, rfl, hp, hq, rfl, by show 3 ≤ 1000; decide, fun i u v hu hv => ?_⟩
  match i, hu, hv with
  | 0, hu, hv =>
    cases hu
    cases hv
    exact EqD.scal rfl
  | 1, hu, hv =>
    cases hu
    cases hv
    exact EqD.scal rfl
  | 2, hu, hv =>
    cases hu
    cases hv
    exact EqD.scal rfl
section
variable {P : Program} {w : World} {K : PySem.W.Frag} {mg : Str → Option Value} {base : Heap} {f : Addr} {fd : FuncData}
abbrev sRight : Stmt := topS 28
abbrev nRight : List Str := ["_law_text_here", "_law_read_here", "_law_due"]
theorem scRight : FnScope nRight ["_law_text_here"] (defScope sRight) := ⟨rfl, rfl, rfl, by decide +kernel, rfl, by decide +kernel, by decide +kernel⟩
def spRight : Sp := fun vs H Q _ => ∃ t : Str, vs = [.str t] ∧ t.length ≤ 900 ∧ ∀ H', Same H H' → Q (.bl true) H'
theorem ok_right (F : L2.Fun K "_law_is_right" "_law_is_right" sRight f fd) (B : Gb mg) (c1 : Cl P w K mg base CX0 2 "_law_read" ["_law_text_here"] spLRead) (c2 : Cl P w K mg base CX0 8 "_law_told" ["_law_text_here"] spTold)
    (c3 : Cl P w K mg base CX0 4 "_law_equal" ["_law_actual", "_law_expected"] (spEqual 4)) : FnOk P w K mg base CX0 9 f fd ["_law_text_here"] spRight := by
  refine F.ok scRight (fun vs H Q E h => ?_) (fun cdv A outer s H vs Q E hr h => ?_)
  · obtain ⟨t, rfl, _⟩ := h
    rfl
  · obtain ⟨t, rfl, ht, q⟩ := h
    have nd := scRight.nd
    refine ⟨_, pss_cons (ps_set (i := 1) nd rfl (.inl rfl) (pe_cl c1 hr (by decide) (by rfl) pass0 (pa_cons (pv 0) pa_nil)))
      (pss_cons (ps_if (PW.pt (pw_and (pt_cmpR op_notN (pv 1) pe_non (nomark _)) (pw_and1 (pt_cmpR op_gt (pe_callB call_len (by rfl) B.len bLen (pa_cons (pe_ix ix_tup (pv 1) pe_int (fun _ _ => rfl)) pa_nil)) pe_int (nomark _)))))
        (pss_one (ps_ret pe_bl)) pss_nil)
      (pss_cons (ps_set (i := 2) nd rfl (.inl rfl) (pe_tup (pa_cons pe_str (pa_cons (pv 0) (pa_cons pe_bl pa_nil)))))
      (pss_cons (ps_if (pt_cmpR op_notN (pv 1) pe_non (nomark _)) (pss_one (ps_set (i := 2) nd rfl (.inl rfl) (pe_tup (pa_cons pe_str (pa_cons (pv 1) pa_nil))))) pss_nil)
      (pss_one (ps_ret (pe_cl c3 hr (by decide) (by rfl) pass0 (pa_cons (pe_cl c2 hr (by decide) (by rfl) pass0 (pa_cons (pv 0) pa_nil)) (pa_cons (pv 2) pa_nil)))))))), ?_⟩
    have hRl : (rowsOf t).length ≤ 901 := by
      have := rowsOf_length t
      omega
    refine ⟨_, rfl, t, rfl, ht, fun law H1 p s1 hp => ?_, fun nlaw H1 s1 => ?_⟩
    · have hp0 := hp
      obtain ⟨a, b, h1, h2, h3⟩ := hp0
      refine ⟨_, rfl, rfl, _, rfl, ?_⟩
      rw [decide_eq_false (show ¬ (V.ref p = V.non) by intro e; cases e)]
      refine iteT ?_
      refine ⟨_, rfl, p, _, 0, .ref a, rfl, rfl, SqT.of h1, atI_nat (j := 0) rfl, .ref a, _, rfl, .inr ⟨_, SqT.of h2, rfl⟩, _, _, rfl, rfl, _, rfl, ?_⟩
      refine ite2 (fun _ => q _ s1) (fun _ => ?_)
      refine ⟨_, rfl, (show 3 ≤ sizeLine from line_of (by decide)), fun d0 nd0 => ?_⟩
      refine ⟨_, rfl, rfl, _, rfl, ?_⟩
      rw [decide_eq_false (show ¬ (V.ref p = V.non) by intro e; cases e)]
      refine iteT ?_
      have s2 := snew s1 nd0 (o := .tup [V.str (Str.ofString "text"), V.str t, V.bl true])
      have hp2 := hp.same (same_new nd0 (o := .tup [V.str (Str.ofString "text"), V.str t, V.bl true]))
      revert s2 hp2
      generalize (upd H1 d0 (.tup [V.str (Str.ofString "text"), V.str t, V.bl true])) = H2
      intro s2 hp2
      refine ⟨_, rfl, (show 2 ≤ sizeLine from line_of (by decide)), fun d1 nd1 => ?_⟩
      refine ⟨_, rfl, t, rfl, ht, fun _ H3 p3 q3 s3 e3 hq3 => ?_, fun n => (n law).elim⟩
      refine ⟨_, rfl, _, _, rfl, EqD.value (z := Str.ofString "value") e3 (s3 _ _ upd_same) hq3 ((hp2.same (same_new nd1)).same s3) ?_ ?_, q _ ((snew s2 nd1).trans s3)⟩
      · rw [mark_length]
        omega
      · rw [mark_length]
        omega
    · refine ⟨_, rfl, rfl, _, rfl, ?_⟩
      refine iteF ?_
      refine ⟨_, rfl, (show 3 ≤ sizeLine from line_of (by decide)), fun d0 nd0 => ?_⟩
      refine ⟨_, rfl, rfl, _, rfl, ?_⟩
      refine iteF ?_
      refine ⟨_, rfl, t, rfl, ht, fun law => (nlaw law).elim, fun _ H3 p3 s3 e3 => ?_⟩
      exact ⟨_, rfl, _, _, rfl, EqD.three (z := Str.ofString "text") e3 (s3 _ _ upd_same), q _ ((snew s1 nd0).trans s3)⟩
end
end GK
/-! _law_draws -/
namespace GK
open PySem PySem.Spec PyProof.Rows L2
open SX (S)
/-- each draw below its bound -/
def Below (ds bs : List Nat) : Prop := ∀ (j d b : Nat), ds[j]? = some d → bs[j]? = some b → d < b
theorem Below.snoc {ds bs : List Nat} {x b : Nat} (h : Below ds bs) (hb : bs[ds.length]? = some b) (hx : x < b) : Below (ds ++ [x]) bs := fun j d c hd hc => by
  by_cases hj : j < ds.length
  · rw [List.getElem?_append_left hj] at hd
    exact h j d c hd hc
  · rw [List.getElem?_append_right (by omega)] at hd
    have e0 : j - ds.length = 0 := by
      by_cases q : j - ds.length = 0
      · exact q
      · rw [List.getElem?_eq_none (by simp; omega)] at hd
        cases hd
    have ej : j = ds.length := by omega
    subst ej
    rw [e0] at hd
    have ed : x = d := Option.some.inj hd
    have ec : b = c := Option.some.inj (hb.symm.trans hc)
    omega
theorem iv_app (ds : List Nat) (m : Nat) : iv ds ++ [V.int (m : Int)] = iv (ds ++ [m]) := by
  show _ = (ds ++ [m]).map _
  rw [List.map_append]
  rfl
section
variable {P : Program} {w : World} {K : PySem.W.Frag} {mg : Str → Option Value} {base : Heap} {f : Addr} {fd : FuncData}
abbrev sDraws : Stmt := topS 19
abbrev nDraws : List Str := ["_law_script", "_law_k", "_law_bounds", "_law_cell", "_law_rest", "_law_drawn", "_law_j", "_law_mixed"]
theorem scDraws : FnScope nDraws ["_law_script", "_law_k", "_law_bounds"] (defScope sDraws) := ⟨rfl, rfl, rfl, by decide +kernel, rfl, by decide +kernel, by decide +kernel⟩
def spDraws (K : PySem.W.Frag) : Sp := fun vs H Q _ => ∃ (a : Addr) (ns : List Int) (k : Nat) (b : Addr) (bs : List Nat), vs = [.ref a, .int (k : Int), .ref b] ∧ SqL K H a (ns.map V.int) ∧ ns.length ≤ 63 ∧ k ≤ 1000 ∧ H b = some (.lst (iv bs)) ∧ bs.length ≤ 1000 ∧
  (∀ c ∈ bs, 0 < c ∧ c < 1073741824) ∧ ∀ H' p ds, Same H H' → H' p = some (.lst (iv ds)) → ds.length = bs.length → Below ds bs → Q (.ref p) H'
theorem ok_draws (F : L2.Fun K "_law_draws" "_law_draws" sDraws f fd) (B : Gb mg) : FnOk P w K mg base CX0 1 f fd ["_law_script", "_law_k", "_law_bounds"] (spDraws K) := by
  refine F.ok scDraws (fun vs H Q E h => ?_) (fun cdv A outer s H vs Q E hr h => ?_)
  · obtain ⟨a, ns, k, b, bs, rfl, _⟩ := h
    rfl
  · obtain ⟨a, ns, k, b, bs, rfl, hS, hn, hk, hb, hbl, hbs, q⟩ := h
    have nd := scDraws.nd
    refine ⟨_, pss_cons (ps_set (i := 3) nd rfl (.inl rfl) pe_int)
      (pss_cons (ps_set (i := 4) nd rfl (.inl rfl) pe_int)
      (pss_cons (ps_if (pt_cmpR op_lt (pv 1) (pe_callB call_len (by rfl) B.len bLen (pa_cons (pv 0) pa_nil)) (nomark _))
        (pss_cons (ps_set (i := 3) nd rfl (.inl rfl) (pe_callTy call_int1 (by rfl) B.int bInt (pa_cons (pe_ix ix_list (pv 0) (pv 1) (fun _ _ => rfl)) pa_nil)))
          (pss_one (ps_set (i := 4) nd rfl (.inl rfl) (pe_callB (call_max2 rfl) (by rfl) B.max bMax (pa_cons pe_int (pa_cons (pe_op op_sub (pv 3) (pe_op op_pow pe_int pe_int)) pa_nil))))))
        (pss_one (ps_if (pt_cmpR op_gt (pe_callB call_len (by rfl) B.len bLen (pa_cons (pv 0) pa_nil)) pe_int (nomark _))
          (pss_one (ps_set (i := 3) nd rfl (.inl rfl) (pe_callTy call_int1 (by rfl) B.int bInt (pa_cons (pe_ix ix_list (pv 0)
            (pe_op op_mod (pe_callTy call_int1 (by rfl) B.int bInt (pa_cons (pv 1) pa_nil)) (pe_callB call_len (by rfl) B.len bLen (pa_cons (pv 0) pa_nil))) (fun _ _ => rfl)) pa_nil)))) pss_nil)))
      (pss_cons (ps_set (i := 5) nd rfl (.inl rfl) (pe_lst pa_nil))
      (pss_cons (ps_for PassesOwn.never rfl (pi_range1 (by rfl) B.range (pa_cons (pe_callB call_len (by rfl) B.len bLen (pa_cons (pv 2) pa_nil)) pa_nil)) (pg_name (i := 6) nd rfl (.inl rfl))
        (pss_one (ps_if (pt_cmpR op_gt (pv 4) pe_int (nomark _))
          (pss_cons (ps_expr (pe_bm PySem.F.plainAttrs_list PySem.F.slot_list_append PySem.F.type_list_append mt_append (pv 5)
              (pa_cons (pe_op op_mod (pe_callTy call_int1 (by rfl) B.int bInt (pa_cons (pv 4) pa_nil)) (pe_ix ix_list (pv 2) (pv 6) (fun _ _ => rfl))) pa_nil)))
            (pss_one (ps_set (i := 4) nd rfl (.inl rfl) (pe_op op_fdiv (pv 4) (pe_ix ix_list (pv 2) (pv 6) (fun _ _ => rfl))))))
          (pss_cons (ps_set (i := 7) nd rfl (.inl rfl) (pe_op op_mod (pe_callTy call_int1 (by rfl) B.int bInt (pa_cons (pe_op op_add (pe_op op_add (pe_op op_add (pe_op op_mul (pv 3) pe_int) (pe_op op_mul (pv 1) pe_int)) (pe_op op_mul (pv 6) pe_int)) pe_int) pa_nil)) pe_int))
          (pss_cons (ps_set (i := 7) nd rfl (.inl rfl) (pe_op op_mod (pe_callTy call_int1 (by rfl) B.int bInt (pa_cons (pe_op op_add (pe_op op_add (pe_op op_mul (pv 7) (pv 7)) (pe_op op_mul (pv 6) pe_int)) pe_int) pa_nil)) pe_int))
          (pss_cons (ps_set (i := 7) nd rfl (.inl rfl) (pe_op op_mod (pe_callTy call_int1 (by rfl) B.int bInt (pa_cons (pe_op op_add (pe_op op_add (pe_op op_mul (pv 7) (pv 7)) (pe_op op_mul (pv 7) pe_int)) pe_int) pa_nil)) pe_int))
          (pss_one (ps_expr (pe_bm PySem.F.plainAttrs_list PySem.F.slot_list_append PySem.F.type_list_append mt_append (pv 5)
              (pa_cons (pe_op op_mod (pe_op op_fdiv (pv 7) pe_int) (pe_ix ix_list (pv 2) (pv 6) (fun _ _ => rfl))) pa_nil)))))))))) 
      (pss_one (ps_ret (pv 5))))))), ?_⟩
    have lenS : LenV K (.ref a) H ns.length := .inl ⟨_, hS, (List.length_map _).symm⟩
    have lenB : ∀ H', Same H H' → LenV K (.ref b) H' bs.length := fun H' s => .inl ⟨_, SqL.of (s _ _ hb), (iv_length bs).symm⟩
    have atS : ∀ j, j < ns.length → ∃ x, (ns.map V.int)[j]? = some (.int x) := fun j hj => ⟨ns[j], by rw [List.getElem?_map, List.getElem?_eq_getElem hj]; rfl⟩
    refine ⟨_, rfl, _, rfl, .ref a, ns.length, rfl, lenS, (k : Int), (ns.length : Int), rfl, rfl, _, rfl, ?_⟩
    refine ite2 (fun e => ?_) (fun e => ?_)
    -- a cell of its own
    have hk2 : k < ns.length := by
      have := of_decide_eq_true e
      omega
    obtain ⟨x, hx⟩ := atS k hk2
    refine ⟨.ref a, rfl, .int (k : Int), rfl, a, _, _, _, rfl, rfl, hS, atI_nat hx, .inl ⟨_, rfl, ?_⟩⟩
    refine ⟨.int x, rfl, 10, 18, rfl, rfl, ⟨by decide, by decide, by decide⟩, _, _, rfl, rfl, _, _, rfl, ?_⟩
    have h0 : 0 ≤ (if x - 10 ^ (18 : Int).toNat > 0 then x - 10 ^ (18 : Int).toNat else 0) := by
      split <;> omega
    revert h0
    generalize (if x - 10 ^ (18 : Int).toNat > 0 then x - 10 ^ (18 : Int).toNat else 0) = rest
    intro h0
    rotate_left
    -- none of its own
    refine ⟨_, rfl, .ref a, ns.length, rfl, lenS, (ns.length : Int), 0, rfl, rfl, _, rfl, ?_⟩
    refine ite2 (fun e2 => ?_) (fun e2 => ?_)
    have hp : 0 < ns.length := by
      have := of_decide_eq_true e2
      omega
    obtain ⟨x, hx⟩ := atS (k % ns.length) (Nat.mod_lt _ hp)
    refine ⟨.ref a, rfl, .int (k : Int), rfl, .inl ⟨_, rfl, .ref a, rfl, .ref a, ns.length, rfl, lenS, _, _, rfl, rfl, by omega, a, _, _, _, rfl, rfl, hS, atI_nat hx, .inl ⟨_, rfl, ?_⟩⟩⟩
    have h0 : (0 : Int) ≤ 0 := by decide
    rotate_left
    have h0 : (0 : Int) ≤ 0 := by decide
    rotate_left
    all_goals
      refine ⟨Nat.zero_le _, fun o no => ?_⟩
      have s1 : Same H (upd H o (.lst [])) := same_new no
      have bo : b ≠ o := ne_of_none hb no
      refine ⟨_, rfl, .ref b, bs.length, rfl, lenB _ s1, (bs.length : Int), rfl, by omega, by omega, ?_⟩
      refine for_any (n := bs.length) (fun j σ H' => ∃ (cell rest : Int) (y6 y7 : Option V) (ds : List Nat), 0 ≤ rest ∧ σ = [some (.ref a), some (.int (k : Int)), some (.ref b), some (.int cell), some (.int rest), some (.ref o), y6, y7] ∧ Same H H' ∧ H' o = some (.lst (iv ds)) ∧ ds.length = j ∧ Below ds bs)
        ⟨_, _, none, none, [], h0, rfl, s1, upd_same, rfl, fun j d c hd => by simp at hd⟩
        (fun i σ H' hi hP => by
          show i < (bs.length : Int).toNat
          omega) (fun σ H' hP => by
          show (bs.length : Int).toNat ≤ bs.length
          omega) (fun j σ H' x H'' hj hP hy => ?_) (fun σ H' hP => ?_)
      · obtain ⟨cell, rest, y6, y7, ds, hr0, rfl, sm, eO, hd, hB⟩ := hP
        obtain ⟨e6, rfl⟩ := hy
        subst e6
        obtain ⟨c, hc⟩ : ∃ c, bs[j]? = some c := ⟨_, List.getElem?_eq_getElem hj⟩
        obtain ⟨c0, c1⟩ := hbs c (List.mem_of_getElem? hc)
        have hSj : SqL K H'' b (iv bs) := SqL.of (sm _ _ hb)
        have hat : atI (iv bs) (0 + (j : Int)) = some (.int (c : Int)) := by
          rw [Int.zero_add]
          exact atI_nat (iv_at hc)
        have big : (iv ds).length < sizeLine := by
          rw [iv_length]
          exact line_lt (by omega)
        have step : ∀ z : Int, (∃ m : Nat, z = (m : Int) ∧ m < c) → ∃ ds', (iv ds ++ [V.int z]) = iv ds' ∧ ds'.length = j + 1 ∧ Below ds' bs := fun z hz => by
          obtain ⟨m, rfl, hm⟩ := hz
          refine ⟨ds ++ [m], ?_, ?_, hB.snoc (by rw [hd]; exact hc) hm⟩
          · exact iv_app ds m
          · rw [List.length_append, hd]
            rfl
        have modc : ∀ z : Int, ∃ m : Nat, z % (c : Int) = (m : Int) ∧ m < c := fun z => by
          have h1 := Int.emod_nonneg z (show (c : Int) ≠ 0 by omega)
          have h2 := Int.emod_lt_of_pos z (show (0 : Int) < c by omega)
          exact ⟨(z % (c : Int)).toNat, by omega, by omega⟩
        refine ⟨_, rfl, rest, 0, rfl, rfl, _, rfl, ?_⟩
        refine ite2 (fun e => ?_) (fun e => ?_)
        · obtain ⟨ds', e1, e2, e3⟩ := step _ (modc rest)
          refine ⟨.ref o, rfl, .inl ⟨rfl, _, .inl (.inl eO)⟩, .int rest, rfl, .inl ⟨_, rfl, ?_⟩⟩
          refine ⟨.ref b, rfl, _, rfl, b, _, _, _, rfl, rfl, hSj, hat, rest, (c : Int), rfl, rfl, by omega, o, _, _, rfl, rfl, eO, big, ?_⟩
          refine ⟨_, rfl, .ref b, rfl, _, rfl, b, _, _, _, rfl, rfl, SqL.of ((swr sm no) _ _ hb), hat, rest, (c : Int), rfl, rfl, ⟨by omega, by omega⟩, ?_⟩
          exact ⟨cell, _, _, _, ds', Int.ediv_nonneg hr0 (by omega), rfl, swr sm no, by rw [upd_same, e1], e2, e3⟩
        · have mod31 : ∀ (z M : Int), 0 < M → M ≤ 2147483647 → 0 ≤ z % M ∧ z % M < 2147483647 := fun z M h1 h2 => by
            have h3 := Int.emod_nonneg z (show M ≠ 0 by omega)
            have h4 := Int.emod_lt_of_pos z h1
            exact ⟨h3, by omega⟩
          refine ⟨.int cell, rfl, cell, 48271, rfl, rfl, .inr (by decide), .int (k : Int), rfl, (k : Int), 69621, rfl, rfl, .inr (by decide), _, _, rfl, rfl, _, rfl, _, 40692, rfl, rfl, .inr (by decide), _, _, rfl, rfl, _, _, rfl, rfl, .inl ⟨_, rfl, _, _, rfl, rfl, (show (0 : Int) < _ by decide), ?_⟩⟩
          have b1 := mod31 (cell * 48271 + (k : Int) * 69621 + (0 + (j : Int)) * 40692 + 12345) 2147483647 (by decide) (by decide)
          revert b1
          dsimp only
          generalize (cell * 48271 + (k : Int) * 69621 + (0 + (j : Int)) * 40692 + 12345) % 2147483647 = m1
          intro b1
          refine ⟨.int m1, rfl, .int m1, rfl, m1, m1, rfl, rfl, .inl ⟨by omega, by omega⟩, _, rfl, _, 16807, rfl, rfl, .inr (by decide), _, _, rfl, rfl, _, _, rfl, rfl, .inl ⟨_, rfl, _, _, rfl, rfl, (show (0 : Int) < _ by decide), ?_⟩⟩
          have b2 := mod31 (m1 * m1 + (0 + (j : Int)) * 16807 + 271) 2147483563 (by decide) (by decide)
          revert b2
          dsimp only
          generalize (m1 * m1 + (0 + (j : Int)) * 16807 + 271) % 2147483563 = m2
          intro b2
          refine ⟨.int m2, rfl, .int m2, rfl, m2, m2, rfl, rfl, .inl ⟨by omega, by omega⟩, .int m2, rfl, _, 39373, rfl, rfl, .inr (by decide), _, _, rfl, rfl, _, _, rfl, rfl, .inl ⟨_, rfl, _, _, rfl, rfl, (show (0 : Int) < _ by decide), ?_⟩⟩
          dsimp only
          generalize (m2 * m2 + m2 * 39373 + 7) % 2147483399 = m3
          obtain ⟨ds', e1, e2, e3⟩ := step _ (modc (m3 / 16))
          refine ⟨.ref o, rfl, .inl ⟨rfl, _, .inl (.inl eO)⟩, .int m3, rfl, m3, 16, rfl, rfl, ⟨by decide, by decide⟩, .ref b, rfl, _, rfl, b, _, _, _, rfl, rfl, hSj, hat, m3 / 16, (c : Int), rfl, rfl, by omega, o, _, _, rfl, rfl, eO, big, ?_⟩
          exact ⟨cell, _, _, _, ds', hr0, rfl, swr sm no, by rw [upd_same, e1], e2, e3⟩
      · obtain ⟨cell, rest, y6, y7, ds, hr0, rfl, sm, eO, hd, hB⟩ := hP
        exact ⟨_, rfl, q _ o ds sm eO hd hB⟩
end
end GK
/-! _law_order -/
namespace GK
open PySem PySem.Spec PyProof.Rows L2
open SX (S)
section
variable {P : Program} {w : World} {K : PySem.W.Frag} {mg : Str → Option Value} {base : Heap} {f : Addr} {fd : FuncData}
abbrev sOrder : Stmt := topS 21
abbrev nOrder : List Str := ["_law_number", "_law_size_here", "_law_left", "_law_row", "_law_k"]
theorem scOrder : FnScope nOrder ["_law_number", "_law_size_here"] (defScope sOrder) := ⟨rfl, rfl, rfl, by decide +kernel, rfl, by decide +kernel, by decide +kernel⟩
def spOrder : Sp := fun vs H Q _ => ∃ (m n : Nat), vs = [.int (m : Int), .int (n : Int)] ∧ n ≤ 1000 ∧ ∀ H' p R, Same H H' → H p = none → H' p = some (.lst (iv R)) → Perm R n → Q (.ref p) H'
theorem seq_nat {j n : Nat} (h : j < n) : seqIndex? (j : Int) n = some j := by
  have := ixN_seq (n := n) (i := (j : Int)) (j := j) (by unfold ixN; rw [if_pos (by omega), if_pos (by omega)]; rfl)
  exact this.1
theorem erase_iv : ∀ (L : List Nat) (k : Nat), (iv L).eraseIdx k = iv (L.eraseIdx k)
  | [], _ => rfl
  | x :: r, 0 => rfl
  | x :: r, k + 1 => by
    show V.int (x : Int) :: (iv r).eraseIdx k = V.int (x : Int) :: iv (r.eraseIdx k)
    rw [erase_iv r k]
theorem pop_perm : ∀ (L : List Nat) (k : Nat) (h : k < L.length), (L[k] :: L.eraseIdx k).Perm L
  | [], _, h => absurd h (Nat.not_lt_zero _)
  | x :: r, 0, _ => List.Perm.refl _
  | x :: r, k + 1, h => by
    have ih := pop_perm r k (Nat.lt_of_succ_lt_succ h)
    show (r[k]'(Nat.lt_of_succ_lt_succ h) :: x :: r.eraseIdx k).Perm (x :: r)
    exact (List.Perm.swap _ _ _).trans (List.Perm.cons x ih)
theorem ok_order (F : L2.Fun K "_law_order" "_law_order" sOrder f fd) (B : Gb mg) : FnOk P w K mg base CX0 1 f fd ["_law_number", "_law_size_here"] spOrder := by
  refine F.ok scOrder (fun vs H Q E h => ?_) (fun cdv A outer s H vs Q E hr h => ?_)
  · obtain ⟨m, n, rfl, _⟩ := h
    rfl
  · obtain ⟨m, n, rfl, hn, q⟩ := h
    have nd := scOrder.nd
    refine ⟨_, pss_cons (ps_setLc (i := 2) (own := [("_law_k", 4)]) (g := gName 4) (tt := tYes) (te := tVar 4)
            rfl nd rfl rfl (sw_true rfl rfl rfl (by decide +kernel)) (pi_range1 (by rfl) B.range (pa_cons (pv 1) pa_nil)) (blkOk_by (N := nOrder) (sc := defScope sOrder) (by decide +kernel))
            (fun _ _ _ _ _ => pg_name (i := 4) nd rfl (Or.inl rfl)) (fun _ _ _ _ _ => pts_nil) (fun _ _ _ _ _ => pv 4))
      (pss_cons (ps_set (i := 3) nd rfl (.inl rfl) (pe_lst pa_nil))
      (pss_cons (ps_for PassesOwn.never rfl (pi_range1 (by rfl) B.range (pa_cons (pv 1) pa_nil)) (pg_name (i := 4) nd rfl (.inl rfl))
        (pss_cons (ps_expr (pe_bm PySem.F.plainAttrs_list PySem.F.slot_list_append PySem.F.type_list_append mt_append (pv 3)
            (pa_cons (pe_bm PySem.F.plainAttrs_list PySem.F.slot_list_pop PySem.F.type_list_pop mt_popAt (pv 2) (pa_cons (pe_op op_mod (pe_callTy call_int1 (by rfl) B.int bInt (pa_cons (pv 0) pa_nil)) (pe_callB call_len (by rfl) B.len bLen (pa_cons (pv 2) pa_nil))) pa_nil)) pa_nil)))
          (pss_one (ps_set (i := 0) nd rfl (.inl rfl) (pe_op op_fdiv (pv 0) (pe_op op_sub (pv 1) (pv 4)))))))
      (pss_one (ps_ret (pv 3))))), ?_⟩
    refine ⟨_, rfl, n, rfl, by omega, by omega, fun D hD => ?_⟩
    refine lc_any (n := n) (fun k H2 => Same H H2 ∧ H2 D = some (.lst (iv (List.range k)))) ⟨same_new hD, upd_same⟩
      (fun k H2 hk hP => by
        show k < (n : Int).toNat
        omega) (fun H2 hP => by
        show (n : Int).toNat ≤ n
        omega) (fun k H2 x H3 hk hP hy => ?_) (fun H2 hP => ?_)
    · obtain ⟨sm, eD⟩ := hP
      obtain ⟨rfl, rfl⟩ := hy
      refine ⟨rfl, yesI ?_⟩
      refine ⟨_, rfl, _, eD, ?_, swr sm hD, ?_⟩
      · rw [iv_length, List.length_range]
        exact line_lt (by omega)
      · rw [upd_same, Int.zero_add, iv_app, List.range_succ]
    obtain ⟨s1, e1⟩ := hP
    refine ⟨Nat.zero_le _, fun o no => ?_⟩
    have noH : H o = none := by
      cases h : H o with
      | none => rfl
      | some u =>
        rw [s1 _ _ h] at no
        cases no
    have Do : D ≠ o := ne_of_none e1 no
    refine ⟨_, rfl, n, rfl, by omega, by omega, ?_⟩
    refine for_any (n := n) (fun i σ H' => ∃ (m : Nat) (y4 : Option V) (L R : List Nat), σ = [some (.int (m : Int)), some (.int (n : Int)), some (.ref D), some (.ref o), y4] ∧ Same H H' ∧ H' D = some (.lst (iv L)) ∧ H' o = some (.lst (iv R)) ∧ R.length = i ∧ (L ++ R).Perm (List.range n))
      ⟨m, none, List.range n, [], rfl, snew s1 no, at_new e1 no, upd_same, rfl, by rw [List.append_nil]⟩
      (fun i σ H' hi hP => by
        show i < (n : Int).toNat
        omega) (fun σ H' hP => by
        show (n : Int).toNat ≤ n
        omega) (fun i σ H' x H'' hi hP hy => ?_) (fun σ H' hP => ?_)
    · obtain ⟨m, y4, L, R, rfl, sm, eD, eO, hR, hp⟩ := hP
      obtain ⟨e6, rfl⟩ := hy
      subst e6
      have hl : L.length + R.length = n := by
        have := hp.length_eq
        rw [List.length_append, List.length_range] at this
        exact this
      have hk : m % L.length < L.length := Nat.mod_lt _ (by omega)
      have hkz : ((m : Int) % (L.length : Int)) = ((m % L.length : Nat) : Int) := (Int.natCast_emod m L.length).symm
      refine ⟨.ref o, rfl, .inl ⟨rfl, _, .inl (.inl eO)⟩, .ref D, rfl, .inl ⟨rfl, _, .inl (.inl eD)⟩, .int (m : Int), rfl, .inl ⟨_, rfl, .ref D, rfl, .ref D, L.length, rfl, .inl ⟨_, SqL.of eD, (iv_length L).symm⟩, (m : Int), (L.length : Int), rfl, rfl, (show (0 : Int) < (L.length : Int) by omega), ?_⟩⟩
      refine ⟨D, iv L, ((m % L.length : Nat) : Int), m % L.length, .int ((L[m % L.length] : Nat) : Int), rfl, by dsimp only; rw [hkz], eD, by omega, by omega, by rw [iv_length]; exact seq_nat hk, iv_at (List.getElem?_eq_getElem hk), ?_⟩
      refine ⟨o, iv R, _, rfl, rfl, by rw [upd_ne Do.symm]; exact eO, by rw [iv_length]; exact line_lt (by omega), ?_⟩
      refine ⟨_, rfl, .int (n : Int), rfl, _, rfl, (n : Int), 0 + (i : Int), rfl, rfl, (m : Int), _, rfl, rfl, ⟨by omega, by omega⟩, ?_⟩
      refine ⟨m / (n - i), some (.int (0 + (i : Int))), L.eraseIdx (m % L.length), R ++ [L[m % L.length]], ?_, swr (swr sm hD) noH, ?_, ?_, ?_, ?_⟩
      · have ez : ((m : Int) / ((n : Int) - (0 + (i : Int)))) = ((m / (n - i) : Nat) : Int) := by
          rw [Int.zero_add, Int.natCast_ediv, Int.ofNat_sub (Nat.le_of_lt hi)]
        show (List.set _ 0 (some (V.int ((m : Int) / ((n : Int) - (0 + (i : Int))))))) = _
        rw [ez]
        rfl
      · rw [upd_ne Do, upd_same, erase_iv]
      · rw [upd_same, iv_app]
      · rw [List.length_append, hR]
        rfl
      · refine List.Perm.trans ?_ hp
        have q1 := pop_perm L _ hk
        refine List.Perm.trans ?_ (q1.append_right R)
        rw [← List.append_assoc]
        exact List.perm_append_comm.trans (List.Perm.refl _)
    · obtain ⟨m, y4, L, R, rfl, sm, eD, eO, hR, hp⟩ := hP
      have hl : L.length + R.length = n := by
        have := hp.length_eq
        rw [List.length_append, List.length_range] at this
        exact this
      have eL : L = [] := List.length_eq_zero_iff.mp (by omega)
      subst eL
      rw [List.nil_append] at hp
      exact ⟨_, rfl, q _ o R sm noH eO ⟨hR, fun x hx => List.mem_range.mp (hp.mem_iff.mp hx), hp.nodup_iff.mpr List.nodup_range⟩⟩
end
end GK
/-! _law_grid, _law_size -/
namespace GK
open PySem PySem.Spec PyProof.Rows L2
open SX (S)
theorem cut_from (xs : List V) (k : Nat) : cutV xs (some (k : Int)) none = xs.drop k := by
  unfold cutV
  rw [HT.sIx_nat, HT.sIx_none]
  by_cases h : k ≤ xs.length
  · rw [Nat.min_eq_left h, List.take_of_length_le (by rw [List.length_drop]; exact Nat.le_refl _)]
  · rw [Nat.min_eq_right (by omega), List.drop_of_length_le (Nat.le_refl _), List.drop_of_length_le (by omega), List.take_nil]
theorem cut_to (xs : List V) (k : Nat) : cutV xs none (some (k : Int)) = xs.take k := by
  unfold cutV
  rw [HT.sIx_nat, HT.sIx_none]
  show (xs.drop 0).take (min k xs.length - 0) = _
  rw [List.drop_zero, Nat.sub_zero]
  by_cases h : k ≤ xs.length
  · rw [Nat.min_eq_left h]
  · rw [Nat.min_eq_right (by omega), List.take_of_length_le (Nat.le_refl _), List.take_of_length_le (by omega)]
theorem Perm.of {xs ys : List Nat} {n : Nat} (p : Perm xs n) (h : ys.Perm xs) : Perm ys n :=
  ⟨by rw [h.length_eq]; exact p.l, fun x hx => p.b x (h.mem_iff.mp hx), h.nodup_iff.mpr p.d⟩
theorem Perm.inj {xs : List Nat} {n a b x : Nat} (p : Perm xs n) (ha : xs[a]? = some x) (hb : xs[b]? = some x) : a = b := by
  obtain ⟨la, ea⟩ := List.getElem?_eq_some_iff.mp ha
  obtain ⟨lb, eb⟩ := List.getElem?_eq_some_iff.mp hb
  have q := List.pairwise_iff_getElem.mp p.d
  rcases Nat.lt_trichotomy a b with h | h | h
  · exact absurd (ea.trans eb.symm) (q a b la lb h)
  · exact h
  · exact absurd (eb.trans ea.symm) (q b a lb la h)
section
variable {P : Program} {w : World} {K : PySem.W.Frag} {mg : Str → Option Value} {base : Heap} {f : Addr} {fd : FuncData}
abbrev sLGrid : Stmt := topS 22
abbrev nLGrid : List Str := ["_law_script", "_law_k", "_law_size_here", "_law_drawn", "_law_xs", "_law_ohs", "_law_i", "_law_j"]
theorem scLGrid : FnScope nLGrid ["_law_script", "_law_k", "_law_size_here"] (defScope sLGrid) := ⟨rfl, rfl, rfl, by decide +kernel, rfl, by decide +kernel, by decide +kernel⟩
def spLGrid (K : PySem.W.Frag) : Sp := fun vs H Q _ => ∃ (a : Addr) (ns : List Int) (k n : Nat), vs = [.ref a, .int (k : Int), .int (n : Int)] ∧ SqL K H a (ns.map V.int) ∧ ns.length ≤ 63 ∧ k ≤ 1000 ∧ 2 ≤ n ∧ n ≤ 1000 ∧
  ∀ H' p xs ohs, Same H H' → PairAt H' p xs ohs → Pair xs ohs n → Q (.ref p) H'
theorem ok_lgrid (F : L2.Fun K "_law_grid" "_law_grid" sLGrid f fd) (B : Gb mg) (c1 : Cl P w K mg base CX0 1 "_law_draws" ["_law_script", "_law_k", "_law_bounds"] (spDraws K)) (c2 : Cl P w K mg base CX0 1 "_law_order" ["_law_number", "_law_size_here"] spOrder) :
    FnOk P w K mg base CX0 2 f fd ["_law_script", "_law_k", "_law_size_here"] (spLGrid K) := by
  refine F.ok scLGrid (fun vs H Q E h => ?_) (fun cdv A outer s H vs Q E hr h => ?_)
  · obtain ⟨a, ns, k, n, rfl, _⟩ := h
    rfl
  · obtain ⟨a, ns, k, n, rfl, hS, hl, hk, hn2, hn, q⟩ := h
    have nd := scLGrid.nd
    refine ⟨_, pss_cons (ps_set (i := 3) nd rfl (.inl rfl) (pe_cl c1 hr (by decide) (by rfl) pass0 (pa_cons (pv 0) (pa_cons (pv 1) (pa_cons (pe_lst (pa_cons pe_int (pa_cons pe_int (pa_cons pe_int pa_nil)))) pa_nil)))))
      (pss_cons (ps_set (i := 4) nd rfl (.inl rfl) (pe_cl c2 hr (by decide) (by rfl) pass0 (pa_cons (pe_ix ix_list (pv 3) pe_int (fun _ _ => rfl)) (pa_cons (pv 2) pa_nil))))
      (pss_cons (ps_set (i := 5) nd rfl (.inl rfl) (pe_cl c2 hr (by decide) (by rfl) pass0 (pa_cons (pe_ix ix_list (pv 3) pe_int (fun _ _ => rfl)) (pa_cons (pv 2) pa_nil))))
      (pss_cons (ps_if (pt_cmpR op_eq (pe_ix ix_list (pv 3) pe_int (fun _ _ => rfl)) pe_int (nomark _))
        (pss_one (ps_set (i := 5) nd rfl (.inl rfl) (pe_op op_cat (pe_slice sl_list (pv 4) (po_some pe_int) po_none) (pe_slice sl_list (pv 4) po_none (po_some pe_int))))) pss_nil)
      (pss_cons (ps_for PassesOwn.never rfl (pi_range1 (by rfl) B.range (pa_cons (pv 2) pa_nil)) (pg_name (i := 6) nd rfl (.inl rfl))
        (pss_one (ps_if (pt_cmpR op_eq (pe_ix ix_list (pv 5) (pv 6) (fun _ _ => rfl)) (pe_ix ix_list (pv 4) (pv 6) (fun _ _ => rfl)) (nomark _))
          (pss_cons (ps_set (i := 7) nd rfl (.inl rfl) (pe_op op_mod (pe_callTy call_int1 (by rfl) B.int bInt (pa_cons (pe_op op_add (pv 6) pe_int) pa_nil)) (pv 2)))
          (pss_cons (ps_asg (pe_ix ix_list (pv 5) (pv 7) (fun _ _ => rfl)) (pg_sub (pv 5) (pv 6) set_list))
          (pss_one (ps_asg (pe_ix ix_list (pv 4) (pv 6) (fun _ _ => rfl)) (pg_sub (pv 5) (pv 7) set_list))))) pss_nil)))
      (pss_one (ps_ret (pe_tup (pa_cons (pe_callTy call_tupA (by rfl) B.tuple bTuple (pa_cons (pv 4) pa_nil)) (pa_cons (pe_callTy call_tupA (by rfl) B.tuple bTuple (pa_cons (pv 5) pa_nil)) pa_nil))))))))), ?_⟩
    refine ⟨.ref a, rfl, .int (k : Int), rfl, (show 3 ≤ sizeLine from line_of (by decide)), fun l0 nl0 => ?_⟩
    refine ⟨a, ns, k, l0, [40320, 40320, 6], rfl, (same_new nl0).seq hS, hl, hk, upd_same, by show 3 ≤ 1000; decide, by decide, fun H1 p0 ds s1 e1 hd hb => ?_⟩
    replace s1 := (same_new nl0).trans s1
    obtain ⟨d0, d1, d2, rfl⟩ : ∃ x y z, ds = [x, y, z] := by
      match ds, hd with
      | [x, y, z], _ => exact ⟨x, y, z, rfl⟩
    refine ⟨.ref p0, rfl, p0, _, 0, .int (d0 : Int), rfl, rfl, SqL.of e1, atI_nat (j := 0) rfl, .int (n : Int), rfl, d0, n, rfl, hn, fun H2 p1 X s2 n1 e2 hX => ?_⟩
    refine ⟨.ref p0, rfl, p0, _, 1, .int (d1 : Int), rfl, rfl, SqL.of (s2 _ _ e1), atI_nat (j := 1) rfl, .int (n : Int), rfl, d1, n, rfl, hn, fun H3 p2 Y s3 n2 e3 hY => ?_⟩
    have n2H : H p2 = none := by
      cases h : H p2 with
      | none => rfl
      | some u =>
        rw [s2 _ _ (s1 _ _ h)] at n2
        cases n2
    have n1H : H p1 = none := by
      cases h : H p1 with
      | none => rfl
      | some u =>
        rw [s1 _ _ h] at n1
        cases n1
    have s3H := (s1.trans s2).trans s3
    have ne12 : p1 ≠ p2 := ne_of_none e2 n2
    refine ⟨.ref p0, rfl, p0, _, 2, .int (d2 : Int), rfl, rfl, SqL.of (s3 _ _ (s2 _ _ e1)), atI_nat (j := 2) rfl, rfl, _, rfl, ?_⟩
    refine ite2 (fun e => ?_) (fun e => ?_)
    -- the ring shifted by one
    refine ⟨.ref p1, rfl, 1, rfl, p1, _, rfl, SqL.of (s3 _ _ e2), fun c1 nc1 => ⟨.ref p1, rfl, 1, rfl, p1, _, rfl, SqL.of (at_new (s3 _ _ e2) nc1), fun c2 nc2 => ⟨c1, c2, _, _, rfl, rfl, at_new upd_same nc2, upd_same, ?_, fun o no2 => ?_⟩⟩⟩
    · refine line_of ?_
      have q1 := cutV_length (iv X) (some 1) none
      have q2 := cutV_length (iv X) none (some 1)
      rw [iv_length, hX.l] at q1 q2
      omega
    have hZ : Perm (X.drop 1 ++ X.take 1) n := hX.of (by
      have q1 := List.perm_append_comm (l₁ := X.drop 1) (l₂ := X.take 1)
      rw [List.take_append_drop] at q1
      exact q1)
    have eZ : cutV (iv X) (some 1) none ++ cutV (iv X) none (some 1) = iv (X.drop 1 ++ X.take 1) := by
      have q1 : cutV (iv X) (some 1) none = (iv X).drop 1 := cut_from (iv X) 1
      have q2 : cutV (iv X) none (some 1) = (iv X).take 1 := cut_to (iv X) 1
      rw [q1, q2, ← List.map_drop, ← List.map_take, ← List.map_append]
    rw [eZ]
    have eX := at_new (at_new (at_new (s3 _ _ e2) nc1 (o := .lst (cutV (iv X) (some 1) none))) nc2 (o := .lst (cutV (iv X) none (some 1)))) no2 (o := .lst (iv (X.drop 1 ++ X.take 1)))
    have nXo : p1 ≠ o := ne_of_none (at_new (at_new (s3 _ _ e2) nc1 (o := .lst (cutV (iv X) (some 1) none))) nc2 (o := .lst (cutV (iv X) none (some 1)))) no2
    have sc := snew (snew (snew s3H nc1 (o := .lst (cutV (iv X) (some 1) none))) nc2 (o := .lst (cutV (iv X) none (some 1)))) no2 (o := .lst (iv (X.drop 1 ++ X.take 1)))
    have nH : H o = none := by
      cases h : H o with
      | none => rfl
      | some u =>
        rw [snew (snew s3H nc1) nc2 _ _ h] at no2
        cases no2
    have eO := upd_same (H := (upd (upd H3 c1 (.lst (cutV (iv X) (some 1) none))) c2 (.lst (cutV (iv X) none (some 1))))) (a := o) (o := .lst (iv (X.drop 1 ++ X.take 1)))
    revert eX sc eO
    generalize (upd (upd (upd H3 c1 (.lst (cutV (iv X) (some 1) none))) c2 (.lst (cutV (iv X) none (some 1)))) o (.lst (iv (X.drop 1 ++ X.take 1)))) = Hc
    intro eX sc eO
    revert hZ eO
    generalize X.drop 1 ++ X.take 1 = Z
    intro hZ eO
    rotate_left
    -- as drawn
    have eX := s3 _ _ e2
    have sc := s3H
    have eO := e3
    have nH := n2H
    have hZ := hY
    have nXo := ne12
    rotate_left
    all_goals
      refine ⟨.int (n : Int), rfl, (n : Int), rfl, by omega, by omega, ?_⟩
      refine for_any (n := n) (fun i σ H' => ∃ (o : Addr) (Z : List Nat) (y6 y7 : Option V), H o = none ∧ p1 ≠ o ∧ σ = [some (.ref a), some (.int (k : Int)), some (.int (n : Int)), some (.ref p0), some (.ref p1), some (.ref o), y6, y7] ∧
          Same H H' ∧ H' p1 = some (.lst (iv X)) ∧ H' o = some (.lst (iv Z)) ∧ Perm Z n ∧ ∀ (j x z : Nat), j < i → X[j]? = some x → Z[j]? = some z → x ≠ z)
        ⟨_, _, none, none, nH, nXo, rfl, sc, eX, eO, hZ, fun j _ _ hj => absurd hj (Nat.not_lt_zero _)⟩
        (fun i σ H' hi hP => by
          show i < (n : Int).toNat
          omega) (fun σ H' hP => by
          show (n : Int).toNat ≤ n
          omega) (fun i σ H' x H'' hi hP hy => ?_) (fun σ H' hP => ?_)
      · obtain ⟨o, Z, y6, y7, nH, nXo, rfl, sc, eX, eO, hZ, hD⟩ := hP
        obtain ⟨e6, rfl⟩ := hy
        subst e6
        obtain ⟨xi, hxi⟩ : ∃ x, X[i]? = some x := ⟨_, List.getElem?_eq_getElem (by rw [hX.l]; exact hi)⟩
        obtain ⟨zi, hzi⟩ : ∃ x, Z[i]? = some x := ⟨_, List.getElem?_eq_getElem (by rw [hZ.l]; exact hi)⟩
        have aX : atI (iv X) (0 + (i : Int)) = some (.int (xi : Int)) := by
          rw [Int.zero_add]
          exact atI_nat (iv_at hxi)
        have aZ : atI (iv Z) (0 + (i : Int)) = some (.int (zi : Int)) := by
          rw [Int.zero_add]
          exact atI_nat (iv_at hzi)
        refine ⟨.ref o, rfl, .int (0 + (i : Int)), rfl, o, _, _, .int (zi : Int), rfl, rfl, SqL.of eO, aZ, .ref p1, rfl, .int (0 + (i : Int)), rfl, p1, _, _, .int (xi : Int), rfl, rfl, SqL.of eX, aX, rfl, _, rfl, ?_⟩
        refine ite2 (fun e => ?_) (fun e => ?_)
        · have ez : zi = xi := by
            have := V.int.inj (of_decide_eq_true e)
            omega
          subst ez
          have ej : ((0 + (i : Int) + 1) % (n : Int)) = (((i + 1) % n : Nat) : Int) := by
            rw [Int.zero_add, Int.natCast_emod]
            rfl
          have hjn : (i + 1) % n < n := Nat.mod_lt _ (by omega)
          have hji : (i + 1) % n ≠ i ∧ ((i + 1) % n < i → (i + 1) % n = 0) := by
            by_cases h : i + 1 < n
            · rw [Nat.mod_eq_of_lt h]
              omega
            · have : i + 1 = n := by omega
              rw [this, Nat.mod_self]
              omega
          refine ⟨.int (0 + (i : Int)), rfl, _, 1, rfl, rfl, .inl ⟨_, rfl, .int (n : Int), rfl, _, _, rfl, rfl, (show (0 : Int) < (n : Int) by omega), ?_⟩⟩
          dsimp only
          rw [ej]
          revert hjn hji
          generalize (i + 1) % n = j
          intro hjn hji
          obtain ⟨xj, hxj⟩ : ∃ x, X[j]? = some x := ⟨_, List.getElem?_eq_getElem (by rw [hX.l]; exact hjn)⟩
          obtain ⟨zj, hzj⟩ : ∃ x, Z[j]? = some x := ⟨_, List.getElem?_eq_getElem (by rw [hZ.l]; exact hjn)⟩
          have iz : ∀ m : Nat, m < n → ixN (iv Z).length (m : Int) = some m := fun m hm => by
            unfold ixN
            rw [iv_length, hZ.l, if_pos (by omega), if_pos (by omega)]
            rfl
          refine ⟨.ref o, rfl, .int (j : Int), rfl, o, _, _, .int (zj : Int), rfl, rfl, SqL.of eO, atI_nat (iv_at hzj), .ref o, rfl, .int (0 + (i : Int)), rfl, o, iv Z, _, i, rfl, rfl, eO, by rw [Int.zero_add]; exact iz i hi, ?_⟩
          refine ⟨.ref p1, rfl, .int (0 + (i : Int)), rfl, p1, _, _, .int (zi : Int), rfl, rfl, SqL.of (by rw [upd_ne nXo]; exact eX), aX, .ref o, rfl, .int (j : Int), rfl, o, _, _, j, rfl, rfl, upd_same, by rw [List.length_set]; exact iz j hjn, ?_⟩
          have es : ((iv Z).set i (.int (zj : Int))).set j (.int (zi : Int)) = iv ((Z.set i zj).set j zi) := by
            show _ = ((Z.set i zj).set j zi).map _
            rw [List.map_set, List.map_set]
          rw [es]
          have hil : i < Z.length := by rw [hZ.l]; exact hi
          have hjl : j < Z.length := by rw [hZ.l]; exact hjn
          have gi : Z[i] = zi := Option.some.inj ((List.getElem?_eq_getElem hil).symm.trans hzi)
          have gj : Z[j] = zj := Option.some.inj ((List.getElem?_eq_getElem hjl).symm.trans hzj)
          refine ⟨o, (Z.set i zj).set j zi, _, _, nH, nXo, rfl, swr (swr sc nH) nH, ?_, upd_same, ?_, fun m x z hm hx hz => ?_⟩
          · rw [upd_ne nXo, upd_ne nXo]
            exact eX
          · have q1 := List.set_set_perm (as := Z) hil hjl
            rw [gi, gj] at q1
            exact hZ.of q1
          · rw [List.getElem?_set, List.length_set] at hz
            by_cases h1 : j = m
            · subst h1
              rw [if_pos rfl, if_pos hjl] at hz
              have e1 : zi = z := Option.some.inj hz
              subst e1
              intro e2
              subst e2
              exact hji.1 (hX.inj hx hxi)
            · rw [if_neg h1, List.getElem?_set] at hz
              by_cases h2 : i = m
              · subst h2
                rw [if_pos rfl, if_pos hil] at hz
                have e1 : zj = z := Option.some.inj hz
                subst e1
                have e2 : x = zi := Option.some.inj (hx.symm.trans hxi)
                subst e2
                intro e3
                subst e3
                exact hji.1 (hZ.inj hzj hzi)
              · rw [if_neg h2] at hz
                exact hD m x z (by omega) hx hz
        · refine ⟨o, Z, _, _, nH, nXo, rfl, sc, eX, eO, hZ, fun m x z hm hx hz => ?_⟩
          by_cases h2 : m = i
          · subst h2
            have e1 : x = xi := Option.some.inj (hx.symm.trans hxi)
            have e2 : z = zi := Option.some.inj (hz.symm.trans hzi)
            subst e1
            subst e2
            intro e3
            subst e3
            exact e (decide_eq_true rfl)
          · exact hD m x z (by omega) hx hz
      · obtain ⟨o, Z, y6, y7, nH, nXo, rfl, sc, eX, eO, hZ, hD⟩ := hP
        refine ⟨.ref p1, rfl, tup_of (.inl eX) fun H4 a4 s4 e4 => ?_⟩
        refine ⟨.ref o, rfl, tup_of (.inl (s4 _ _ eO)) fun H5 a5 s5 e5 => ?_⟩
        refine ⟨(show 2 ≤ sizeLine from line_of (by decide)), fun a6 n6 => ?_⟩
        exact q _ a6 X Z (snew ((sc.trans s4).trans s5) n6) ⟨a4, a5, upd_same, at_new (s5 _ _ e4) n6, at_new e5 n6⟩
          ⟨hn2, hX.l, hZ.l, hX.b, hZ.b, hX.d, hZ.d, fun i x z hx hz => hD i x z (by have := (List.getElem?_eq_some_iff.mp hx).1; rw [hX.l] at this; exact this) hx hz⟩
end
end GK
/-! _law_size, _law_text -/
namespace GK
open PySem PySem.Spec PyProof.Rows L2
open SX (S)
section
variable {P : Program} {w : World} {K : PySem.W.Frag} {mg : Str → Option Value} {base : Heap} {f : Addr} {fd : FuncData}
abbrev sSize : Stmt := topS 23
abbrev nSize : List Str := ["_law_script", "_law_k"]
theorem scSize : FnScope nSize ["_law_script", "_law_k"] (defScope sSize) := ⟨rfl, rfl, rfl, by decide +kernel, rfl, by decide +kernel, by decide +kernel⟩
def spSize (K : PySem.W.Frag) : Sp := fun vs H Q _ => ∃ (a : Addr) (ns : List Int) (k : Nat), vs = [.ref a, .int (k : Int)] ∧ SqL K H a (ns.map V.int) ∧ ns.length ≤ 63 ∧ k ≤ 1000 ∧
  ∀ H' (n : Nat), Same H H' → 2 ≤ n → n ≤ 8 → Q (.int (n : Int)) H'
theorem sizes_ok : ∀ d : Nat, d < 12 → ∃ n : Nat, (iv [2, 3, 3, 4, 4, 5, 5, 6, 6, 7, 8, 5])[d]? = some (.int (n : Int)) ∧ 2 ≤ n ∧ n ≤ 8
  | 0, _ => ⟨2, rfl, by decide⟩
  | 1, _ => ⟨3, rfl, by decide⟩
  | 2, _ => ⟨3, rfl, by decide⟩
  | 3, _ => ⟨4, rfl, by decide⟩
  | 4, _ => ⟨4, rfl, by decide⟩
  | 5, _ => ⟨5, rfl, by decide⟩
  | 6, _ => ⟨5, rfl, by decide⟩
  | 7, _ => ⟨6, rfl, by decide⟩
  | 8, _ => ⟨6, rfl, by decide⟩
  | 9, _ => ⟨7, rfl, by decide⟩
  | 10, _ => ⟨8, rfl, by decide⟩
  | 11, _ => ⟨5, rfl, by decide⟩
  | n + 12, h => absurd h (by omega)
theorem ok_size (F : L2.Fun K "_law_size" "_law_size" sSize f fd) (c1 : Cl P w K mg base CX0 1 "_law_draws" ["_law_script", "_law_k", "_law_bounds"] (spDraws K)) :
    FnOk P w K mg base CX0 2 f fd ["_law_script", "_law_k"] (spSize K) := by
  refine F.ok scSize (fun vs H Q E h => ?_) (fun cdv A outer s H vs Q E hr h => ?_)
  · obtain ⟨a, ns, k, rfl, _⟩ := h
    rfl
  · obtain ⟨a, ns, k, rfl, hS, hl, hk, q⟩ := h
    have nd := scSize.nd
    refine ⟨_, pss_one (ps_ret (pe_ix ix_list (pe_lst (pa_cons pe_int (pa_cons pe_int (pa_cons pe_int (pa_cons pe_int (pa_cons pe_int (pa_cons pe_int (pa_cons pe_int (pa_cons pe_int (pa_cons pe_int (pa_cons pe_int (pa_cons pe_int (pa_cons pe_int pa_nil)))))))))))))
      (pe_ix ix_list (pe_cl c1 hr (by decide) (by rfl) pass0 (pa_cons (pv 0) (pa_cons (pv 1) (pa_cons (pe_lst (pa_cons pe_int pa_nil)) pa_nil)))) pe_int (fun _ _ => rfl)) (fun _ _ => rfl))), ?_⟩
    refine ⟨(show 12 ≤ sizeLine from line_of (by decide)), fun l nl => ?_⟩
    refine ⟨.ref a, rfl, .int (k : Int), rfl, (show 1 ≤ sizeLine from line_of (by decide)), fun l0 nl0 => ?_⟩
    refine ⟨a, ns, k, l0, [12], rfl, (snew (same_new nl) nl0).seq hS, hl, hk, upd_same, by show 1 ≤ 1000; decide, by decide, fun H1 p0 ds s1 e1 hd hb => ?_⟩
    obtain ⟨d0, rfl⟩ : ∃ x, ds = [x] := by
      match ds, hd with
      | [x], _ => exact ⟨x, rfl⟩
    obtain ⟨n, hn, n2, n8⟩ := sizes_ok d0 (hb 0 d0 12 rfl rfl)
    refine ⟨p0, _, 0, .int (d0 : Int), rfl, rfl, SqL.of e1, atI_nat (j := 0) rfl, ?_⟩
    exact ⟨l, iv [2, 3, 3, 4, 4, 5, 5, 6, 6, 7, 8, 5], _, _, rfl, rfl, SqL.of (s1 _ _ (at_new upd_same nl0)), atI_nat hn, q _ n ((snew (same_new nl) nl0).trans s1) n2 n8⟩
abbrev sText : Stmt := topS 24
abbrev nText : List Str := ["_law_pair", "_law_size_here", "_law_lines", "_law_turn", "_law_r", "_law_line", "_law_i", "_law_sign"]
theorem scText : FnScope nText ["_law_pair"] (defScope sText) := ⟨rfl, rfl, rfl, by decide +kernel, rfl, by decide +kernel, by decide +kernel⟩
def spText : Sp := fun vs H Q _ => ∃ (p : Addr) (xs ohs : List Nat) (n : Nat), vs = [.ref p] ∧ PairAt H p xs ohs ∧ Pair xs ohs n ∧ n ≤ 1000 ∧ ∀ H', Same H H' → Q (.str (gtext xs ohs)) H'
theorem S_snoc {l : List Nat} {i c : Nat} (h : l[i]? = some c) : S (l.take i) ++ S [c] = S (l.take (i + 1)) := by
  rw [SX.S_cat, List.take_add_one, h]
  rfl
theorem ok_ltext (F : L2.Fun K "_law_text" "_law_text" sText f fd) (B : Gb mg) : FnOk P w K mg base CX0 1 f fd ["_law_pair"] spText := by
  refine F.ok scText (fun vs H Q E h => ?_) (fun cdv A outer s H vs Q E hr h => ?_)
  · obtain ⟨p, xs, ohs, n, rfl, _⟩ := h
    rfl
  · obtain ⟨p, xs, ohs, n, rfl, ⟨pa, pb, h1, h2, h3⟩, hp, hn, q⟩ := h
    have nd := scText.nd
    refine ⟨_, pss_cons (ps_set (i := 1) nd rfl (.inl rfl) (pe_callB call_len (by rfl) B.len bLen (pa_cons (pe_ix ix_tup (pv 0) pe_int (fun _ _ => rfl)) pa_nil)))
      (pss_cons (ps_set (i := 2) nd rfl (.inl rfl) (pe_lst pa_nil))
      (pss_cons (ps_for PassesOwn.never rfl (pi_range1 (by rfl) B.range (pa_cons (pv 1) pa_nil)) (pg_name (i := 3) nd rfl (.inl rfl))
        (pss_cons (ps_set (i := 4) nd rfl (.inl rfl) (pe_op op_sub (pe_op op_sub (pv 1) pe_int) (pv 3)))
        (pss_cons (ps_set (i := 5) nd rfl (.inl rfl) pe_str)
        (pss_cons (ps_for PassesOwn.never rfl (pi_range1 (by rfl) B.range (pa_cons (pv 1) pa_nil)) (pg_name (i := 6) nd rfl (.inl rfl))
          (pss_cons (ps_set (i := 7) nd rfl (.inl rfl) pe_str)
          (pss_cons (ps_if (pt_cmpR op_eq (pe_ix ix_tup (pe_ix ix_tup (pv 0) pe_int (fun _ _ => rfl)) (pv 6) (fun _ _ => rfl)) (pv 4) (nomark _)) (pss_one (ps_set (i := 7) nd rfl (.inl rfl) pe_str)) pss_nil)
          (pss_cons (ps_if (pt_cmpR op_eq (pe_ix ix_tup (pe_ix ix_tup (pv 0) pe_int (fun _ _ => rfl)) (pv 6) (fun _ _ => rfl)) (pv 4) (nomark _)) (pss_one (ps_set (i := 7) nd rfl (.inl rfl) pe_str)) pss_nil)
          (pss_one (ps_set (i := 5) nd rfl (.inl rfl) (pe_op op_add_str (pv 5) (pv 7))))))))
        (pss_one (ps_expr (pe_bm PySem.F.plainAttrs_list PySem.F.slot_list_append PySem.F.type_list_append mt_append (pv 2) (pa_cons (pv 5) pa_nil))))))))
      (pss_one (ps_ret (pe_join pe_str (pv 2)))))), ?_⟩
    refine ⟨.ref p, rfl, p, _, 0, .ref pa, rfl, rfl, SqT.of h1, atI_nat (j := 0) rfl, .ref pa, n, rfl, .inr ⟨_, SqT.of h2, by rw [iv_length, hp.lx]⟩, ?_⟩
    refine ⟨Nat.zero_le _, fun o no => ?_⟩
    refine ⟨.int (n : Int), rfl, (n : Int), rfl, by omega, by omega, ?_⟩
    refine for_any (n := n) (fun t σ H' => ∃ (y3 y4 y5 y6 y7 : Option V), σ = [some (.ref p), some (.int (n : Int)), some (.ref o), y3, y4, y5, y6, y7] ∧ Same H H' ∧ H' o = some (.lst ((((lineL xs ohs).take t).map S).map V.str)))
      ⟨none, none, none, none, none, rfl, same_new no, upd_same⟩
      (fun i σ H' hi hP => by
        show i < (n : Int).toNat
        omega) (fun σ H' hP => by
        show (n : Int).toNat ≤ n
        omega) (fun t σ H' x H'' ht hP hy => ?_) (fun σ H' hP => ?_)
    · obtain ⟨y3, y4, y5, y6, y7, rfl, sm, eO⟩ := hP
      obtain ⟨e6, rfl⟩ := hy
      subst e6
      have er : (n : Int) - 1 - (0 + (t : Int)) = ((n - 1 - t : Nat) : Int) := by omega
      refine ⟨_, rfl, _, 1, rfl, rfl, _, rfl, _, _, rfl, rfl, ?_⟩
      dsimp only
      rw [er]
      generalize hrr : n - 1 - t = r
      refine ⟨.int (n : Int), rfl, (n : Int), rfl, by omega, by omega, ?_⟩
      refine for_any (n := n) (fun i σ H' => ∃ (y3 y6 y7 : Option V), σ = [some (.ref p), some (.int (n : Int)), some (.ref o), y3, some (.int (r : Int)), some (.str (S ((rowL xs ohs r).take i))), y6, y7] ∧ H' = H'')
        ⟨_, _, _, by rw [List.take_zero, ← em_eq]; rfl, rfl⟩
        (fun i σ H' hi hP => by
          show i < (n : Int).toNat
          omega) (fun σ H' hP => by
          show (n : Int).toNat ≤ n
          omega) (fun i σ H' x H3 hi hP hy => ?_) (fun σ H' hP => ?_)
      · obtain ⟨z3, z6, z7, rfl, eH⟩ := hP
        obtain ⟨e6, e7⟩ := hy
        subst e6
        subst eH
        subst e7
        obtain ⟨xi, hxi⟩ : ∃ x, xs[i]? = some x := ⟨_, List.getElem?_eq_getElem (by rw [hp.lx]; exact hi)⟩
        obtain ⟨oi, hoi⟩ : ∃ x, ohs[i]? = some x := ⟨_, List.getElem?_eq_getElem (by rw [hp.lo]; exact hi)⟩
        have aX : atI (iv xs) (0 + (i : Int)) = some (.int (xi : Int)) := by
          rw [Int.zero_add]
          exact atI_nat (iv_at hxi)
        have aO : atI (iv ohs) (0 + (i : Int)) = some (.int (oi : Int)) := by
          rw [Int.zero_add]
          exact atI_nat (iv_at hoi)
        have hsg := rowL_at (r := r) hxi hoi
        have hlen : (S ((rowL xs ohs r).take i)).length + 1 ≤ sizeLine := by
          rw [S_length, List.length_take]
          exact line_of (by omega)
        have h1' := sm _ _ h1
        have h2' := sm _ _ h2
        have h3' := sm _ _ h3
        refine ⟨.ref p, rfl, p, _, 0, .ref pa, rfl, rfl, SqT.of h1', atI_nat (j := 0) rfl, .int (0 + (i : Int)), rfl, pa, _, _, .int (xi : Int), rfl, rfl, SqT.of h2', aX, .int (r : Int), rfl, rfl, _, rfl, ?_⟩
        rw [dec_nat]
        refine ite2 (fun e => ?_) (fun e => ?_)
        · have ex : xi = r := of_decide_eq_true e
          refine ⟨.ref p, rfl, p, _, 1, .ref pb, rfl, rfl, SqT.of h1', atI_nat (j := 1) rfl, .int (0 + (i : Int)), rfl, pb, _, _, .int (oi : Int), rfl, rfl, SqT.of h3', aO, .int (r : Int), rfl, rfl, _, rfl, ?_⟩
          have eo : ¬ oi = r := fun h => hp.ne i xi oi hxi hoi (ex.trans h.symm)
          rw [dec_nat, decide_eq_false eo]
          refine iteF ?_
          refine ⟨_, rfl, _, rfl, _, _, rfl, rfl, hlen, ?_⟩
          have es : S ((rowL xs ohs r).take i) ++ Str.ofString "X" = S ((rowL xs ohs r).take (i + 1)) := by
            rw [show (Str.ofString "X") = S [sg xi oi r] by unfold sg; rw [if_neg eo, if_pos ex]; exact sX_eq, S_snoc hsg]
          rw [es]
          exact ⟨_, _, _, rfl, rfl⟩
        · have ex : ¬ xi = r := fun h => e (decide_eq_true h)
          refine ⟨.ref p, rfl, p, _, 1, .ref pb, rfl, rfl, SqT.of h1', atI_nat (j := 1) rfl, .int (0 + (i : Int)), rfl, pb, _, _, .int (oi : Int), rfl, rfl, SqT.of h3', aO, .int (r : Int), rfl, rfl, _, rfl, ?_⟩
          rw [dec_nat]
          refine ite2 (fun e => ?_) (fun e => ?_)
          · have eo : oi = r := of_decide_eq_true e
            refine ⟨_, rfl, _, rfl, _, _, rfl, rfl, hlen, ?_⟩
            have es : S ((rowL xs ohs r).take i) ++ Str.ofString "O" = S ((rowL xs ohs r).take (i + 1)) := by
              rw [show (Str.ofString "O") = S [sg xi oi r] by unfold sg; rw [if_pos eo]; exact sO_eq, S_snoc hsg]
            rw [es]
            exact ⟨_, _, _, rfl, rfl⟩
          · have eo : ¬ oi = r := fun h => e (decide_eq_true h)
            refine ⟨_, rfl, _, rfl, _, _, rfl, rfl, hlen, ?_⟩
            have es : S ((rowL xs ohs r).take i) ++ Str.ofString "." = S ((rowL xs ohs r).take (i + 1)) := by
              rw [show (Str.ofString ".") = S [sg xi oi r] by unfold sg; rw [if_neg eo, if_neg ex]; exact sD_eq, S_snoc hsg]
            rw [es]
            exact ⟨_, _, _, rfl, rfl⟩
      · obtain ⟨z3, z6, z7, rfl, rfl⟩ := hP
        rw [show (rowL xs ohs r).take n = rowL xs ohs r from List.take_of_length_le (by rw [rowL_length hp]; exact Nat.le_refl _)]
        refine ⟨.ref o, rfl, .inl ⟨rfl, _, .inl (.inl eO)⟩, _, rfl, o, _, _, rfl, rfl, eO, ?_, ?_⟩
        · rw [List.length_map, List.length_map, List.length_take]
          exact line_lt (by omega)
        · refine ⟨_, _, _, _, _, rfl, swr sm no, ?_⟩
          rw [upd_same, List.take_add_one, lineL_at hp ht, hrr, List.map_append, List.map_append]
          rfl
    · obtain ⟨y3, y4, y5, y6, y7, rfl, sm, eO⟩ := hP
      rw [List.take_of_length_le (by rw [lineL_length, hp.lx]; exact Nat.le_refl _)] at eO
      refine ⟨⟨_, rfl⟩, .ref o, rfl, _, o, (lineL xs ohs).map S, rfl, rfl, .inl (SqL.of eO), ?_, ?_⟩
      · rw [lens_sum n _ (lineL_mem hp), List.length_map, lineL_length, hp.lx]
        have h1 : n * n ≤ 1000 * 1000 := Nat.mul_le_mul hn hn
        show n * n + n * 1 ≤ 16777216
        omega
      · show Q (.str (Txt.join (Str.ofString "\n") ((lineL xs ohs).map S))) H'
        rw [nl_eq]
        exact q H' sm
end
end GK
/-! _law_changed -/
namespace GK
open PySem PySem.Spec PyProof.Rows L2
open SX (S)
theorem cat_le {a b : Str} {m n : Nat} (ha : a.length ≤ m) (hb : b.length ≤ n) : (a ++ b).length ≤ m + n := by
  rw [PySem.Str.length_append]
  omega
theorem joinL_len (a : List Nat) : ∀ ys : List (List Nat), (TL.joinL a ys).length ≤ (ys.map (·.length)).sum + ys.length * a.length
  | [] => Nat.zero_le _
  | [x] => by
    show x.length ≤ x.length + 0 + (0 + 1) * a.length
    omega
  | x :: y :: r => by
    have ih := joinL_len a (y :: r)
    show (x ++ (a ++ TL.joinL a (y :: r))).length ≤ x.length + ((y :: r).map (·.length)).sum + ((y :: r).length + 1) * a.length
    rw [List.length_append, List.length_append, Nat.add_mul]
    omega
theorem join_len (ys : List (List Nat)) : (Txt.join (Str.ofString "\n") (ys.map S)).length ≤ (ys.map (·.length)).sum + ys.length := by
  rw [nl_eq, SX.join_S, S_length]
  have := joinL_len [10] ys
  have e : ys.length * [10].length = ys.length := Nat.mul_one _
  omega
theorem sum_le (m : Nat) : ∀ ys : List (List Nat), (∀ z ∈ ys, z.length ≤ m) → (ys.map (·.length)).sum ≤ ys.length * m
  | [], _ => Nat.zero_le _
  | z :: r, h => by
    have ih := sum_le m r fun y hy => h y (List.mem_cons_of_mem _ hy)
    have := h z List.mem_cons_self
    rw [List.map_cons, List.sum_cons, List.length_cons, Nat.add_mul]
    omega
theorem sumS (ys : List (List Nat)) : ((ys.map S).map (·.length)).sum = (ys.map (·.length)).sum := by
  rw [List.map_map]
  exact congrArg List.sum (List.map_congr_left fun z _ => S_length z)
theorem gtext_length {xs ohs : List Nat} {n : Nat} (hp : Pair xs ohs n) (hn : n ≤ 8) : (gtext xs ohs).length ≤ 72 := by
  have h1 := join_len (lineL xs ohs)
  have h2 := sum_le n (lineL xs ohs) fun z hz => Nat.le_of_eq (lineL_mem hp z hz)
  rw [lineL_length, hp.lx] at h2
  rw [lineL_length, hp.lx, nl_eq] at h1
  have h3 : n * n ≤ 8 * 8 := Nat.mul_le_mul hn hn
  exact Nat.le_trans h1 (by omega)
theorem gtext_pos {xs ohs : List Nat} {n : Nat} (hp : Pair xs ohs n) : 0 < (gtext xs ohs).length := by
  have h : (lineL xs ohs).length = n := by rw [lineL_length, hp.lx]
  have n2 := hp.n2
  unfold gtext
  rw [SX.join_S, S_length]
  match hL : lineL xs ohs, h with
  | x :: y :: r, _ =>
    show 0 < (x ++ ([10] ++ TL.joinL [10] (y :: r))).length
    rw [List.length_append, List.length_append]
    show 0 < x.length + (1 + _)
    omega
  | [x], h =>
    have e : 1 = n := h
    omega
  | [], h =>
    have e : 0 = n := h
    omega
theorem sv_drop (L : List (List Nat)) (k : Nat) : (sv L).drop k = sv (L.drop k) := by
  show _ = ((L.drop k).map S).map V.str
  rw [List.map_drop, List.map_drop]
theorem sv_take (L : List (List Nat)) (k : Nat) : (sv L).take k = sv (L.take k) := by
  show _ = ((L.take k).map S).map V.str
  rw [List.map_take, List.map_take]
theorem sv_app (L M : List (List Nat)) : sv L ++ sv M = sv (L ++ M) := by
  show _ = ((L ++ M).map S).map V.str
  rw [List.map_append, List.map_append]
section
variable {P : Program} {w : World} {K : PySem.W.Frag} {mg : Str → Option Value} {base : Heap} {f : Addr} {fd : FuncData}
abbrev sChanged : Stmt := topS 29
abbrev nChanged : List Str := ["_law_script", "_law_k", "_law_text_here", "_law_drawn", "_law_at", "_law_sign", "_law_lines", "_law_one", "_law_two", "_law_line"]
theorem scChanged : FnScope nChanged ["_law_script", "_law_k", "_law_text_here"] (defScope sChanged) := ⟨rfl, rfl, rfl, by decide +kernel, rfl, by decide +kernel, by decide +kernel⟩
def spChanged (K : PySem.W.Frag) : Sp := fun vs H Q _ => ∃ (a : Addr) (ns : List Int) (k : Nat) (xs ohs : List Nat) (n : Nat), vs = [.ref a, .int (k : Int), .str (gtext xs ohs)] ∧ SqL K H a (ns.map V.int) ∧ ns.length ≤ 63 ∧ k ≤ 1000 ∧ Pair xs ohs n ∧ n ≤ 8 ∧
  ∀ H' z, Same H H' → z.length ≤ 900 → Q (.str z) H'
theorem eight_signs : (Str.ofString "XO.\n xo-").cps.toList = [88, 79, 46, 10, 32, 120, 111, 45] := by decide +kernel
theorem sign_at (d : Nat) (h : d < 8) : ∃ c, atI (Str.ofString "XO.\n xo-").cps.toList (d : Int) = some c := by
  rw [eight_signs]
  exact ⟨_, atI_nat (List.getElem?_eq_getElem h)⟩
theorem ok_changed (F : L2.Fun K "_law_changed" "_law_changed" sChanged f fd) (B : Gb mg) (c1 : Cl P w K mg base CX0 1 "_law_draws" ["_law_script", "_law_k", "_law_bounds"] (spDraws K)) :
    FnOk P w K mg base CX0 2 f fd ["_law_script", "_law_k", "_law_text_here"] (spChanged K) := by
  refine F.ok scChanged (fun vs H Q E h => ?_) (fun cdv A outer s H vs Q E hr h => ?_)
  · obtain ⟨a, ns, k, xs, ohs, n, rfl, _⟩ := h
    rfl
  · obtain ⟨a, ns, k, xs, ohs, n, rfl, hS, hl, hk, hp, hn, q⟩ := h
    have nd := scChanged.nd
    refine ⟨_, pss_cons (ps_set (i := 3) nd rfl (.inl rfl) (pe_cl c1 hr (by decide) (by rfl) pass0 (pa_cons (pv 0) (pa_cons (pv 1) (pa_cons (pe_lst (pa_cons pe_int (pa_cons pe_int (pa_cons pe_int (pa_cons pe_int pa_nil))))) pa_nil)))))
      (pss_cons (ps_set (i := 4) nd rfl (.inl rfl) (pe_op op_mod (pe_callTy call_int1 (by rfl) B.int bInt (pa_cons (pe_ix ix_list (pv 3) pe_int (fun _ _ => rfl)) pa_nil)) (pe_callB call_len_str (by rfl) B.len bLen (pa_cons (pv 2) pa_nil))))
      (pss_cons (ps_set (i := 5) nd rfl (.inl rfl) (pe_ix ix_str pe_str (pe_ix ix_list (pv 3) pe_int (fun _ _ => rfl)) (fun _ _ => rfl)))
      (pss_cons (ps_if (pt_cmpR op_eq (pe_ix ix_list (pv 3) pe_int (fun _ _ => rfl)) pe_int (nomark _))
        (pss_one (ps_ret (pe_op op_add_str (pe_slice sl_str (pv 2) po_none (po_some (pv 4))) (pe_slice sl_str (pv 2) (po_some (pe_op op_add (pv 4) pe_int)) po_none)))) pss_nil)
      (pss_cons (ps_if (pt_cmpR op_eq (pe_ix ix_list (pv 3) pe_int (fun _ _ => rfl)) pe_int (nomark _))
        (pss_one (ps_ret (pe_op op_add_str (pe_op op_add_str (pe_slice sl_str (pv 2) po_none (po_some (pv 4))) (pv 5)) (pe_slice sl_str (pv 2) (po_some (pv 4)) po_none)))) pss_nil)
      (pss_cons (ps_if (pt_cmpR op_eq (pe_ix ix_list (pv 3) pe_int (fun _ _ => rfl)) pe_int (nomark _))
        (pss_one (ps_ret (pe_op op_add_str (pe_op op_add_str (pe_slice sl_str (pv 2) po_none (po_some (pv 4))) (pv 5)) (pe_slice sl_str (pv 2) (po_some (pe_op op_add (pv 4) pe_int)) po_none)))) pss_nil)
      (pss_cons (ps_if (pt_cmpR op_eq (pe_ix ix_list (pv 3) pe_int (fun _ _ => rfl)) pe_int (nomark _))
        (pss_one (ps_ret (pe_op op_add_str (pe_op op_add_str (pe_op op_add_str (pe_slice sl_str (pv 2) po_none (po_some (pv 4))) (pe_slice sl_str (pv 2) (po_some (pe_op op_add (pv 4) pe_int)) (po_some (pe_op op_add (pv 4) pe_int))))
          (pe_ix ix_str (pv 2) (pv 4) (fun _ _ => rfl))) (pe_slice sl_str (pv 2) (po_some (pe_op op_add (pv 4) pe_int)) po_none)))) pss_nil)
      (pss_cons (ps_if (pt_cmpR op_eq (pe_ix ix_list (pv 3) pe_int (fun _ _ => rfl)) pe_int (nomark _))
        (pss_one (ps_ret (pe_slice sl_str (pv 2) po_none (po_some (pv 4))))) pss_nil)
      (pss_cons (ps_set (i := 6) nd rfl (.inl rfl) (pe_split (pv 2) pe_str))
      (pss_cons (ps_set (i := 7) nd rfl (.inl rfl) (pe_op op_mod (pe_callTy call_int1 (by rfl) B.int bInt (pa_cons (pe_ix ix_list (pv 3) pe_int (fun _ _ => rfl)) pa_nil)) (pe_callB call_len (by rfl) B.len bLen (pa_cons (pv 6) pa_nil))))
      (pss_cons (ps_set (i := 8) nd rfl (.inl rfl) (pe_op op_mod (pe_callTy call_int1 (by rfl) B.int bInt (pa_cons (pe_ix ix_list (pv 3) pe_int (fun _ _ => rfl)) pa_nil)) (pe_callB call_len (by rfl) B.len bLen (pa_cons (pv 6) pa_nil))))
      (pss_cons (ps_if (pt_cmpR op_eq (pe_ix ix_list (pv 3) pe_int (fun _ _ => rfl)) pe_int (nomark _))
        (pss_one (ps_ret (pe_join pe_str (pe_op op_cat (pe_slice sl_list (pv 6) po_none (po_some (pv 7))) (pe_slice sl_list (pv 6) (po_some (pe_op op_add (pv 7) pe_int)) po_none))))) pss_nil)
      (pss_cons (ps_if (pt_cmpR op_eq (pe_ix ix_list (pv 3) pe_int (fun _ _ => rfl)) pe_int (nomark _))
        (pss_one (ps_ret (pe_join pe_str (pe_op op_cat (pe_op op_cat (pe_slice sl_list (pv 6) po_none (po_some (pv 7))) (pe_lst (pa_cons (pe_ix ix_list (pv 6) (pv 8) (fun _ _ => rfl)) pa_nil))) (pe_slice sl_list (pv 6) (po_some (pv 7)) po_none))))) pss_nil)
      (pss_cons (ps_if (pt_cmpR op_eq (pe_ix ix_list (pv 3) pe_int (fun _ _ => rfl)) pe_int (nomark _))
        (pss_one (ps_ret (pe_join pe_str (pe_lc (own := [("_law_line", 9)]) (g := gName 9) (tt := tYes) (te := tRevS (tVar 9)) rfl nd (pi_list (pv 6)) (blkOk_by (N := nChanged) (sc := defScope sChanged) (by decide +kernel))
          (fun _ _ _ _ _ => pg_name (i := 9) nd rfl (Or.inl rfl)) (fun _ _ _ _ _ => pts_nil) (fun _ _ _ _ _ => pe_revS (pv 9)))))) pss_nil)
      (pss_one (ps_ret (pe_join pe_str (pe_op op_cat (pe_slice sl_list (pv 6) (po_some (pv 7)) po_none) (pe_slice sl_list (pv 6) po_none (po_some (pv 7)))))))))))))))))))), ?_⟩
    have ht := gtext_length hp hn
    have tp := gtext_pos hp
    have lg := lines_gtext hp
    generalize gtext xs ohs = t at ht tp lg
    have n2 := hp.n2
    have hLl : (lineL xs ohs).length = n := by rw [lineL_length, hp.lx]
    have hLm := lineL_mem hp
    generalize lineL xs ohs = L at lg hLl hLm
    have hLs : ∀ z ∈ L, z.length ≤ 8 := fun z hz => by rw [hLm z hz]; exact hn
    have tz : t.length ≤ sizeLine := line_of (by omega)
    have cl : ∀ lo hi, (cutS t lo hi).length ≤ 72 := fun lo hi => Nat.le_trans (cutS_length t lo hi) ht
    have l1 : ∀ c : Nat, Str.length ⟨#[c]⟩ ≤ 1 := fun c => Nat.le_refl _
    refine ⟨.ref a, rfl, .int (k : Int), rfl, (show 4 ≤ sizeLine from line_of (by decide)), fun l0 nl0 => ?_⟩
    refine ⟨a, ns, k, l0, [9, 90, 8, 8], rfl, (same_new nl0).seq hS, hl, hk, upd_same, by show 4 ≤ 1000; decide, by decide, fun H1 p0 ds s1 e1 hd hb => ?_⟩
    replace s1 := (same_new nl0).trans s1
    obtain ⟨d0, d1, d2, d3, rfl⟩ : ∃ x y z u, ds = [x, y, z, u] := by
      match ds, hd with
      | [x, y, z, u], _ => exact ⟨x, y, z, u, rfl⟩
    have hd2 : d2 < 8 := hb 2 d2 8 rfl rfl
    have eat : ((d1 : Int) % (t.length : Int)) = ((d1 % t.length : Nat) : Int) := (Int.natCast_emod d1 t.length).symm
    have hat := Nat.mod_lt d1 tp
    refine ⟨.ref p0, rfl, p0, _, 1, .int (d1 : Int), rfl, rfl, SqL.of e1, atI_nat (j := 1) rfl, .inl ⟨_, rfl, .str t, rfl, t, rfl, tz, _, _, rfl, rfl, (show (0 : Int) < (t.length : Int) by omega), ?_⟩⟩
    dsimp only
    rw [eat]
    revert hat
    generalize d1 % t.length = at0
    intro hat
    obtain ⟨c, hc⟩ := sign_at d2 hd2
    refine ⟨.ref p0, rfl, p0, _, 2, .int (d2 : Int), rfl, rfl, SqL.of e1, atI_nat (j := 2) rfl, Str.ofString "XO.\n xo-", _, c, rfl, rfl, line_of (by decide +kernel), hc, ?_⟩
    refine ⟨.ref p0, rfl, p0, _, 0, .int (d0 : Int), rfl, rfl, SqL.of e1, atI_nat (j := 0) rfl, rfl, _, rfl, ?_⟩
    refine ite2 (fun _ => ?_) (fun _ => ?_)
    · refine ⟨.str t, rfl, .int (at0 : Int), rfl, _, rfl, t, rfl, tz, .str t, rfl, .int (at0 : Int), rfl, _, 1, rfl, rfl, _, rfl, t, rfl, tz, _, _, rfl, rfl, ?_, ?_⟩
      · exact line_of (Nat.le_trans (Nat.add_le_add (cl _ _) (cl _ _)) (by decide))
      · exact q _ _ s1 (Nat.le_trans (cat_le (cl _ _) (cl _ _)) (by decide))
    refine ⟨.ref p0, rfl, p0, _, 0, .int (d0 : Int), rfl, rfl, SqL.of e1, atI_nat (j := 0) rfl, rfl, _, rfl, ?_⟩
    refine ite2 (fun _ => ?_) (fun _ => ?_)
    · refine ⟨.str t, rfl, .int (at0 : Int), rfl, _, rfl, t, rfl, tz, .str ⟨#[c]⟩, rfl, _, _, rfl, rfl, ?_, .str t, rfl, .int (at0 : Int), rfl, _, rfl, t, rfl, tz, _, _, rfl, rfl, ?_, ?_⟩
      · exact line_of (Nat.le_trans (Nat.add_le_add (cl _ _) (l1 _)) (by decide))
      · exact line_of (Nat.le_trans (Nat.add_le_add (cat_le (cl _ _) (l1 _)) (cl _ _)) (by decide))
      · exact q _ _ s1 (Nat.le_trans (cat_le (cat_le (cl _ _) (l1 _)) (cl _ _)) (by decide))
    refine ⟨.ref p0, rfl, p0, _, 0, .int (d0 : Int), rfl, rfl, SqL.of e1, atI_nat (j := 0) rfl, rfl, _, rfl, ?_⟩
    refine ite2 (fun _ => ?_) (fun _ => ?_)
    · refine ⟨.str t, rfl, .int (at0 : Int), rfl, _, rfl, t, rfl, tz, .str ⟨#[c]⟩, rfl, _, _, rfl, rfl, ?_, .str t, rfl, .int (at0 : Int), rfl, _, 1, rfl, rfl, _, rfl, t, rfl, tz, _, _, rfl, rfl, ?_, ?_⟩
      · exact line_of (Nat.le_trans (Nat.add_le_add (cl _ _) (l1 _)) (by decide))
      · exact line_of (Nat.le_trans (Nat.add_le_add (cat_le (cl _ _) (l1 _)) (cl _ _)) (by decide))
      · exact q _ _ s1 (Nat.le_trans (cat_le (cat_le (cl _ _) (l1 _)) (cl _ _)) (by decide))
    refine ⟨.ref p0, rfl, p0, _, 0, .int (d0 : Int), rfl, rfl, SqL.of e1, atI_nat (j := 0) rfl, rfl, _, rfl, ?_⟩
    refine ite2 (fun _ => ?_) (fun _ => ?_)
    · obtain ⟨c2, hc2⟩ : ∃ c2, t.cps.toList[at0]? = some c2 := ⟨_, List.getElem?_eq_getElem (by rw [Array.length_toList]; exact hat)⟩
      refine ⟨.str t, rfl, .int (at0 : Int), rfl, _, rfl, t, rfl, tz, .str t, rfl, .int (at0 : Int), rfl, _, 1, rfl, rfl, _, rfl, .int (at0 : Int), rfl, _, 2, rfl, rfl, _, rfl, t, rfl, tz, _, _, rfl, rfl, ?_, ?_⟩
      · exact line_of (Nat.le_trans (Nat.add_le_add (cl _ _) (cl _ _)) (by decide))
      refine ⟨.str t, rfl, .int (at0 : Int), rfl, t, _, c2, rfl, rfl, tz, atI_nat hc2, _, _, rfl, rfl, ?_, .str t, rfl, .int (at0 : Int), rfl, _, 2, rfl, rfl, _, rfl, t, rfl, tz, _, _, rfl, rfl, ?_, ?_⟩
      · exact line_of (Nat.le_trans (Nat.add_le_add (cat_le (cl _ _) (cl _ _)) (l1 _)) (by decide))
      · exact line_of (Nat.le_trans (Nat.add_le_add (cat_le (cat_le (cl _ _) (cl _ _)) (l1 _)) (cl _ _)) (by decide))
      · exact q _ _ s1 (Nat.le_trans (cat_le (cat_le (cat_le (cl _ _) (cl _ _)) (l1 _)) (cl _ _)) (by decide))
    refine ⟨.ref p0, rfl, p0, _, 0, .int (d0 : Int), rfl, rfl, SqL.of e1, atI_nat (j := 0) rfl, rfl, _, rfl, ?_⟩
    refine ite2 (fun _ => ?_) (fun _ => ?_)
    · refine ⟨.str t, rfl, .int (at0 : Int), rfl, _, rfl, t, rfl, tz, ?_⟩
      exact q _ _ s1 (Nat.le_trans (cl _ _) (by decide))
    -- the lines
    refine ⟨.str t, rfl, ⟨t, rfl⟩, t, Str.ofString "\n", rfl, rfl, by decide +kernel, line_of (by omega), fun l1a nl => ?_⟩
    rw [lines_split, lg]
    have s2 := snew s1 nl (o := .lst (sv L))
    have e2 : (upd H1 l1a (.lst (sv L))) l1a = some (.lst (sv L)) := upd_same
    have e1' := at_new e1 nl (o := .lst (sv L))
    show _
    generalize (upd H1 l1a (.lst (sv L))) = H2 at s2 e2 e1'
    have lenL : ∀ H', H' l1a = some (.lst (sv L)) → LenV K (.ref l1a) H' n := fun H' e => .inl ⟨_, SqL.of e, by rw [sv_length, hLl]⟩
    have eone : ((d2 : Int) % (n : Int)) = ((d2 % n : Nat) : Int) := (Int.natCast_emod d2 n).symm
    have etwo : ((d3 : Int) % (n : Int)) = ((d3 % n : Nat) : Int) := (Int.natCast_emod d3 n).symm
    have hone := Nat.mod_lt d2 (show 0 < n by omega)
    have htwo := Nat.mod_lt d3 (show 0 < n by omega)
    refine ⟨.ref p0, rfl, p0, _, 2, .int (d2 : Int), rfl, rfl, SqL.of e1', atI_nat (j := 2) rfl, .inl ⟨_, rfl, .ref l1a, rfl, .ref l1a, n, rfl, lenL _ e2, _, _, rfl, rfl, (show (0 : Int) < (n : Int) by omega), ?_⟩⟩
    dsimp only
    rw [eone]
    revert hone
    generalize d2 % n = one
    intro hone
    refine ⟨.ref p0, rfl, p0, _, 3, .int (d3 : Int), rfl, rfl, SqL.of e1', atI_nat (j := 3) rfl, .inl ⟨_, rfl, .ref l1a, rfl, .ref l1a, n, rfl, lenL _ e2, _, _, rfl, rfl, (show (0 : Int) < (n : Int) by omega), ?_⟩⟩
    dsimp only
    rw [etwo]
    revert htwo
    generalize d3 % n = two
    intro htwo
    have c1e : cutV (sv L) none (some (one : Int)) = sv (L.take one) := (cut_to _ one).trans (sv_take L one)
    have c2e : cutV (sv L) (some ((one : Int) + 1)) none = sv (L.drop (one + 1)) := (cut_from _ (one + 1)).trans (sv_drop L _)
    have c3e : cutV (sv L) (some (one : Int)) none = sv (L.drop one) := (cut_from _ one).trans (sv_drop L _)
    have cvl : ∀ lo hi, (cutV (sv L) lo hi).length ≤ 8 := fun lo hi => by
      have := cutV_length (sv L) lo hi
      rw [sv_length, hLl] at this
      omega
    have inT : ∀ z ∈ L.take one, z.length ≤ 8 := fun z hz => hLs z (List.mem_of_mem_take hz)
    have inD : ∀ k, ∀ z ∈ L.drop k, z.length ≤ 8 := fun k z hz => hLs z (List.mem_of_mem_drop hz)
    have jn : ∀ (H' : Hp) (o : Addr) (M : List (List Nat)), Same H H' → H' o = some (.lst (sv M)) → M.length ≤ 9 → (∀ z ∈ M, z.length ≤ 8) → ∃ (a : Str) (p : Addr) (ys : List Str), V.str (Str.ofString "\n") = V.str a ∧ [V.ref o] = [V.ref p] ∧
        (SqL K H' p (ys.map V.str) ∨ SqT K H' p (ys.map V.str)) ∧ (ys.map (·.length)).sum + ys.length * a.length ≤ 16777216 ∧ Q (.str (Txt.join a ys)) H' := fun H' o M sm e hm hz => by
      have q1 := sum_le 8 M hz
      have q2 := join_len M
      have q3 : M.length * 8 ≤ 9 * 8 := Nat.mul_le_mul_right 8 hm
      refine ⟨_, o, M.map S, rfl, rfl, .inl (SqL.of e), ?_, q _ _ sm (Nat.le_trans q2 (by omega))⟩
      rw [sumS, List.length_map]
      show _ + M.length * 1 ≤ _
      omega
    -- a line left out
    refine ⟨.ref p0, rfl, p0, _, 0, .int (d0 : Int), rfl, rfl, SqL.of e1', atI_nat (j := 0) rfl, rfl, _, rfl, ?_⟩
    refine ite2 (fun _ => ?_) (fun _ => ?_)
    · refine ⟨⟨_, rfl⟩, .ref l1a, rfl, .int (one : Int), rfl, _, rfl, l1a, _, rfl, SqL.of e2, fun c1 nc1 => ⟨.ref l1a, rfl, .int (one : Int), rfl, _, 1, rfl, rfl, _, rfl, l1a, _, rfl, SqL.of (at_new e2 nc1), fun c2 nc2 => ⟨c1, c2, _, _, rfl, rfl, at_new upd_same nc2, upd_same,
        line_of (Nat.le_trans (Nat.add_le_add (cvl _ _) (cvl _ _)) (by decide)), fun o no => ?_⟩⟩⟩
      refine jn _ o (L.take one ++ L.drop (one + 1)) (snew (snew (snew s2 nc1) nc2) no) ?_ ?_ ?_
      · rw [upd_same, ← sv_app, ← c1e, ← c2e]
      · rw [List.length_append, List.length_take, List.length_drop]
        omega
      · intro z hz
        rcases List.mem_append.mp hz with hz | hz
        · exact inT z hz
        · exact inD _ z hz
    -- a line put in
    refine ⟨.ref p0, rfl, p0, _, 0, .int (d0 : Int), rfl, rfl, SqL.of e1', atI_nat (j := 0) rfl, rfl, _, rfl, ?_⟩
    refine ite2 (fun _ => ?_) (fun _ => ?_)
    · obtain ⟨u, hu⟩ : ∃ u, L[two]? = some u := ⟨_, List.getElem?_eq_getElem (by rw [hLl]; exact htwo)⟩
      have hum := hLs u (List.mem_of_getElem? hu)
      refine ⟨⟨_, rfl⟩, .ref l1a, rfl, .int (one : Int), rfl, _, rfl, l1a, _, rfl, SqL.of e2, fun c1 nc1 => ?_⟩
      refine ⟨.ref l1a, rfl, .int (two : Int), rfl, l1a, _, _, .str (S u), rfl, rfl, SqL.of (at_new e2 nc1), atI_nat (sv_at hu), (show 1 ≤ sizeLine from line_of (by decide)), fun c2 nc2 => ?_⟩
      refine ⟨c1, c2, _, _, rfl, rfl, at_new upd_same nc2, upd_same, line_of (Nat.le_trans (Nat.add_le_add (cvl _ _) (Nat.le_refl 1)) (by decide)), fun o no => ?_⟩
      refine ⟨.ref l1a, rfl, .int (one : Int), rfl, _, rfl, l1a, _, rfl, SqL.of (at_new (at_new (at_new e2 nc1) nc2) no), fun c3 nc3 => ?_⟩
      refine ⟨o, c3, _, _, rfl, rfl, at_new upd_same nc3, upd_same, ?_, fun o2 no2 => ?_⟩
      · rw [List.length_append]
        exact line_of (Nat.le_trans (Nat.add_le_add (Nat.add_le_add (cvl _ _) (Nat.le_refl 1)) (cvl _ _)) (by decide))
      refine jn _ o2 ((L.take one ++ [u]) ++ L.drop one) (snew (snew (snew (snew (snew s2 nc1) nc2) no) nc3) no2) ?_ ?_ ?_
      · rw [upd_same, ← sv_app, ← sv_app, ← c1e, ← c3e]
        rfl
      · rw [List.length_append, List.length_append, List.length_take, List.length_drop]
        show _ + 1 + _ ≤ 9
        omega
      · intro z hz
        rcases List.mem_append.mp hz with hz | hz
        · rcases List.mem_append.mp hz with hz | hz
          · exact inT z hz
          · rw [List.mem_singleton.mp hz]
            exact hum
        · exact inD _ z hz
    -- each line turned round
    refine ⟨.ref p0, rfl, p0, _, 0, .int (d0 : Int), rfl, rfl, SqL.of e1', atI_nat (j := 0) rfl, rfl, _, rfl, ?_⟩
    refine ite2 (fun _ => ?_) (fun _ => ?_)
    · have wk := wk_list (K := K) (a := l1a) (xs := sv L)
      refine ⟨⟨_, rfl⟩, .ref l1a, rfl, l1a, rfl, ⟨_, SqL.of e2⟩, fun D hD => ?_⟩
      have lD : l1a ≠ D := ne_of_none e2 hD
      refine lc_any (tt := tYes) (n := n) (fun i H' => ∃ M : List (List Nat), Same H2 H' ∧ H' D = some (.lst (sv M)) ∧ M.length = i ∧ ∀ z ∈ M, z.length ≤ 8) ⟨[], same_new hD, upd_same, rfl, fun z hz => by simp at hz⟩
        (fun i H' hi hP => by
          obtain ⟨M, sm, _⟩ := hP
          exact wk.go i _ (by rw [sv_length, hLl]; exact hi) (SqL.of (sm _ _ e2))) (fun H' hP => by
          obtain ⟨M, sm, _⟩ := hP
          have q := wk.st _ (SqL.of (sm _ _ e2))
          rw [sv_length, hLl] at q
          exact q) (fun i H' x H'' hi hP hy => ?_) (fun H' hP => ?_)
      · obtain ⟨M, sm, eD, hM, hz⟩ := hP
        obtain ⟨rfl, ex⟩ := wk.yd i _ x H'' (SqL.of (sm _ _ e2)) hy
        obtain ⟨z, hzi, rfl⟩ := sv_inv ex
        have hzl := hLs z (List.mem_of_getElem? hzi)
        refine ⟨rfl, yesI ?_⟩
        refine ⟨_, rfl, S z, rfl, line_of (by rw [S_length]; omega), fun y hy => ?_⟩
        refine ⟨_, eD, ?_, M ++ [y.cps.toList], swr sm hD, ?_, ?_, ?_⟩
        · rw [sv_length]
          exact line_lt (by omega)
        · rw [upd_same, ← sv_app]
          show _ = some (HO.lst (sv M ++ [V.str (S y.cps.toList)]))
          rw [SX.S_tl]
        · rw [List.length_append, hM]
          rfl
        · intro u hu
          rcases List.mem_append.mp hu with hu | hu
          · exact hz u hu
          · rw [List.mem_singleton.mp hu]
            rw [S_length] at hy
            exact Nat.le_trans hy hzl
      · obtain ⟨M, sm, eD, hM, hz⟩ := hP
        exact jn _ D M (s2.trans sm) eD (by omega) hz
    -- the lines shifted
    refine ⟨⟨_, rfl⟩, .ref l1a, rfl, .int (one : Int), rfl, _, rfl, l1a, _, rfl, SqL.of e2, fun c1 nc1 => ⟨.ref l1a, rfl, .int (one : Int), rfl, _, rfl, l1a, _, rfl, SqL.of (at_new e2 nc1), fun c2 nc2 => ⟨c1, c2, _, _, rfl, rfl, at_new upd_same nc2, upd_same,
      line_of (Nat.le_trans (Nat.add_le_add (cvl _ _) (cvl _ _)) (by decide)), fun o no => ?_⟩⟩⟩
    refine jn _ o (L.drop one ++ L.take one) (snew (snew (snew s2 nc1) nc2) no) ?_ ?_ ?_
    · rw [upd_same, ← sv_app, ← c1e, ← c3e]
    · rw [List.length_append, List.length_take, List.length_drop]
      omega
    · intro z hz
      rcases List.mem_append.mp hz with hz | hz
      · exact inD _ z hz
      · exact inT z hz
end
end GK
/-! law -/
namespace GK
open PySem PySem.Spec PyProof.Rows L2
open SX (S)
section
variable {P : Program} {w : World} {K : PySem.W.Frag} {mg : Str → Option Value} {base : Heap} {f C fI fE fS fR Ce : Addr} {fd fdI fdE fdS fdR : FuncData}
theorem passF {X : Cx} : Passes (CX X.prog X.w) X (fun _ _ _ => False) := fun _ _ _ _ _ _ _ h => by
  obtain ⟨a, b, c, d, e, _, _, _, _, _, _, _, h⟩ := h
  exact h.elim
theorem read_kb (F : L2.Fun K "read_grid" "read_grid" sRead fR fdR) : KBinds K fdR ["text"] ["text"] (fun us ws => us ++ ws) (fun vs zs => vs ++ zs) := by
  obtain ⟨oc, od, kV, doc, pm, an, cdv, ct, osl, rfl, lk, hcd⟩ := F.ex
  refine ⟨fun s us ws X hl => ?_, fun r1 r2 => r1.append r2⟩
  match us, ws, hl with
  | [], [v], _ => exact .of_eq rfl
  | [v], [], _ => exact .of_eq rfl
theorem le900_nil : ∀ z ∈ ([] : List Str), z.length ≤ 900 := fun z hz => by simp at hz
theorem le900_cons {y : Str} {l : List Str} (h : y.length ≤ 900) (r : ∀ z ∈ l, z.length ≤ 900) : ∀ z ∈ y :: l, z.length ≤ 900 := fun z hz => by
  rcases List.mem_cons.mp hz with rfl | hz
  · exact h
  · exact r z hz
theorem le900_app {k l : List Str} (h : ∀ z ∈ k, z.length ≤ 900) (r : ∀ z ∈ l, z.length ≤ 900) : ∀ z ∈ k ++ l, z.length ≤ 900 := fun z hz => by
  rcases List.mem_append.mp hz with hz | hz
  · exact h z hz
  · exact r z hz
theorem len_nl : (Str.ofString "\n").length ≤ 1 := by decide +kernel
theorem len_sp : (Str.ofString " ").length ≤ 1 := by decide +kernel
theorem init_at2 {H : Hp} {a b x dx : Addr} {xs ohs : List Nat} {n : Nat} {R : VK} {E : XK} (hL : LT2 H a b (iv xs) (iv ohs)) (hp : Pair xs ohs n) (hn : n ≤ 100000) (nx : H x = none) (nd : H dx = none)
    (q : ∀ H', Same H H' → GridAt C H' x xs ohs → R .non H') : spInit C (.ref x :: ([.ref a, .ref b] ++ [])) (upd (upd H dx (.own x)) x (.ins C dx [])) R E := by
  have s0 : Same H (upd (upd H dx (.own x)) x (.ins C dx [])) := fun c o e => by
    rw [upd_ne (ne_of_none e nx), upd_ne (ne_of_none e nd)]
    exact e
  refine ⟨x, dx, a, b, xs, ohs, n, rfl, upd_same, hL.same s0, hp, hn, fun H' kp g => q H' (fun c o e => kp c o (ne_of_none e nx) (s0 c o e)) g⟩
abbrev sLaw : Stmt := topS 30
abbrev nLaw : List Str := ["_law_script", "_law_size_here", "_law_pair", "_law_text_here", "_law_grid_here", "_law_turn", "_law_others", "_law_other", "_law_k"]
theorem scLaw : FnScope nLaw ["_law_script"] (defScope sLaw) := ⟨rfl, rfl, rfl, by decide +kernel, rfl, by decide +kernel, by decide +kernel⟩
def spLaw (K : PySem.W.Frag) : Sp := fun vs H Q _ => ∃ (a : Addr) (ns : List Int), vs = [.ref a] ∧ SqL K H a (ns.map V.int) ∧ ns.length ≤ 63 ∧ ∀ H', Q (.bl true) H'
theorem ok_law (F : L2.Fun K "law" "law" sLaw f fd) (B : Gb mg) (G : GridTxt K mg C fI fE fS)
    (FI : FnOk P w K mg base CX0 5 fI fdI ["self", "xs", "ohs"] (spInit C)) (bI : Binds K fdI ["self", "xs", "ohs"] [])
    (FE : FnOk P w K mg base CX0 2 fE fdE ["self", "other"] (spEq (SameG C))) (bE : Binds K fdE ["self", "other"] [])
    (FS : FnOk P w K mg base CX0 2 fS fdS ["self"] (spStr C)) (bS : Binds K fdS ["self"] [])
    (FR : FnOk P w K mg base (CX P w) 7 fR fdR ["text"] (spRead C Ce)) (TR : L2.Fun K "read_grid" "read_grid" sRead fR fdR) (mR : mg "read_grid" = some (.ref fR)) (bR : Binds K fdR ["text"] [])
    (cSize : Cl P w K mg base CX0 2 "_law_size" ["_law_script", "_law_k"] (spSize K))
    (cGrid : Cl P w K mg base CX0 2 "_law_grid" ["_law_script", "_law_k", "_law_size_here"] (spLGrid K))
    (cText : Cl P w K mg base CX0 1 "_law_text" ["_law_pair"] spText)
    (cEq : Cl P w K mg base CX0 4 "_law_equal" ["_law_actual", "_law_expected"] (spEqual 4))
    (cTold : Cl P w K mg base CX0 8 "_law_told" ["_law_text_here"] spTold)
    (cCh : Cl P w K mg base CX0 2 "_law_changed" ["_law_script", "_law_k", "_law_text_here"] (spChanged K))
    (cRight : Cl P w K mg base CX0 9 "_law_is_right" ["_law_text_here"] spRight) :
    FnOk P w K mg base CX0 10 f fd ["_law_script"] (spLaw K) := by
  refine F.ok scLaw (fun vs H Q E h => ?_) (fun cdv A outer s H vs Q E hr h => ?_)
  · obtain ⟨a, ns, rfl, _⟩ := h
    rfl
  · obtain ⟨a, ns, rfl, hS, hl, q⟩ := h
    have nd := scLaw.nd
    have hr6 := hr.mono (show 6 ≤ 9 by decide)
    have hr4 := hr.mono (show 4 ≤ 9 by decide)
    have hr7 := hr.mono (show 7 ≤ 9 by decide)
    have hr2 := hr.mono (show 2 ≤ 9 by decide)
    refine ⟨_, pss_cons (ps_set (i := 1) nd rfl (.inl rfl) (pe_cl cSize hr (by decide) (by rfl) pass0 (pa_cons (pv 0) (pa_cons pe_int pa_nil))))
      (pss_cons (ps_set (i := 2) nd rfl (.inl rfl) (pe_cl cGrid hr (by decide) (by rfl) pass0 (pa_cons (pv 0) (pa_cons pe_int (pa_cons (pv 1) pa_nil)))))
      (pss_cons (ps_set (i := 3) nd rfl (.inr rfl) (pe_cl cText hr (by decide) (by rfl) pass0 (pa_cons (pv 2) pa_nil)))
      (pss_cons (ps_set (i := 4) nd rfl (.inl rfl) (pe_make G.made FI hr6 (by rfl) G.gC bI .nil pass0 (pa_cons (pe_ix ix_tup (pv 2) pe_int (fun _ _ => rfl)) (pa_cons (pe_ix ix_tup (pv 2) pe_int (fun _ _ => rfl)) pa_nil))))
      (pss_cons (ps_for PassesOwn.never rfl (pi_range1 (by rfl) B.range (pa_cons pe_int pa_nil)) (pg_name (i := 5) nd rfl (.inl rfl))
        (pss_one (ps_if (PW.pt (pw_or (pt_not (pt_val (pe_cl cEq hr (by decide) (by rfl) pass0 (pa_cons (pe_callTy (call_strOwn FS hr4 G.sE G.sF bS pass0) (by rfl) B.str bStr (pa_cons (pv 4) pa_nil)) (pa_cons (pv 3) pa_nil)))))
            (pw_or1 (pt_not (pt_val (pe_cl cEq hr (by decide) (by rfl) pass0 (pa_cons (pe_cl cTold hr (by decide) (by rfl) pass0 (pa_cons (pv 3) pa_nil)) (pa_cons (pe_tup (pa_cons pe_str (pa_cons (pv 2) pa_nil))) pa_nil))))))))
          (pss_one (ps_ret pe_bl)) pss_nil)))
      (pss_cons (ps_set (i := 6) nd rfl (.inl rfl) (pe_op op_cat (pe_lc (own := [("_law_k", 8)]) (g := gName 8) (tt := tYes) rfl nd (pi_range1 (by rfl) B.range (pa_cons pe_int pa_nil)) (blkOk_by (N := nLaw) (sc := defScope sLaw) (by decide +kernel))
            (fun _ _ _ _ _ => pg_name (i := 8) nd rfl (Or.inl rfl)) (fun _ _ _ _ _ => pts_nil)
            (fun _ _ _ _ _ => pe_cl cCh hr (by decide) (by rfl) pass0 (pa_cons (pv 0) (pa_cons (pe_op op_add pe_int (pv 8)) (pa_cons (pv 3) pa_nil)))))
          (pe_lst (pa_cons (pe_op op_add_str (pv 3) pe_str) (pa_cons (pe_op op_add_str pe_str (pv 3)) (pa_cons pe_str (pa_cons pe_str (pa_cons pe_str (pa_cons pe_str pa_nil)))))))))
      (pss_cons (ps_set (i := 6) nd rfl (.inl rfl) (pe_op op_cat (pv 6) (pe_lst (pa_cons pe_str (pa_cons pe_str (pa_cons pe_str (pa_cons pe_str (pa_cons pe_str (pa_cons pe_str (pa_cons pe_str (pa_cons pe_str (pa_cons pe_str (pa_cons (pe_op op_add_str (pv 3) pe_str) pa_nil)))))))))))))
      (pss_cons (ps_for PassesOwn.never rfl (pi_list (pv 6)) (pg_name (i := 7) nd rfl (.inl rfl))
        (pss_one (ps_if (pt_not (pt_val (pe_cl cRight hr (by decide) (by rfl) pass0 (pa_cons (pv 7) pa_nil)))) (pss_one (ps_ret pe_bl)) pss_nil)))
      (pss_one (ps_ret (pe_and (pe_cl cEq hr (by decide) (by rfl) pass0 (pa_cons (pe_cmpR (op_eqG (rcG_ins FE G.eE G.eF bE pass0) hr2) (pe_callK0 FR hr7 (by rfl) mR TR.kp (read_kb TR) passF (pk_cons (pv 3) pk_nil)) (pv 4) (nomark _)) (pa_cons pe_bl pa_nil)))
        (pe_one (pe_cl cEq hr (by decide) (by rfl) pass0 (pa_cons (pe_cmpR (op_eqG (rcG_ins FE G.eE G.eF bE pass0) hr2)
          (pe_make G.made FI hr6 (by rfl) G.gC bI .nil pass0 (pa_cons (pe_ix ix_tup (pv 2) pe_int (fun _ _ => rfl)) (pa_cons (pe_ix ix_tup (pv 2) pe_int (fun _ _ => rfl)) pa_nil)))
          (pe_call FR hr7 (by rfl) mR TR.kp bR .nil passF (pa_cons (pv 3) pa_nil)) (nomark _)) (pa_cons pe_bl pa_nil)))))))))))))), ?_⟩
    have one_le : ∀ {m n : Nat}, m ≤ n → n ≤ 16777216 → m ≤ sizeLine := fun h1 h2 => line_of (Nat.le_trans h1 h2)
    -- the size, the pair, its text
    refine ⟨.ref a, rfl, a, ns, 0, rfl, hS, hl, by decide, fun H1 n s1 n2 n8 => ?_⟩
    refine ⟨.ref a, rfl, .int (n : Int), rfl, a, ns, 1, n, rfl, s1.seq hS, hl, by decide, n2, by omega, fun H2 p xs ohs s2 hP hp => ?_⟩
    refine ⟨.ref p, rfl, p, xs, ohs, n, rfl, hP, hp, by omega, fun H3 s3 => ?_⟩
    replace hP := hP.same s3
    have sH3 := (s1.trans s2).trans s3
    have ht := gtext_length hp n8
    obtain ⟨okL, eqx, eqo⟩ := reads_gtext hp
    generalize hT : gtext xs ohs = t at ht okL eqx eqo
    have tz : t.length ≤ sizeLine := line_of (by omega)
    obtain ⟨pa, pb, h1, h2, h3⟩ := hP
    -- the grid
    refine ⟨.ref p, rfl, p, _, 0, .ref pa, rfl, rfl, SqT.of h1, atI_nat (j := 0) rfl, .ref p, rfl, p, _, 1, .ref pb, rfl, rfl, SqT.of h1, atI_nat (j := 1) rfl, fun g dg ng nd0 _ => ?_⟩
    refine init_at2 (.inr ⟨h2, h3⟩) hp (by omega) ng nd0 fun H4 s34 hG => ⟨rfl, ?_⟩
    have s4 := sH3.trans s34
    have hP : PairAt H4 p xs ohs := PairAt.same s34 ⟨pa, pb, h1, h2, h3⟩
    clear h1 h2 h3
    -- the two looks
    refine ⟨(2 : Int), rfl, by decide, by decide, ?_⟩
    refine for_any (n := 2) (fun i σ H' => ∃ y5, σ = [some (.ref a), some (.int (n : Int)), some (.ref p), some (.str t), some (.ref g), y5, none, none, none] ∧ Same H4 H') ⟨none, rfl, Same.refl _⟩
      (fun i σ H' hi hP => by
        show i < (2 : Int).toNat
        exact hi) (fun σ H' hP => by
        show (2 : Int).toNat ≤ 2
        decide) (fun i σ H' x H'' hi hP' hy => ?_) (fun σ H' hP' => ?_)
    · obtain ⟨y5, rfl, sm⟩ := hP'
      obtain ⟨rfl, rfl⟩ := hy
      obtain ⟨dx, r1, r2, k1, k2, k3⟩ := hG.same sm
      refine ⟨.ref g, rfl, g, dx, _, rfl, k1, g, xs, ohs, n, rfl, hG.same sm, hp, by omega, fun H6 s6 => ⟨⟨_, rfl⟩, .str t, rfl, ?_⟩⟩
      rw [hT]
      refine ⟨_, _, rfl, EqD.scal rfl, true, rfl, ?_⟩
      refine iteF ?_
      refine ⟨.str t, rfl, t, rfl, by omega, fun _ H7 d1 q1 s7 e7 hq7 => ?_, fun nlaw => (nlaw okL).elim⟩
      rw [← eqx, ← eqo] at hq7
      have sm7 := (sm.trans s6).trans s7
      refine ⟨.ref p, rfl, (show 2 ≤ sizeLine from line_of (by decide)), fun d2 nd2 => ?_⟩
      refine ⟨_, _, rfl, EqD.value (z := Str.ofString "value") (at_new e7 nd2) upd_same (hq7.same (same_new nd2)) ((hP.same sm7).same (same_new nd2)) (by rw [hp.lx]; omega) (by rw [hp.lo]; omega), true, rfl, ?_⟩
      refine iteF ?_
      exact ⟨_, rfl, snew sm7 nd2⟩
    obtain ⟨y5, rfl, s5⟩ := hP'
    -- the other texts
    refine ⟨(5 : Int), rfl, by decide, by decide, fun D hD => ?_⟩
    refine lc_any (tt := tYes) (n := 5) (fun i H'' => ∃ zs : List Str, Same H' H'' ∧ H'' D = some (.lst (zs.map V.str)) ∧ zs.length = i ∧ ∀ z ∈ zs, z.length ≤ 900) ⟨[], same_new hD, upd_same, rfl, fun z hz => by simp at hz⟩
      (fun i H'' hi hP => by
        show i < (5 : Int).toNat
        exact hi) (fun H'' hP => by
        show (5 : Int).toNat ≤ 5
        decide) (fun i H2' x H3' hi hP'' hy => ?_) (fun H2' hP'' => ?_)
    · obtain ⟨zs, sm, eD, hzl, hz⟩ := hP''
      obtain ⟨rfl, rfl⟩ := hy
      refine ⟨rfl, yesI ?_⟩
      refine ⟨.ref a, rfl, .int (0 + (i : Int)), rfl, 2, _, rfl, rfl, .str t, rfl, a, ns, 2 + i, xs, ohs, n, ?_, ((s4.trans s5).trans sm).seq hS, hl, by omega, hp, n8, fun H5' z s5' hzz => ?_⟩
      · dsimp only
        rw [Int.zero_add, hT]
        rfl
      · refine ⟨_, s5' _ _ eD, ?_, zs ++ [z], swr (sm.trans s5') hD, ?_, ?_, ?_⟩
        · rw [List.length_map, hzl]
          exact line_lt (by omega)
        · rw [upd_same, List.map_append]
          rfl
        · rw [List.length_append, hzl]
          rfl
        · intro y hy
          rcases List.mem_append.mp hy with hy | hy
          · exact hz y hy
          · rw [List.mem_singleton.mp hy]
            exact hzz
    obtain ⟨zs, sm, eD, hzl, hz⟩ := hP''
    have c1 : (t ++ Str.ofString "\n").length ≤ 73 := cat_le ht len_nl
    have c2 : (Str.ofString "\n" ++ t).length ≤ 73 := Nat.le_trans (cat_le len_nl ht) (by decide)
    have c3 : (t ++ Str.ofString " ").length ≤ 73 := cat_le ht len_sp
    refine ⟨.str t, rfl, t, Str.ofString "\n", rfl, rfl, one_le (Nat.add_le_add ht len_nl) (by decide), .str t, rfl, Str.ofString "\n", t, rfl, rfl, one_le (Nat.add_le_add len_nl ht) (by decide), (show 6 ≤ sizeLine from line_of (by decide)), fun l1 nl1 => ⟨D, l1, _, _, rfl, rfl, at_new eD nl1, upd_same, ?_, fun o1 no1 => ?_⟩⟩
    · rw [List.length_map, hzl]
      exact (show 5 + 6 ≤ sizeLine from line_of (by decide))
    refine ⟨.ref o1, rfl, .str t, rfl, t, Str.ofString " ", rfl, rfl, one_le (Nat.add_le_add ht len_sp) (by decide), (show 10 ≤ sizeLine from line_of (by decide)), fun l2 nl2 => ⟨o1, l2, _, _, rfl, rfl, at_new upd_same nl2, upd_same, ?_, fun o2 no2 => ?_⟩⟩
    · rw [List.length_append, List.length_map, hzl]
      exact (show 5 + 6 + 10 ≤ sizeLine from line_of (by decide))
    obtain ⟨ws, ews, hws⟩ : ∃ ws : List Str, (zs.map V.str ++ [V.str (t ++ Str.ofString "\n"), V.str (Str.ofString "\n" ++ t), V.str (Str.ofString ""), V.str (Str.ofString "XO\nOX"), V.str (Str.ofString "OX\nXO"), V.str (Str.ofString "XO\nXO")]) ++
        [V.str (Str.ofString "X"), V.str (Str.ofString "O"), V.str (Str.ofString "XO"), V.str (Str.ofString "..\n.."), V.str (Str.ofString "XX\nOO"), V.str (Str.ofString "xo\nox"), V.str (Str.ofString "XO\n\nOX"), V.str (Str.ofString "XO.\n.XO\nO.X"), V.str (Str.ofString "XO.\nO.X\n.XO"), V.str (t ++ Str.ofString " ")] = ws.map V.str ∧ ∀ z ∈ ws, z.length ≤ 900 := by
      refine ⟨(zs ++ [t ++ Str.ofString "\n", Str.ofString "\n" ++ t, Str.ofString "", Str.ofString "XO\nOX", Str.ofString "OX\nXO", Str.ofString "XO\nXO"]) ++
        [Str.ofString "X", Str.ofString "O", Str.ofString "XO", Str.ofString "..\n..", Str.ofString "XX\nOO", Str.ofString "xo\nox", Str.ofString "XO\n\nOX", Str.ofString "XO.\n.XO\nO.X", Str.ofString "XO.\nO.X\n.XO", t ++ Str.ofString " "], ?_, ?_⟩
      · rw [List.map_append, List.map_append]
        rfl
      · exact le900_app (le900_app hz (le900_cons (by omega) (le900_cons (by omega) (le900_cons (by decide +kernel) (le900_cons (by decide +kernel) (le900_cons (by decide +kernel) (le900_cons (by decide +kernel) le900_nil)))))))
          (le900_cons (by decide +kernel) (le900_cons (by decide +kernel) (le900_cons (by decide +kernel) (le900_cons (by decide +kernel) (le900_cons (by decide +kernel) (le900_cons (by decide +kernel) (le900_cons (by decide +kernel) (le900_cons (by decide +kernel) (le900_cons (by decide +kernel) (le900_cons (by omega) le900_nil))))))))))
    have s6 := snew (o := .lst (ws.map V.str)) (snew (snew (snew (s5.trans sm) nl1) no1) nl2) no2
    rw [ews]
    refine ⟨.ref o2, rfl, o2, rfl, ⟨_, SqL.of upd_same⟩, ?_⟩
    have wk := wk_list (K := K) (a := o2) (xs := ws.map V.str)
    refine for_any (n := ws.length) (fun i σ H' => ∃ y7, σ = [some (.ref a), some (.int (n : Int)), some (.ref p), some (.str t), some (.ref g), y5, some (.ref o2), y7, none] ∧ Same H4 H' ∧ H' o2 = some (.lst (ws.map V.str))) ⟨none, rfl, s6, upd_same⟩
      (fun i σ H' hi hP => by
        obtain ⟨_, _, _, e⟩ := hP
        exact wk.go i _ (by rw [List.length_map]; exact hi) (SqL.of e)) (fun σ H' hP => by
        obtain ⟨_, _, _, e⟩ := hP
        have q := wk.st _ (SqL.of e)
        rw [List.length_map] at q
        exact q) (fun i σ H' x H'' hi hP' hy => ?_) (fun σ H' hP' => ?_)
    · obtain ⟨y7, rfl, sm, e⟩ := hP'
      obtain ⟨rfl, ex⟩ := wk.yd i _ x H'' (SqL.of e) hy
      obtain ⟨z, hzi, rfl⟩ : ∃ z, ws[i]? = some z ∧ x = V.str z := by
        rw [List.getElem?_map] at ex
        cases h : ws[i]? with
        | none =>
          rw [h] at ex
          cases ex
        | some z =>
          rw [h] at ex
          exact ⟨z, rfl, (Option.some.inj ex).symm⟩
      refine ⟨.str z, rfl, z, rfl, hws z (List.mem_of_getElem? hzi), fun H7 s7 => ⟨true, rfl, ?_⟩⟩
      refine iteF ?_
      exact ⟨_, rfl, sm.trans s7, s7 _ _ e⟩
    obtain ⟨y7, rfl, s7, _⟩ := hP'
    -- the grid again
    refine ⟨.str t, rfl, t, rfl, by omega, fun _ H8 g8 s8 hg8 => ?_, fun nlaw => (nlaw okL).elim⟩
    rw [← eqx, ← eqo] at hg8
    have hG8 := hG.same (s7.trans s8)
    refine ⟨.ref g, rfl, ?_⟩
    have dins : ∀ {H : Hp} {u v : Addr}, GridAt C H u xs ohs → GridAt C H v xs ohs → DIns C (SameG C) (.ref u) (.ref v) H := fun {H u v} hu hv => by
      have hu0 := hu
      have hv0 := hv
      obtain ⟨d1, _, _, k1, _⟩ := hu0
      obtain ⟨d2, _, _, k2, _⟩ := hv0
      exact ⟨u, v, d1, d2, _, _, rfl, rfl, k1, k2, xs, ohs, hu, hv⟩
    refine ⟨dins hg8 hG8, fun H9 s9 => ?_⟩
    refine ⟨_, _, rfl, EqD.scal rfl, true, rfl, ?_⟩
    refine iteT ?_
    have s9' : Same H4 H9 := (s7.trans s8).trans s9
    obtain ⟨pa', pb', h1, h2, h3⟩ := hP.same s9'
    refine ⟨.ref p, rfl, p, _, 0, .ref pa', rfl, rfl, SqT.of h1, atI_nat (j := 0) rfl, .ref p, rfl, p, _, 1, .ref pb', rfl, rfl, SqT.of h1, atI_nat (j := 1) rfl, fun g2 dg2 ng2 nd2 _ => ?_⟩
    refine init_at2 (.inr ⟨h2, h3⟩) hp (by omega) ng2 nd2 fun H10 s10 hG10 => ⟨rfl, ?_⟩
    refine ⟨.str t, rfl, t, rfl, by omega, fun _ H11 g11 s11 hg11 => ?_, fun nlaw => (nlaw okL).elim⟩
    rw [← eqx, ← eqo] at hg11
    refine ⟨dins (hG10.same s11) hg11, fun H12 s12 => ?_⟩
    exact ⟨_, _, rfl, EqD.scal rfl, q _⟩
end
end GK
/-! The end. -/
namespace GK
open PySem PySem.Spec PyProof.Rows L2
theorem kit_self {K : PySem.W.Frag} {C : Addr} : PySem.W.kitOne K (.ref C) (.ref C) = some true := by
  unfold PySem.W.kitOne
  rw [if_pos (beq_self_eq_true _)]
theorem along_of {K : PySem.W.Frag} {nm q name : Str} {C N : Addr} {bs bm : List Value} {hdct ab : Bool} {sn : List Str} {sub : List Value} {col : Option Bool} {dd : Option Addr} {k0 k1 k2 k3 k5 : Option Value} {mk : String} {r : Option (Option Value)}
    (l : K.lookup C = some (excClassObj nm q C N bs bm hdct sn sub ab col dd k0 k1 k2 k3 k5 mk)) (f : PySem.W.findIn K (.ref C) name = r) : PySem.W.alongIn K name (.ref C :: bm) = r := by
  unfold PySem.W.findIn at f
  dsimp only at f
  rw [l] at f
  exact f
theorem all_mk {P : Program} {w : World} {K : PySem.W.Frag} {h : Heap} {mg : Str → Option Value} {fa f0 f1 f2 f3 f4 f5 f6 f7 f8 f9 f10 f11 f12 f13 f14 f15 f16 f17 C fI fE fS Ce kn fX cc cda N N2 : Addr} (X : K.In h) (G : h.Ns mainGlobals mg) (hfa : mg "law" = some (.ref fa))
    {od0 an0 od1 an1 od2 an2 od3 an3 od4 an4 od5 an5 od6 an6 od7 an7 od8 an8 od9 an9 od10 an10 od11 an11 od12 an12 od13 an13 od14 an14 od15 an15 od16 an16 od17 an17 odfI anfI odfE anfE odfS anfS odX anX dd cdd celd dd2 : Option Addr} {sl0 sl1 sl2 sl3 sl4 sl5 sl6 sl7 sl8 sl9 sl10 sl11 sl12 sl13 sl14 sl15 sl16 sl17 slfI slfE slfS slX ccs celS : Array (Option Value)} {oc0 kV0 dc0 pm0 cd0 ct0 oc1 kV1 dc1 pm1 cd1 ct1 oc2 kV2 dc2 pm2 cd2 ct2 oc3 kV3 dc3 pm3 cd3 ct3 oc4 kV4 dc4 pm4 cd4 ct4 oc5 kV5 dc5 pm5 cd5 ct5 oc6 kV6 dc6 pm6 cd6 ct6 oc7 kV7 dc7 pm7 cd7 ct7 oc8 kV8 dc8 pm8 cd8 ct8 oc9 kV9 dc9 pm9 cd9 ct9 oc10 kV10 dc10 pm10 cd10 ct10 oc11 kV11 dc11 pm11 cd11 ct11 oc12 kV12 dc12 pm12 cd12 ct12 oc13 kV13 dc13 pm13 cd13 ct13 oc14 kV14 dc14 pm14 cd14 ct14 oc15 kV15 dc15 pm15 cd15 ct15 oc16 kV16 dc16 pm16 cd16 ct16 oc17 kV17 dc17 pm17 cd17 ct17 ocfI kVfI dcfI pmfI cdfI ctfI ocfE kVfE dcfE pmfE cdfE ctfE ocfS kVfS dcfS pmfS cdfS ctfS ocX dcX pmX ctX ccl cel : Value}
    {nm q nm2 q2 file : Str} {bs bs2 : List Value} {sn sn2 : List Str} {sub sub2 : List Value} {ab ab2 hd2 : Bool} {col col2 : Option Bool} {m0 m1 m2 m3 m5 p0 p1 p2 p3 p5 : Option Value} {mk2 : String} {cvs : Array Value} {tf t0 t1 t2 t3 : Tok}
    (a0 : PySem.W.nsIn K mainGlobals "is_integer" = some (some (.ref f0)))
    (l0 : K.lookup f0 = some ⟨oc0, od0, .func (PySem.W.fnOf "is_integer" "is_integer" (defArgs sIsInt) (defBody sIsInt) (defScope sIsInt) .none kV0 dc0 pm0 an0 cd0 ct0), sl0⟩)
    (c0 : PySem.W.codeIn K cd0 "is_integer" = true)
    (k0 : PySem.W.keepIn K (.ref f0) = true)
    (a1 : PySem.W.nsIn K mainGlobals "is_place_below" = some (some (.ref f1)))
    (l1 : K.lookup f1 = some ⟨oc1, od1, .func (PySem.W.fnOf "is_place_below" "is_place_below" (defArgs sPlace) (defBody sPlace) (defScope sPlace) .none kV1 dc1 pm1 an1 cd1 ct1), sl1⟩)
    (c1 : PySem.W.codeIn K cd1 "is_place_below" = true)
    (k1 : PySem.W.keepIn K (.ref f1) = true)
    (a2 : PySem.W.nsIn K mainGlobals "is_rows" = some (some (.ref f2)))
    (l2 : K.lookup f2 = some ⟨oc2, od2, .func (PySem.W.fnOf "is_rows" "is_rows" (defArgs sRows) (defBody sRows) (defScope sRows) .none kV2 dc2 pm2 an2 cd2 ct2), sl2⟩)
    (c2 : PySem.W.codeIn K cd2 "is_rows" = true)
    (k2 : PySem.W.keepIn K (.ref f2) = true)
    (a3 : PySem.W.nsIn K mainGlobals "is_pair_of_grid" = some (some (.ref f3)))
    (l3 : K.lookup f3 = some ⟨oc3, od3, .func (PySem.W.fnOf "is_pair_of_grid" "is_pair_of_grid" (defArgs sPair) (defBody sPair) (defScope sPair) .none kV3 dc3 pm3 an3 cd3 ct3), sl3⟩)
    (c3 : PySem.W.codeIn K cd3 "is_pair_of_grid" = true)
    (k3 : PySem.W.keepIn K (.ref f3) = true)
    (a4 : PySem.W.nsIn K mainGlobals "row_text" = some (some (.ref f4)))
    (l4 : K.lookup f4 = some ⟨oc4, od4, .func (PySem.W.fnOf "row_text" "row_text" (defArgs sRowText) (defBody sRowText) (defScope sRowText) .none kV4 dc4 pm4 an4 cd4 ct4), sl4⟩)
    (c4 : PySem.W.codeIn K cd4 "row_text" = true)
    (k4 : PySem.W.keepIn K (.ref f4) = true)
    (a5 : PySem.W.nsIn K mainGlobals "read_grid" = some (some (.ref f5)))
    (l5 : K.lookup f5 = some ⟨oc5, od5, .func (PySem.W.fnOf "read_grid" "read_grid" (defArgs sRead) (defBody sRead) (defScope sRead) .none kV5 dc5 pm5 an5 cd5 ct5), sl5⟩)
    (c5 : PySem.W.codeIn K cd5 "read_grid" = true)
    (k5 : PySem.W.keepIn K (.ref f5) = true)
    (a6 : PySem.W.nsIn K mainGlobals "_law_draws" = some (some (.ref f6)))
    (l6 : K.lookup f6 = some ⟨oc6, od6, .func (PySem.W.fnOf "_law_draws" "_law_draws" (defArgs sDraws) (defBody sDraws) (defScope sDraws) .none kV6 dc6 pm6 an6 cd6 ct6), sl6⟩)
    (c6 : PySem.W.codeIn K cd6 "_law_draws" = true)
    (k6 : PySem.W.keepIn K (.ref f6) = true)
    (a7 : PySem.W.nsIn K mainGlobals "_law_equal" = some (some (.ref f7)))
    (l7 : K.lookup f7 = some ⟨oc7, od7, .func (PySem.W.fnOf "_law_equal" "_law_equal" (defArgs sEqual) (defBody sEqual) (defScope sEqual) .none kV7 dc7 pm7 an7 cd7 ct7), sl7⟩)
    (c7 : PySem.W.codeIn K cd7 "_law_equal" = true)
    (k7 : PySem.W.keepIn K (.ref f7) = true)
    (a8 : PySem.W.nsIn K mainGlobals "_law_order" = some (some (.ref f8)))
    (l8 : K.lookup f8 = some ⟨oc8, od8, .func (PySem.W.fnOf "_law_order" "_law_order" (defArgs sOrder) (defBody sOrder) (defScope sOrder) .none kV8 dc8 pm8 an8 cd8 ct8), sl8⟩)
    (c8 : PySem.W.codeIn K cd8 "_law_order" = true)
    (k8 : PySem.W.keepIn K (.ref f8) = true)
    (a9 : PySem.W.nsIn K mainGlobals "_law_grid" = some (some (.ref f9)))
    (l9 : K.lookup f9 = some ⟨oc9, od9, .func (PySem.W.fnOf "_law_grid" "_law_grid" (defArgs sLGrid) (defBody sLGrid) (defScope sLGrid) .none kV9 dc9 pm9 an9 cd9 ct9), sl9⟩)
    (c9 : PySem.W.codeIn K cd9 "_law_grid" = true)
    (k9 : PySem.W.keepIn K (.ref f9) = true)
    (a10 : PySem.W.nsIn K mainGlobals "_law_size" = some (some (.ref f10)))
    (l10 : K.lookup f10 = some ⟨oc10, od10, .func (PySem.W.fnOf "_law_size" "_law_size" (defArgs sSize) (defBody sSize) (defScope sSize) .none kV10 dc10 pm10 an10 cd10 ct10), sl10⟩)
    (c10 : PySem.W.codeIn K cd10 "_law_size" = true)
    (k10 : PySem.W.keepIn K (.ref f10) = true)
    (a11 : PySem.W.nsIn K mainGlobals "_law_text" = some (some (.ref f11)))
    (l11 : K.lookup f11 = some ⟨oc11, od11, .func (PySem.W.fnOf "_law_text" "_law_text" (defArgs sText) (defBody sText) (defScope sText) .none kV11 dc11 pm11 an11 cd11 ct11), sl11⟩)
    (c11 : PySem.W.codeIn K cd11 "_law_text" = true)
    (k11 : PySem.W.keepIn K (.ref f11) = true)
    (a12 : PySem.W.nsIn K mainGlobals "_law_marked" = some (some (.ref f12)))
    (l12 : K.lookup f12 = some ⟨oc12, od12, .func (PySem.W.fnOf "_law_marked" "_law_marked" (defArgs sMarked) (defBody sMarked) (defScope sMarked) .none kV12 dc12 pm12 an12 cd12 ct12), sl12⟩)
    (c12 : PySem.W.codeIn K cd12 "_law_marked" = true)
    (k12 : PySem.W.keepIn K (.ref f12) = true)
    (a13 : PySem.W.nsIn K mainGlobals "_law_read" = some (some (.ref f13)))
    (l13 : K.lookup f13 = some ⟨oc13, od13, .func (PySem.W.fnOf "_law_read" "_law_read" (defArgs sLRead) (defBody sLRead) (defScope sLRead) .none kV13 dc13 pm13 an13 cd13 ct13), sl13⟩)
    (c13 : PySem.W.codeIn K cd13 "_law_read" = true)
    (k13 : PySem.W.keepIn K (.ref f13) = true)
    (a14 : PySem.W.nsIn K mainGlobals "_law_told" = some (some (.ref f14)))
    (l14 : K.lookup f14 = some ⟨oc14, od14, .func (PySem.W.fnOf "_law_told" "_law_told" (defArgs sTold) (defBody sTold) (defScope sTold) .none kV14 dc14 pm14 an14 cd14 ct14), sl14⟩)
    (c14 : PySem.W.codeIn K cd14 "_law_told" = true)
    (k14 : PySem.W.keepIn K (.ref f14) = true)
    (a15 : PySem.W.nsIn K mainGlobals "_law_is_right" = some (some (.ref f15)))
    (l15 : K.lookup f15 = some ⟨oc15, od15, .func (PySem.W.fnOf "_law_is_right" "_law_is_right" (defArgs sRight) (defBody sRight) (defScope sRight) .none kV15 dc15 pm15 an15 cd15 ct15), sl15⟩)
    (c15 : PySem.W.codeIn K cd15 "_law_is_right" = true)
    (k15 : PySem.W.keepIn K (.ref f15) = true)
    (a16 : PySem.W.nsIn K mainGlobals "_law_changed" = some (some (.ref f16)))
    (l16 : K.lookup f16 = some ⟨oc16, od16, .func (PySem.W.fnOf "_law_changed" "_law_changed" (defArgs sChanged) (defBody sChanged) (defScope sChanged) .none kV16 dc16 pm16 an16 cd16 ct16), sl16⟩)
    (c16 : PySem.W.codeIn K cd16 "_law_changed" = true)
    (k16 : PySem.W.keepIn K (.ref f16) = true)
    (a17 : PySem.W.nsIn K mainGlobals "law" = some (some (.ref f17)))
    (l17 : K.lookup f17 = some ⟨oc17, od17, .func (PySem.W.fnOf "law" "law" (defArgs sLaw) (defBody sLaw) (defScope sLaw) .none kV17 dc17 pm17 an17 cd17 ct17), sl17⟩)
    (c17 : PySem.W.codeIn K cd17 "law" = true)
    (k17 : PySem.W.keepIn K (.ref f17) = true)
    (gC : PySem.W.nsIn K mainGlobals "Grid" = some (some (.ref C)))
    (gpg : PySem.W.plainGet K C Str.empty = true)
    (ghd : PySem.W.hasDictIn K C = true)
    (gpo : PySem.W.plainOver K C = true)
    (gsa : PySem.W.findIn K (.ref C) "__setattr__" = some (some (.builtin "object.__setattr__")))
    (gmk : PySem.W.makesIn K C = true)
    (gkp : PySem.W.keepIn K (.ref C) = true)
    (gnx : PySem.W.findIn K (.ref C) "xs" = some none)
    (gno : PySem.W.findIn K (.ref C) "ohs" = some none)
    (mfI : PySem.W.findIn K (.ref C) "__init__" = some (some (.ref fI)))
    (ifI : PySem.W.isFn K (.ref fI) = true)
    (lfI : K.lookup fI = some ⟨ocfI, odfI, .func (PySem.W.fnOf "__init__" "Grid.__init__" (defArgs sInit) (defBody sInit) (defScope sInit) .none kVfI dcfI pmfI anfI cdfI ctfI), slfI⟩)
    (cfI : PySem.W.codeIn K cdfI "Grid.__init__" = true)
    (kfI : PySem.W.keepIn K (.ref fI) = true)
    (mfE : PySem.W.findIn K (.ref C) "__eq__" = some (some (.ref fE)))
    (ifE : PySem.W.isFn K (.ref fE) = true)
    (lfE : K.lookup fE = some ⟨ocfE, odfE, .func (PySem.W.fnOf "__eq__" "Grid.__eq__" (defArgs sEq) (defBody sEq) (defScope sEq) .none kVfE dcfE pmfE anfE cdfE ctfE), slfE⟩)
    (cfE : PySem.W.codeIn K cdfE "Grid.__eq__" = true)
    (kfE : PySem.W.keepIn K (.ref fE) = true)
    (mfS : PySem.W.findIn K (.ref C) "__str__" = some (some (.ref fS)))
    (ifS : PySem.W.isFn K (.ref fS) = true)
    (lfS : K.lookup fS = some ⟨ocfS, odfS, .func (PySem.W.fnOf "__str__" "Grid.__str__" (defArgs sStr) (defBody sStr) (defScope sStr) .none kVfS dcfS pmfS anfS cdfS ctfS), slfS⟩)
    (cfS : PySem.W.codeIn K cdfS "Grid.__str__" = true)
    (kfS : PySem.W.keepIn K (.ref fS) = true)
    (gha : PySem.W.findIn K (.ref C) "__class__" = some (some (.builtin "object.__class__")))
    (ghn : PySem.W.specialIn K (.builtin "object.__class__") "__get__" = some (some (.builtin "getset_descriptor.__get__")))
    (ght : PySem.W.takesIn K (.builtin "object.__class__") = some true)
    (ghm : PySem.W.mroIn K C (.type "object") = some true)
    (eC : PySem.W.nsIn K mainGlobals "InvalidText" = some (some (.ref Ce)))
    (eL : K.lookup Ce = some (excClassObj nm q Ce N bs [.ref kn, .type "ValueError", .type "Exception", .type "BaseException", .type "object"] true sn sub ab col dd m0 m1 m2 m3 m5 "ValueError.__new__"))
    (kL : K.lookup kn = some (excClassObj nm2 q2 kn N2 bs2 [.type "ValueError", .type "Exception", .type "BaseException", .type "object"] hd2 sn2 sub2 ab2 col2 dd2 p0 p1 p2 p3 p5 mk2))
    (kf : PySem.W.findIn K (.ref kn) "__init__" = some (some (.builtin "ValueError.__init__")))
    (eop : PySem.W.nsIn K cStatics "thirdparty.any" = some none)
    (es0 : PySem.W.subIn K (.ref Ce) (.type "ValueError") = some true)
    (esC : PySem.W.mroIn K Ce (.ref Ce) = some true)
    (esa : PySem.W.findIn K (.ref Ce) "__setattr__" = some (some (.builtin "object.__setattr__")))
    (ega : PySem.W.findIn K (.ref Ce) "__getattribute__" = some (some (.builtin "BaseException.__getattribute__")))
    (egg : PySem.W.findIn K (.ref Ce) "__getattr__" = some none)
    (enT : PySem.W.findIn K (.ref Ce) "text" = some none)
    (enA : PySem.W.findIn K (.ref Ce) "at" = some none)
    (eiC : PySem.W.findIn K (.ref Ce) "__init__" = some (some (.ref fX)))
    (etI : PySem.W.typeIn K (.ref fX) = some (.type "function"))
    (ekC : PySem.W.keepIn K (.ref Ce) = true)
    (exC : PySem.W.subIn K (.ref Ce) (.type "BaseException") = some true)
    (ety : PySem.W.typeIn K (.ref Ce) = some (.type "type"))
    (ehd : PySem.W.hasDictIn K Ce = true)
    (ete : PySem.W.subIn K (.ref Ce) (.ref Ce) = some true)
    (efn : K.lookup fX = some ⟨ocX, odX, .func (PySem.W.ksFn "__init__" "InvalidText.__init__" (defArgs sErr) (defBody sErr) (defScope sErr) .none .none dcX pmX anX (.ref cda) ctX cc), slX⟩)
    (eco : PySem.W.codeIn K (.ref cda) "InvalidText.__init__" = true)
    (ecl : K.lookup cda = some ⟨ccl, cdd, .fields cvs, ccs⟩)
    (ecv : cvs[2]? = some (.str file tf))
    (ecf : ((P.main.file : Str) == file) = true)
    (etp : (P.main.scope.names.lookup ("super" : Str)).isSome = false)
    (ece : K.lookup cc = some ⟨cel, celd, .cell (some (.ref Ce)), celS⟩)
    (z_isinstance : PySem.W.nsIn K mainGlobals "isinstance" = some none)
    (z_int : PySem.W.nsIn K mainGlobals "int" = some none)
    (z_bool : PySem.W.nsIn K mainGlobals "bool" = some none)
    (z_str : PySem.W.nsIn K mainGlobals "str" = some none)
    (z_list : PySem.W.nsIn K mainGlobals "list" = some none)
    (z_tuple : PySem.W.nsIn K mainGlobals "tuple" = some none)
    (z_len : PySem.W.nsIn K mainGlobals "len" = some none)
    (z_all : PySem.W.nsIn K mainGlobals "all" = some none)
    (z_zip : PySem.W.nsIn K mainGlobals "zip" = some none)
    (z_range : PySem.W.nsIn K mainGlobals "range" = some none)
    (z_max : PySem.W.nsIn K mainGlobals "max" = some none)
    (z_super : PySem.W.nsIn K mainGlobals "super" = some none)
    (n_least : PySem.W.nsIn K mainGlobals "LEAST_SIZE" = some (some (.int 2 t0)))
    (n_cross : PySem.W.nsIn K mainGlobals "CROSS" = some (some (.str sX t1)))
    (n_ring : PySem.W.nsIn K mainGlobals "RING" = some (some (.str sO t2)))
    (n_noth : PySem.W.nsIn K mainGlobals "NOTHING" = some (some (.str sD t3))) :
    ∃ fd : FuncData, (∀ (s : Shared) (v : Value), BindsTo s fd ⟨[v], []⟩ [("_law_script", v)]) ∧ ∀ base : Heap, K.In base → base.Ns mainGlobals mg → FnOk P w K mg base CX0 10 fa fd ["_law_script"] (spLaw K) := by
  have e := hfa.symm.trans (PySem.W.mg_of X G a17)
  cases e
  have F0 := fun_mk (st := sIsInt) l0 c0 k0
  have b0 := F0.binds (ps := ["value"]) fun _ _ _ _ _ _ us hl => match us, hl with | [_], _ => rfl
  have g0 := PySem.W.mg_of X G a0
  have F1 := fun_mk (st := sPlace) l1 c1 k1
  have b1 := F1.binds (ps := ["value", "most"]) fun _ _ _ _ _ _ us hl => match us, hl with | [_, _], _ => rfl
  have g1 := PySem.W.mg_of X G a1
  have F2 := fun_mk (st := sRows) l2 c2 k2
  have b2 := F2.binds (ps := ["value", "n"]) fun _ _ _ _ _ _ us hl => match us, hl with | [_, _], _ => rfl
  have g2 := PySem.W.mg_of X G a2
  have F3 := fun_mk (st := sPair) l3 c3 k3
  have b3 := F3.binds (ps := ["xs", "ohs"]) fun _ _ _ _ _ _ us hl => match us, hl with | [_, _], _ => rfl
  have g3 := PySem.W.mg_of X G a3
  have F4 := fun_mk (st := sRowText) l4 c4 k4
  have b4 := F4.binds (ps := ["grid", "r"]) fun _ _ _ _ _ _ us hl => match us, hl with | [_, _], _ => rfl
  have g4 := PySem.W.mg_of X G a4
  have F5 := fun_mk (st := sRead) l5 c5 k5
  have b5 := F5.binds (ps := ["text"]) fun _ _ _ _ _ _ us hl => match us, hl with | [_], _ => rfl
  have g5 := PySem.W.mg_of X G a5
  have F6 := fun_mk (st := sDraws) l6 c6 k6
  have b6 := F6.binds (ps := ["_law_script", "_law_k", "_law_bounds"]) fun _ _ _ _ _ _ us hl => match us, hl with | [_, _, _], _ => rfl
  have g6 := PySem.W.mg_of X G a6
  have F7 := fun_mk (st := sEqual) l7 c7 k7
  have b7 := F7.binds (ps := ["_law_actual", "_law_expected"]) fun _ _ _ _ _ _ us hl => match us, hl with | [_, _], _ => rfl
  have g7 := PySem.W.mg_of X G a7
  have F8 := fun_mk (st := sOrder) l8 c8 k8
  have b8 := F8.binds (ps := ["_law_number", "_law_size_here"]) fun _ _ _ _ _ _ us hl => match us, hl with | [_, _], _ => rfl
  have g8 := PySem.W.mg_of X G a8
  have F9 := fun_mk (st := sLGrid) l9 c9 k9
  have b9 := F9.binds (ps := ["_law_script", "_law_k", "_law_size_here"]) fun _ _ _ _ _ _ us hl => match us, hl with | [_, _, _], _ => rfl
  have g9 := PySem.W.mg_of X G a9
  have F10 := fun_mk (st := sSize) l10 c10 k10
  have b10 := F10.binds (ps := ["_law_script", "_law_k"]) fun _ _ _ _ _ _ us hl => match us, hl with | [_, _], _ => rfl
  have g10 := PySem.W.mg_of X G a10
  have F11 := fun_mk (st := sText) l11 c11 k11
  have b11 := F11.binds (ps := ["_law_pair"]) fun _ _ _ _ _ _ us hl => match us, hl with | [_], _ => rfl
  have g11 := PySem.W.mg_of X G a11
  have F12 := fun_mk (st := sMarked) l12 c12 k12
  have b12 := F12.binds (ps := ["_law_lines", "_law_mark"]) fun _ _ _ _ _ _ us hl => match us, hl with | [_, _], _ => rfl
  have g12 := PySem.W.mg_of X G a12
  have F13 := fun_mk (st := sLRead) l13 c13 k13
  have b13 := F13.binds (ps := ["_law_text_here"]) fun _ _ _ _ _ _ us hl => match us, hl with | [_], _ => rfl
  have g13 := PySem.W.mg_of X G a13
  have F14 := fun_mk (st := sTold) l14 c14 k14
  have b14 := F14.binds (ps := ["_law_text_here"]) fun _ _ _ _ _ _ us hl => match us, hl with | [_], _ => rfl
  have g14 := PySem.W.mg_of X G a14
  have F15 := fun_mk (st := sRight) l15 c15 k15
  have b15 := F15.binds (ps := ["_law_text_here"]) fun _ _ _ _ _ _ us hl => match us, hl with | [_], _ => rfl
  have g15 := PySem.W.mg_of X G a15
  have F16 := fun_mk (st := sChanged) l16 c16 k16
  have b16 := F16.binds (ps := ["_law_script", "_law_k", "_law_text_here"]) fun _ _ _ _ _ _ us hl => match us, hl with | [_, _, _], _ => rfl
  have g16 := PySem.W.mg_of X G a16
  have F17 := fun_mk (st := sLaw) l17 c17 k17
  have b17 := F17.binds (ps := ["_law_script"]) fun _ _ _ _ _ _ us hl => match us, hl with | [_], _ => rfl
  have g17 := PySem.W.mg_of X G a17
  have FfI := fun_mk (st := sInit) lfI cfI kfI
  have bfI := FfI.binds (ps := ["self", "xs", "ohs"]) fun _ _ _ _ _ _ us hl => match us, hl with | [_, _, _], _ => rfl
  have FfE := fun_mk (st := sEq) lfE cfE kfE
  have bfE := FfE.binds (ps := ["self", "other"]) fun _ _ _ _ _ _ us hl => match us, hl with | [_, _], _ => rfl
  have FfS := fun_mk (st := sStr) lfS cfS kfS
  have bfS := FfS.binds (ps := ["self"]) fun _ _ _ _ _ _ us hl => match us, hl with | [_], _ => rfl
  have B : Gb mg := ⟨PySem.W.mg_none_of X G z_isinstance, PySem.W.mg_none_of X G z_int, PySem.W.mg_none_of X G z_bool, PySem.W.mg_none_of X G z_str, PySem.W.mg_none_of X G z_list, PySem.W.mg_none_of X G z_tuple, PySem.W.mg_none_of X G z_len, PySem.W.mg_none_of X G z_all, PySem.W.mg_none_of X G z_zip, PySem.W.mg_none_of X G z_range, PySem.W.mg_none_of X G z_max, ⟨_, PySem.W.mg_of X G n_least⟩, ⟨_, PySem.W.mg_of X G n_cross⟩, ⟨_, PySem.W.mg_of X G n_ring⟩, ⟨_, PySem.W.mg_of X G n_noth⟩⟩
  have T : GridTxt K mg C fI fE fS := { gC := PySem.W.mg_of X G gC, cl := ⟨gpg, ghd, gpo, gsa⟩, made := ⟨gmk, mfI, ifI, gkp⟩, nx := gnx, no := gno, eE := mfE, eF := ifE, sE := mfS, sF := ifS, ha := gha, hn := ghn, htk := ght, hm := ghm, kit := kit_self }
  have U : ErrTxt P K mg Ce fX cc cda := { gC := PySem.W.mg_of X G eC, gs := PySem.W.mg_none_of X G z_super, cls := ⟨_, _, _, _, _, _, _, _, _, _, _, _, _, _, _, eL, rfl, along_of kL kf⟩, opq := eop, sub0 := es0, subC := esC, sa := esa, ga := ega, gg := egg, noT := enT, noA := enA, iC := eiC, tI := etI, kC := ekC, exC := exC, tyC := ety, hdC := ehd, te := PySem.W.exm_ref exC ehd ety ete, fn := ⟨_, _, _, _, _, _, _, efn⟩, code := eco, codeO := ⟨_, _, _, _, _, _, ecl, ecv, ecf⟩, top := etp, cell := ⟨_, _, _, ece⟩ }
  refine ⟨PySem.W.fnOf "law" "law" (defArgs sLaw) (defBody sLaw) (defScope sLaw) .none kV17 dc17 pm17 an17 cd17 ct17, fun s v => ?_, fun base _ _ => ?_⟩
  rotate_left
  have G0 := ok_isint (P := P) (w := w) (mg := mg) (base := base) F0 B
  have G1 := ok_place (P := P) (w := w) (mg := mg) (base := base) F1 ⟨_, _, G0, g0, F0.kp, b0⟩
  have G2 := ok_rows (P := P) (w := w) (mg := mg) (base := base) F2 B ⟨_, _, G1, g1, F1.kp, b1⟩
  have G3 := ok_pair (P := P) (w := w) (mg := mg) (base := base) F3 B ⟨_, _, G2, g2, F2.kp, b2⟩
  have G4 := ok_rowtext (P := P) (w := w) (mg := mg) (base := base) F4 B T
  have GI := ok_init (P := P) (w := w) (mg := mg) (base := base) FfI B T ⟨_, _, G3, g3, F3.kp, b3⟩
  have GE := ok_eq (P := P) (w := w) (mg := mg) (base := base) FfE B T
  have GS := ok_str (P := P) (w := w) (mg := mg) (base := base) FfS B T ⟨_, _, G4, g4, F4.kp, b4⟩
  have G5 := ok_read (P := P) (w := w) (mg := mg) (base := base) F5 B T U GI bfI
  have G6 := ok_draws (P := P) (w := w) (mg := mg) (base := base) F6 B
  have G7 := ok_equal (P := P) (w := w) (mg := mg) (base := base) F7 B g7 b7 4
  have G8 := ok_order (P := P) (w := w) (mg := mg) (base := base) F8 B
  have G9 := ok_lgrid (P := P) (w := w) (mg := mg) (base := base) F9 B ⟨_, _, G6, g6, F6.kp, b6⟩ ⟨_, _, G8, g8, F8.kp, b8⟩
  have G10 := ok_size (P := P) (w := w) (mg := mg) (base := base) F10 ⟨_, _, G6, g6, F6.kp, b6⟩
  have G11 := ok_ltext (P := P) (w := w) (mg := mg) (base := base) F11 B
  have G12 := ok_marked (P := P) (w := w) (mg := mg) (base := base) F12 B
  have G13 := ok_lread (P := P) (w := w) (mg := mg) (base := base) F13 B ⟨_, _, G12, g12, F12.kp, b12⟩
  have G14 := ok_told (P := P) (w := w) (mg := mg) (base := base) F14 B T U ⟨_, _, G5, g5, F5.kp, b5⟩
  have G15 := ok_right (P := P) (w := w) (mg := mg) (base := base) F15 B ⟨_, _, G13, g13, F13.kp, b13⟩ ⟨_, _, G14, g14, F14.kp, b14⟩ ⟨_, _, G7, g7, F7.kp, b7⟩
  have G16 := ok_changed (P := P) (w := w) (mg := mg) (base := base) F16 B ⟨_, _, G6, g6, F6.kp, b6⟩
  exact ok_law F17 B T GI bfI GE bfE GS bfS G5 F5 g5 b5 ⟨_, _, G10, g10, F10.kp, b10⟩ ⟨_, _, G9, g9, F9.kp, b9⟩ ⟨_, _, G11, g11, F11.kp, b11⟩ ⟨_, _, G7, g7, F7.kp, b7⟩ ⟨_, _, G14, g14, F14.kp, b14⟩ ⟨_, _, G16, g16, F16.kp, b16⟩ ⟨_, _, G15, g15, F15.kp, b15⟩
  exact .of_eq rfl
end GK
open PySem PySem.W PyProof.Rows
set_option maxRecDepth 100000 in
set_option maxHeartbeats 0 in
theorem PySem.Challenge.cw_gridknot_k04_texts_of_grids_holds : PySem.Challenge.rw_gridknot_k04_texts_of_grids.Holds := by
  w_on; o_law; k_head; (case hw => w_witness2)
  k_fill
  refine L2.walk_of (l := PySem.Challenge.rw_gridknot_k04_texts_of_grids) (n := 63) (k := 10) (x := "_law_script") (CX := fun _ => L2.CX0) (sp := fun w => GK.spLaw _) rfl (by decide) rfl ⟨rfl, by decide, by decide⟩ (fun w h Y => PySem.W.kIn_of Y) ?F (fun _ _ a ns hl _ hS => ⟨a, ns, rfl, hS, hl, fun _ => rfl⟩) (fun _ _ _ _ _ h => h)
  case F =>
    intro w mg fa h KX G hmg
    refine' GK.all_mk KX G hmg ?a0 ?l0 ?c0 ?k0 ?a1 ?l1 ?c1 ?k1 ?a2 ?l2 ?c2 ?k2 ?a3 ?l3 ?c3 ?k3 ?a4 ?l4 ?c4 ?k4 ?a5 ?l5 ?c5 ?k5 ?a6 ?l6 ?c6 ?k6 ?a7 ?l7 ?c7 ?k7 ?a8 ?l8 ?c8 ?k8 ?a9 ?l9 ?c9 ?k9 ?a10 ?l10 ?c10 ?k10 ?a11 ?l11 ?c11 ?k11 ?a12 ?l12 ?c12 ?k12 ?a13 ?l13 ?c13 ?k13 ?a14 ?l14 ?c14 ?k14 ?a15 ?l15 ?c15 ?k15 ?a16 ?l16 ?c16 ?k16 ?a17 ?l17 ?c17 ?k17 ?gC ?gpg ?ghd ?gpo ?gsa ?gmk ?gkp ?gnx ?gno ?mfI ?ifI ?lfI ?cfI ?kfI ?mfE ?ifE ?lfE ?cfE ?kfE ?mfS ?ifS ?lfS ?cfS ?kfS ?gha ?ghn ?ght ?ghm ?eC ?eL ?kL ?kf ?eop ?es0 ?esC ?esa ?ega ?egg ?enT ?enA ?eiC ?etI ?ekC ?exC ?ety ?ehd ?ete ?efn ?eco ?ecl ?ecv ?ecf ?etp ?ece ?z_isinstance ?z_int ?z_bool ?z_str ?z_list ?z_tuple ?z_len ?z_all ?z_zip ?z_range ?z_max ?z_super ?n_least ?n_cross ?n_ring ?n_noth
    case a0 => k_is
    case l0 => k_is
    case c0 => k_is
    case k0 => k_is
    case a1 => k_is
    case l1 => k_is
    case c1 => k_is
    case k1 => k_is
    case a2 => k_is
    case l2 => k_is
    case c2 => k_is
    case k2 => k_is
    case a3 => k_is
    case l3 => k_is
    case c3 => k_is
    case k3 => k_is
    case a4 => k_is
    case l4 => k_is
    case c4 => k_is
    case k4 => k_is
    case a5 => k_is
    case l5 => k_is
    case c5 => k_is
    case k5 => k_is
    case a6 => k_is
    case l6 => k_is
    case c6 => k_is
    case k6 => k_is
    case a7 => k_is
    case l7 => k_is
    case c7 => k_is
    case k7 => k_is
    case a8 => k_is
    case l8 => k_is
    case c8 => k_is
    case k8 => k_is
    case a9 => k_is
    case l9 => k_is
    case c9 => k_is
    case k9 => k_is
    case a10 => k_is
    case l10 => k_is
    case c10 => k_is
    case k10 => k_is
    case a11 => k_is
    case l11 => k_is
    case c11 => k_is
    case k11 => k_is
    case a12 => k_is
    case l12 => k_is
    case c12 => k_is
    case k12 => k_is
    case a13 => k_is
    case l13 => k_is
    case c13 => k_is
    case k13 => k_is
    case a14 => k_is
    case l14 => k_is
    case c14 => k_is
    case k14 => k_is
    case a15 => k_is
    case l15 => k_is
    case c15 => k_is
    case k15 => k_is
    case a16 => k_is
    case l16 => k_is
    case c16 => k_is
    case k16 => k_is
    case a17 => k_is
    case l17 => k_is
    case c17 => k_is
    case k17 => k_is
    case gC => k_is
    case gpg => k_is
    case ghd => k_is
    case gpo => k_is
    case gsa => k_is
    case gmk => k_is
    case gkp => k_is
    case gnx => k_is
    case gno => k_is
    case mfI => k_is
    case ifI => k_is
    case lfI => k_is
    case cfI => k_is
    case kfI => k_is
    case mfE => k_is
    case ifE => k_is
    case lfE => k_is
    case cfE => k_is
    case kfE => k_is
    case mfS => k_is
    case ifS => k_is
    case lfS => k_is
    case cfS => k_is
    case kfS => k_is
    case gha => k_is
    case ghn => k_is
    case ght => k_is
    case ghm => k_is
    case eC => k_is
    case eL => k_is
    case kL => k_is
    case kf => k_is
    case eop => k_is
    case es0 => k_is
    case esC => k_is
    case esa => k_is
    case ega => k_is
    case egg => k_is
    case enT => k_is
    case enA => k_is
    case eiC => k_is
    case etI => k_is
    case ekC => k_is
    case exC => k_is
    case ety => k_is
    case ehd => k_is
    case ete => k_is
    case efn => k_is
    case eco => k_is
    case ecl => k_is
    case ecv => first | rfl | k_is
    case ecf => first | rfl | k_is
    case etp => first | rfl | k_is
    case ece => k_is
    case z_isinstance => k_is
    case z_int => k_is
    case z_bool => k_is
    case z_str => k_is
    case z_list => k_is
    case z_tuple => k_is
    case z_len => k_is
    case z_all => k_is
    case z_zip => k_is
    case z_range => k_is
    case z_max => k_is
    case z_super => k_is
    case n_least => k_is
    case n_cross => k_is
    case n_ring => k_is
    case n_noth => k_is
