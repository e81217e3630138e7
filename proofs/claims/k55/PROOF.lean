import PyProof.Rows.All
import Wide.All
import OpenK.AllK
import Wide.FinOn
import PyProof.EqAt
import PyProof.EqKinds
import PyProof.TupleCall
import HandS.Base
import HandS.Call
import HandS.List
import HandS.Comp
import HandS.Text
import HandS.More
import HandS.Exc
import HandS.ExcOwn
import KE.KIsAll
import HandS.ExcInit
import HandS.IsInst
import HandS.Words
import HandS.WordsList
import HandS.WordsExc
import HandS.Wide
import HandS.Ends
import HandS.Walk
import HandS.Deep
import HandS.ExcIs
import KE.Datum
import KE.DatumMore
import HandS.Replace
import HandS.ReplaceDef
import HandS.ReplaceLit
import HandS.ForMost
import HandS.Style
import PySem.Challenge.RW_valvelevels_k55_polynomials_that_are_non
set_option Elab.async false
set_option linter.all false
set_option maxRecDepth 100000
set_option maxHeartbeats 2000000
/-! VLBase: rules of our own, over the hand layer, that no law's text is asked for. -/
namespace L2
open PySem PySem.Spec PyProof.Rows
/-! ### powers of great bases -/
def CPowW (i j : Int) : Prop := 0 ≤ j ∧ j ≤ 64 ∧ i.natAbs.log2 < 100000
section
variable {X : Cx}
theorem op_powW : OpR X (binaryOp .Pow) (rI CPowW fun i j => .int (i ^ j.toNat)) := opI fun i j _ _ _ _ _ hc q => by
  obtain ⟨h0, h1, h2⟩ := hc
  refine pow_int h0 ?_ q
  have b : Builtin.Int.intBits i ≤ i.natAbs.log2 + 1 := by
    unfold Builtin.Int.intBits
    split <;> omega
  have b2 : (Builtin.Int.intBits i : Int) ≤ 100000 := by omega
  have b3 : (Builtin.Int.intBits i : Int) * j ≤ 100000 * 64 := Int.mul_le_mul b2 h1 h0 (by decide)
  exact Int.le_trans b3 (by decide)
end
/-! ### z[::-1] -/
def revS (z : Str) : Str := ⟨z.cps.toList.reverse.toArray⟩
theorem revS_len (z : Str) : (revS z).length = z.length := by
  show z.cps.toList.reverse.toArray.size = z.cps.size
  simp
theorem revS_pick (z : Str) : (Builtin.Str.strSliceIndices none none (-1) z.length).filterMap (z.cps[·]?) = z.cps.toList.reverse := by
  have e : Builtin.Str.strSliceIndices none none (-1) z.length = sliceRange ((z.length : Int) - 1) (-1) (-1) := rfl
  rw [e, PySem.W.krv_sliceRange, PySem.W.krv_range, List.filterMap_reverse]
  exact congrArg List.reverse (PySem.W.krv_all z.cps)
def tRevS (te : TE) : TE := fun σ H Q => te σ H fun x H1 => ∃ z, x = .str z ∧ z.length ≤ sizeLine ∧ Q (.str (revS z)) H1
section
variable {X : Cx}
theorem pe_revS {e : Expr} {te : TE} {k : Nat} {p1 p2 p3 pos : Pos} (he : PE X e te) : PE X (.Subscript e (.Slice none none (some (.UnaryOp .USub (.Constant (.int 1) k p1) p2)) p3) pos) (tRevS te) := by
  refine ⟨fun pins s σ H Q I h => ?_⟩
  refine Subscript_ (thn (he.run pins s σ H _ I h) fun v s1 ⟨x, H1, I1, r1, q1⟩ => ?_)
  obtain ⟨z, ex, hz, q⟩ := q1
  subst ex
  obtain ⟨t, rfl⟩ := r1
  have hst : PO X (some (.UnaryOp .USub (.Constant (.int 1) k p1) p2)) (tPart (tUn (rU fun i => .int (-i)) (tC (.int 1)))) := po_some (pe_un un_neg pe_int)
  refine wpAny_Slice (thn (po_none.run pins s1 σ H1 (fun o H2 => o = none ∧ H2 = H1) I1 ⟨rfl, rfl⟩) fun vl s2 ⟨l, H2, I2, pl, el, e2⟩ => ?_)
  subst el e2
  refine thn (po_none.run pins s2 σ H2 (fun o H3 => o = none ∧ H3 = H2) I2 ⟨rfl, rfl⟩) fun vu s3 ⟨u, H3, I3, pu, eu, e3⟩ => ?_
  subst eu e3
  refine thn (hst.run pins s3 σ H3 (fun o H4 => o = some (-1) ∧ H4 = H3) I3 ⟨1, rfl, -1, rfl, rfl, rfl⟩) fun vs s4 ⟨o, H4, I4, ps, eo, e4⟩ => ?_
  subst eo e4
  have I5 : Inv X pins σ H4 { s4 with heap := s4.heap.push { cls := .type "slice", data := .fields #[vl, vu, vs] } } := I4.kept (t' := s4.toks) fun b ob q => Heap.get?_push_of_some _ q
  obtain ⟨l', rfl, el⟩ := IsPart.raw pl
  obtain ⟨u', rfl, eu⟩ := IsPart.raw pu
  obtain ⟨st', rfl, es⟩ := IsPart.raw ps
  show wpAny (model X.prog X.w) X.A (subscriptTail e (.Slice none none (some (.UnaryOp .USub (.Constant (.int 1) k p1) p2)) p3) (.str z t) (.ref s4.heap.objs.size)) (EP X pins σ Q) X.xe { s4 with heap := s4.heap.push { cls := .type "slice", data := .fields #[partValue l', partValue u', partValue st'] } }
  refine tail_any (ops := [.ref s4.heap.objs.size, .str z t]) (typeIs_str _ _ _) F.slot_str_getitem.lookup ?_ (by with_unfolding_all rfl)
  refine wpAny_getItem_str_slice (l := l') (u := u') (st := st') ⟨_, Heap.get?_push_size _ rfl, rfl, rfl⟩ (by rw [es]; rfl) ?_
  have em : sliceMade z t l' u' st' = .str (revS z) := by
    unfold sliceMade slicePicked
    rw [es, el, eu]
    show (if ((-1 : Int) == 1 && (Builtin.Str.strSliceIndices none none (-1) z.length).length == z.length) = true then Made.val (.str z t) else Made.str ⟨((Builtin.Str.strSliceIndices none none (-1) z.length).filterMap (z.cps[·]?)).toArray⟩) = _
    rw [if_neg (by rw [show ((-1 : Int) == 1) = false from rfl, Bool.false_and]; exact Bool.false_ne_true), revS_pick]
    rfl
  rw [em]
  exact ⟨by rw [revS_len]; exact hz, .str _, H4, I5.tok _, ⟨_, rfl⟩, q⟩
end
/-! ### f(k = v), f may raise, wished for at the caller's slots -/
section
variable {X : Cx} {CX : CXT} {k : Nat} {f : Addr} {fd : FuncData} {ps ks : List Str} {sp : Sp} {E : St → XK} {x : Str} {p pos : Pos} {kws : List Keyword} {tk t : TA} {e : Expr} {es : List Expr} {g : List Value → List Value → List Value} {gV : List V → List V → List V}
theorem run_fnkS {pins : List (Addr × Obj)} {σ : St} {H : Hp} {s : Shared} {Q : VK} {us ws : List Value} {vs zs : List V} (F : FnOk X.prog X.w X.K X.mg X.base CX k f fd ps sp) (hr : Room k X.A) (hb : KBinds X.K fd ps ks g gV) (hx : PassesAt CX X σ (E σ))
    (I : Inv X pins σ H s) (r : Vals vs us) (rz : Vals zs ws) (h : sp (gV vs zs) H Q (E σ)) : wpAny (model X.prog X.w) X.A (call (.ref f) us (ks.zip ws)) (EP X pins σ Q) X.xe s := by
  have r2 := hb.rel r rz
  have hl : (g us ws).length = ps.length := by rw [← r2.length]; exact F.len _ _ _ _ h
  refine wpAny_call (codeAny_mono (F.run X.A X.stack s H ⟨us, ks.zip ws⟩ (g us ws) (gV vs zs) Q (E σ) hr I.env0 (hb.to s us ws I.kIn hl) r2 h) fun r s' hq => ?_)
  cases r with
  | error e => exact hx pins H s e s' I hq
  | ok fl =>
    cases fl with
    | ret u => exact I.after hq
    | next => exact False.elim hq
    | brk => exact False.elim hq
    | cont => exact False.elim hq
def tCallKS0 (sp : Sp) (gV : List V → List V → List V) (E : St → XK) (tk : TA) : TE := fun σ H Q => tk σ H fun zs H2 => sp (gV [] zs) H2 Q (E σ)
theorem pe_callKS0 (F : FnOk X.prog X.w X.K X.mg X.base CX k f fd ps sp) (hr : Room k X.A) (hg : Gl X x) (hm : X.mg x = some (.ref f)) (hk : PySem.W.keepIn X.K (.ref f) = true) (hb : KBinds X.K fd ps ks g gV) (hx : ∀ σ, PassesAt CX X σ (E σ))
    (hkw : PK X kws tk) (hall : (backToKw pos (keywordEach kws X.env)).all (·.1.isSome) = true := by rfl) (hks : (backToKw pos (keywordEach kws X.env)).filterMap (·.1) = ks := by rfl)
    (hdb : (x == ("__debug__" : Str)) = false := by decide)
    (hpl : ((backTo pos (starEach [] X.env)).any (·.1) || (backToKw pos (keywordEach kws X.env)).any (·.1.isNone)) = false := by rfl) :
    PE X (.Call (.Name x p) [] kws pos) (tCallKS0 sp gV E tk) := by
  refine ⟨fun pins s σ H Q I h => ?_⟩
  refine wpAny_Call_Name_kw (ld_glob I hg hm ?_ hdb)
  refine PySem.W.callWith_KW0 (h₀ := X.base) I.ok.mod.kin hk hall ?_ hpl
  refine thn (hkw.run pos pins s σ H _ I h) fun ws s2 ⟨zs, H2, I2, rz, q2⟩ => ⟨I2.kIn, ?_⟩
  rw [hks]
  exact run_fnkS (us := []) (vs := []) F hr hb (hx σ) I2 .nil rz q2
end
end L2

set_option Elab.async false
set_option linter.all false
set_option maxRecDepth 100000
set_option maxHeartbeats 4000000
/-! VLExc: isinstance of a caught error that has fields of its own. -/
namespace PySem.W
open PySem PySem.Spec PySem.Calls PyProof.Rows
section
variable {prog : Program} {w : World} {A : Around} {E : Value → Shared → Prop} {s : Shared} {K : Frag} {x D : Addr} {ox : Obj} {od : Option Obj}
theorem vl_findObj {C : Addr} {name : Str} {a g : Value} (hc : (clsIn K C).isSome = true) (ha : findIn K (.ref C) name = some (some a)) (hg : specialIn K a "__get__" = some (some g)) (ht : takesIn K a = some true) : findObj K C od name = some (.bind g a) := by
  cases e : clsIn K C with
  | none => rw [e] at hc; cases hc
  | some cd =>
    unfold findObj
    simp [e, ha, hg, ht]
/-- the class of such an error, asked by its attribute -/
theorem vl_classOf {Q : Option Value → Shared → Prop} (h1 : findIn K (.ref D) "__getattribute__" = some (some (.builtin "BaseException.__getattribute__"))) (h2 : findIn K (.ref D) "__getattr__" = some none) (h3 : subIn K (.ref D) (.type "BaseException") = some true)
    (h4 : hasDictIn K D = true) (h5 : findIn K (.ref D) "__class__" = some (some (.builtin "object.__class__")))
    (h6 : specialIn K (.builtin "object.__class__") "__get__" = some (some (.builtin "getset_descriptor.__get__"))) (h7 : takesIn K (.builtin "object.__class__") = some true) (h8 : mroIn K D (.type "object") = some true)
    (X : K.In s.heap) (I : InstAt s.heap x ox D od) (fin : Q (some (.ref D)) { s with toks := s.toks + 1 }) : wpAny (model prog w) A (getAttr? (.ref x) "__class__") Q E s := by
  have hf : findObj K D od "__class__" = some (.bind (.builtin "getset_descriptor.__get__") (.builtin "object.__class__")) := vl_findObj (by obtain ⟨cd, hc, _⟩ := any_some h4; rw [hc]; rfl) h5 h6 h7
  obtain ⟨hp, g, d, t, os⟩ := s
  have T0 := I.type (M := model prog w)
  have T1 := looks_findIn (M := model prog w) X h1
  have T2 := looks_findIn (M := model prog w) X h2
  have T3 := looks_find (M := model prog w) X I hf
  have sub : Looks (model prog w) hp (isInstance (.ref x) (.type "BaseException")) true := T0.andThen (looks_subIn X h3)
  unfold getAttr? getAttrBy? getAttrBy
  refine wpAny_bind (wpAny_mkText (wpAny_bind (wpAny_attempt (wpAny_holding (wpAny_bind (T0.at (wpAny_bind (T1.at ?_))))))))
  show wpAny _ _ (if (onTheHeap (Value.ref D) && Value.builtin "BaseException.__getattribute__" == Value.builtin "object.__getattribute__") = true then _ else _) _ _ _
  rw [show (onTheHeap (Value.ref D) && Value.builtin "BaseException.__getattribute__" == Value.builtin "object.__getattribute__") = false by rw [show (Value.builtin "BaseException.__getattribute__" == Value.builtin "object.__getattribute__") = false by decide +kernel, Bool.and_false], if_neg Bool.false_ne_true]
  unfold getAttrByItsOwn hookBefore
  refine wpAny_bind ?_
  rw [if_pos (show onTheHeap (Value.ref D) = true from rfl)]
  refine T2.at ?_
  refine wpAny_bind (wpAny_attempt (wpAny_holding ?_))
  unfold callGetattribute
  rw [show (false && onTheHeap (Value.builtin "BaseException.__getattribute__")) = false from rfl, if_neg Bool.false_ne_true]
  unfold boundAndCalled
  rw [PySem.F.excAttr_ValueError.ga.bind (.ref x)]
  refine wpAny_bind (wpAny_pure ?_)
  show wpAny _ _ (call (.builtin "BaseException.__getattribute__") [.ref x, .str "__class__" t]) _ _ _
  refine wpAny_call (codeAny_call_builtin PySem.F.excAttr_ValueError.ga.plain PySem.F.entry_bexc_ga ?_)
  refine @check_slot (model prog w) _ _ ⟨hp, g, d, t + 1, os⟩ "BaseException.__getattribute__" "BaseException" "__getattribute__" (.ref x) [.str "__class__" t] [] _ (by decide +kernel) (by decide +kernel) sub (PySem.F.args_bexc_ga (.ref x) (.str "__class__" t)) ?_
  unfold Builtin.«object.__getattribute__»
  refine wpAny_bind (wpAny_of_eq (a := ((Value.ref x : Value), [Value.str "__class__" t])) (by first | rfl | (simp only [slotArgs]; rfl)) ?_)
  refine wpAny_bind (wpAny_pure (wpAny_bind (T0.at (wpAny_bind (T3.at ?_)))))
  show wpAny _ _ (holding [Value.builtin "object.__class__"] (call (.builtin "getset_descriptor.__get__") [.builtin "object.__class__", .ref x, .ref D]) >>= ret) _ _ _
  refine wpAny_bind (wpAny_holding (wpAny_call (class_get (s := ⟨hp, g, d, t + 1, os⟩) (ox := ox) (od := od) X I h8 ?_)))
  refine wpAny_pure ?_
  show wpAny _ _ (handedOut (.ref D)) _ _ _
  rw [handedOut_of (v := .ref D) rfl]
  first
    | exact wpAny_pure (wpAny_pure fin)
    | exact wpAny_pure fin
    | exact wpAny_pure (wpAny_bind (wpAny_pure (wpAny_pure fin)))
theorem vl_kitx (h1 : findIn K (.ref D) "__getattribute__" = some (some (.builtin "BaseException.__getattribute__"))) (h2 : findIn K (.ref D) "__getattr__" = some none) (h3 : subIn K (.ref D) (.type "BaseException") = some true) (h4 : hasDictIn K D = true) (h5 : findIn K (.ref D) "__class__" = some (some (.builtin "object.__class__")))
    (h6 : specialIn K (.builtin "object.__class__") "__get__" = some (some (.builtin "getset_descriptor.__get__"))) (h7 : takesIn K (.builtin "object.__class__") = some true) (h8 : mroIn K D (.type "object") = some true) :
    KitX K (.ref x) (.ref D) (fun h => InstAt h x ox D od) := by
  obtain ⟨cd, hc, _⟩ := any_some h4
  have look : ∃ c' d' cd' sl', K.lookup D = some ⟨c', d', .cls cd', sl'⟩ := by
    unfold clsIn at hc
    split at hc
    · rename_i c' d' cd' sl' ho
      exact ⟨_, _, _, _, ho⟩
    · cases hc
  obtain ⟨c', d', cd', sl', ho⟩ := look
  refine ⟨fun _ _ _ I => I.type, fun _ _ X _ => ?_, fun h tp dd its n sl X htp => ?_, fun X I k => vl_classOf h1 h2 h3 h4 h5 h6 h7 h8 X I k⟩
  · intro A' Q' E' s' k q
    unfold isType loadHead
    exact wpAny_bind (wpAny_loadPart (k _ _ (X _ _ ho)) (wpAny_pure q))
  · refine Bool.eq_false_iff.mpr fun q => ?_
    have e : D = tp := Value.ref.inj (beq_iff_eq.mp q)
    rw [← e, X _ _ ho] at htp
    cases htp
end
end PySem.W
namespace L2
open PySem PySem.Spec PyProof.Rows
/-- what the written part says of an error's class, so that isinstance, fields and clauses go -/
structure VExc (K : PySem.W.Frag) (D : Addr) : Prop where
  h1 : PySem.W.findIn K (.ref D) "__getattribute__" = some (some (.builtin "BaseException.__getattribute__"))
  h2 : PySem.W.findIn K (.ref D) "__getattr__" = some none
  h3 : PySem.W.subIn K (.ref D) (.type "BaseException") = some true
  h4 : PySem.W.hasDictIn K D = true
  h5 : PySem.W.findIn K (.ref D) "__class__" = some (some (.builtin "object.__class__"))
  h6 : PySem.W.specialIn K (.builtin "object.__class__") "__get__" = some (some (.builtin "getset_descriptor.__get__"))
  h7 : PySem.W.takesIn K (.builtin "object.__class__") = some true
  h8 : PySem.W.mroIn K D (.type "object") = some true
theorem inst_exc {X : Cx} {pins : List (Addr × Obj)} {σ : St} {H : Hp} {s : Shared} {a D dd : Addr} {oe : Obj} {pn : List (Addr × Obj)} {fs : List (Str × V)} (hz : Zc (.ref D) (some dd) oe) (hf : ∃ vs, oe.data = .fields vs)
    (I : Inv (X.suite a ((a, oe) :: pn)) pins σ H s) (hd : H dd = some (.xd fs)) : ∃ od, PySem.W.InstAt s.heap a oe D (some od) := by
  obtain ⟨ha, _⟩ := I.pin (a, oe) (List.mem_append_left _ List.mem_cons_self)
  obtain ⟨vs, hv⟩ := hf
  have hx : ObjOk X.prog X.w H s.heap dd (.xd fs) := I.hok dd _ hd
  obtain ⟨mA, hns, hr⟩ := hx
  obtain ⟨od, ho, _⟩ := lookIn_ns hns
  exact ⟨od, ha, hz.1, by unfold PySem.W.notCls; rw [hv] <;> rfl, by rw [hz.2]; exact ho⟩
/-- isinstance(e, c), e the error that the suite holds: its class, its own dict -/
def rIsV (K : PySem.W.Frag) (a : Addr) (cls : Value) (d : Option Addr) : List V → Hp → VK → Prop := fun xs H Q => ∃ (D dd : Addr) (fs : List (Str × V)) (c : V) (cv : Value) (b : Bool), cls = .ref D ∧ d = some dd ∧ VExc K D ∧ H dd = some (.xd fs) ∧
  xs = [.ref a, c] ∧ (∀ u, RelV c u → u = cv) ∧ PySem.W.kitOne K (.ref D) cv = some b ∧ Q (.bl b) H
theorem call_isV {X : Cx} {a : Addr} {oe : Obj} {cls : Value} {d : Option Addr} {pn : List (Addr × Obj)} (hz : Zc cls d oe) (hf : ∃ vs, oe.data = .fields vs) : CallR (X.suite a ((a, oe) :: pn)) (.builtin "isinstance") (rIsV X.K a cls d) := by
  intro pins s σ H xs us Q I r h
  obtain ⟨D, dd, fs, c, cv, b, rfl, rfl, C, hd, rfl, hcv, e, q⟩ := h
  obtain ⟨u1, u2, rfl, r1, r2⟩ := vals2 r
  cases (show u1 = Value.ref a from r1)
  have ec := hcv _ r2
  subst ec
  obtain ⟨od, J⟩ := inst_exc hz hf I hd
  exact PySem.W.kia_one (PySem.W.vl_kitx C.h1 C.h2 C.h3 C.h4 C.h5 C.h6 C.h7 C.h8) I.kIn J e (fun z => nomatch z) fun tk => ⟨.bl b, H, I.kept (t' := tk) fun _ _ z => z, rfl, q⟩
/-- isinstance(e, (c, c2, ..)), the tuple just made -/
def rIsVT (K : PySem.W.Frag) (a : Addr) (cls : Value) (d : Option Addr) : List V → Hp → VK → Prop := fun xs H Q => ∃ (D dd tp : Addr) (fs : List (Str × V)) (cs : List V) (us : List Value) (b : Bool), cls = .ref D ∧ d = some dd ∧ VExc K D ∧ H dd = some (.xd fs) ∧
  xs = [.ref a, .ref tp] ∧ H tp = some (.tup cs) ∧ Paired ClsV cs us ∧ PySem.W.kitAny K (.ref D) us = some b ∧ Q (.bl b) H
theorem call_isVT {X : Cx} {a : Addr} {oe : Obj} {cls : Value} {d : Option Addr} {pn : List (Addr × Obj)} (hz : Zc cls d oe) (hf : ∃ vs, oe.data = .fields vs) : CallR (X.suite a ((a, oe) :: pn)) (.builtin "isinstance") (rIsVT X.K a cls d) := by
  intro pins s σ H xs us Q I r h
  obtain ⟨D, dd, tp, fs, cs, ws, b, rfl, rfl, C, hd, rfl, hT, k, e, q⟩ := h
  obtain ⟨u1, u2, rfl, r1, r2⟩ := vals2 r
  cases (show u1 = Value.ref a from r1)
  cases (show u2 = Value.ref tp from r2)
  obtain ⟨od, J⟩ := inst_exc hz hf I hd
  obtain ⟨_, its, rv, o, g1, g2, n, g3⟩ := (show ObjOk X.prog X.w H s.heap tp (.tup cs) from I.hok tp _ hT)
  have e3 := ClsV.all k rv
  subst e3
  obtain ⟨oc, od', dt, sl⟩ := o
  simp only at g2 g3
  subst g2 g3
  exact PySem.W.kia_tup (PySem.W.vl_kitx C.h1 C.h2 C.h3 C.h4 C.h5 C.h6 C.h7 C.h8) I.kIn J g1 e (fun z => nomatch z) fun tk => ⟨.bl b, H, I.kept (t' := tk) fun _ _ z => z, rfl, q⟩
/-- e.f, e the error that the suite holds -/
def tXv (K : PySem.W.Frag) (a : Addr) (cls : Value) (d : Option Addr) (f : Str) (te : TE) : TE := fun σ H Q => te σ H fun x H1 => x = .ref a ∧ ∃ (C dd : Addr) (fs : List (Str × V)) (v : V), cls = .ref C ∧ VExc K C ∧ PySem.W.findIn K (.ref C) f = some none ∧ d = some dd ∧ H1 dd = some (.xd fs) ∧ fs.lookup f = some v ∧ Q v H1
theorem pe_xv {X : Cx} {a : Addr} {oe : Obj} {cls : Value} {d : Option Addr} {pn : List (Addr × Obj)} {e : Expr} {te : TE} {pos : Pos} {n : Str}
    (hz : Zc cls d oe) (hf : ∃ vs, oe.data = .fields vs) (he : PE (X.suite a ((a, oe) :: pn)) e te) (hb : attributeBase e n X.env (eval e X.env) = eval e X.env := by rfl) :
    PE (X.suite a ((a, oe) :: pn)) (.Attribute e n pos) (tXv X.K a cls d n te) := by
  refine ⟨fun pins s σ H Q I h => ?_⟩
  refine attr_of hb (thn (he.run pins s σ H _ I h) fun u s1 hh => ?_)
  obtain ⟨x, H1, I1, rx, ex, C, dd, fs, v, ec, T, hno, ed, ea, l, q⟩ := hh
  subst ex ec ed
  obtain rfl : u = Value.ref a := rx
  obtain ⟨ha, _⟩ := I1.pin (a, oe) (List.mem_append_left _ List.mem_cons_self)
  obtain ⟨vs, hd⟩ := hf
  have hx : ObjOk X.prog X.w H1 s1.heap dd (.xd fs) := I1.hok dd _ ea
  obtain ⟨mA, hns, hr⟩ := hx
  obtain ⟨od, ho, hl⟩ := lookIn_ns hns
  obtain ⟨u, hu, ru⟩ := RelO.some_of (v := v) (o := mA n) (by rw [← l]; exact hr n)
  have J : PySem.W.InstAt s1.heap a oe C (some od) := ⟨ha, hz.1, by unfold PySem.W.notCls; rw [hd] <;> rfl, by rw [hz.2]; exact ho⟩
  exact HandSPX.exc_get I1.kIn J T.h1 T.h2 T.h3 (PySem.W.findObj_own T.h4 hno rfl (by rw [hl, hu])) (handed_of ru) ⟨v, H1, I1.tok _, ru, q⟩
end L2

set_option Elab.async false
set_option linter.all false
set_option maxRecDepth 100000
set_option maxHeartbeats 2000000
/-! VLDef: short words for the defs of a law's text. -/
namespace L2
open PySem PySem.Spec PyProof.Rows
/-- a def of the text as it stands behind the top -/
structure DefT (K : PySem.W.Frag) (mg : Str → Option Value) (x : Str) (st : Stmt) (ps : List Str) where
  f : Addr
  fd : FuncData
  F : Fun K x x st f fd
  m : mg x = some (.ref f)
  b : Binds K fd ps []
/-- one parameter, given by its name or by its place -/
theorem Fun.kb1 {K : PySem.W.Frag} {x qual p : Str} {st : Stmt} {f : Addr} {fd : FuncData} (F : Fun K x qual st f fd)
    (h : ∀ (kV doc pm : Value) (an : Option Addr) (cdv ct u : Value), bindArgs (PySem.W.fnOf x qual (defArgs st) (defBody st) (defScope st) .none kV doc pm an cdv ct) ⟨[u], []⟩ = pure [(p, u)])
    (hk : ∀ (kV doc pm : Value) (an : Option Addr) (cdv ct u : Value), bindArgs (PySem.W.fnOf x qual (defArgs st) (defBody st) (defScope st) .none kV doc pm an cdv ct) ⟨[], [(p, u)]⟩ = pure [(p, u)]) :
    KBinds K fd [p] [p] (fun us ws => us ++ ws) (fun vs zs => vs ++ zs) := by
  obtain ⟨oc, od, kV, doc, pm, an, cdv, ct, osl, rfl, lk, hcd⟩ := F.ex
  refine ⟨fun s us ws _ hl => ?_, fun r1 r2 => r1.append r2⟩
  cases us with
  | nil =>
    cases ws with
    | nil => cases hl
    | cons u r =>
      cases r with
      | nil => exact .of_eq (hk kV doc pm an cdv ct u)
      | cons u' r' => simp at hl
  | cons u r =>
    have h1 : r = [] ∧ ws = [] := by
      rw [List.length_append, List.length_cons] at hl
      have hl' : r.length + 1 + ws.length = 1 := hl
      exact ⟨List.length_eq_zero_iff.mp (by omega), List.length_eq_zero_iff.mp (by omega)⟩
    obtain ⟨rfl, rfl⟩ := h1
    exact .of_eq (h kV doc pm an cdv ct u)
theorem hu65_of {A : Around} {k : Nat} (hr : Room k A) : A.units + 65 < cLine := by
  have := hr.un
  omega
def KeepBut (a : Addr) (H H' : Hp) : Prop := ∀ b o, b ≠ a → H b = some o → H' b = some o
theorem KeepBut.refl (a : Addr) (H : Hp) : KeepBut a H H := fun _ _ _ h => h
theorem KeepBut.trans {a : Addr} {H H1 H2 : Hp} (x : KeepBut a H H1) (y : KeepBut a H1 H2) : KeepBut a H H2 := fun b o n h => y b o n (x b o n h)
theorem KeepBut.of {a : Addr} {H H' : Hp} (x : Same H H') : KeepBut a H H' := fun b o _ h => x b o h
theorem KeepBut.put {a : Addr} {H H' : Hp} {o : HO} (x : KeepBut a H H') : KeepBut a H (upd H' a o) := fun b u n h => by
  rw [upd_ne n]
  exact x b u n h
theorem Same.new {H H' : Hp} {p : Addr} {o : HO} (x : Same H H') (h : H' p = none) : Same H (upd H' p o) := fun b u e => by
  rw [upd_ne (ne_of_none (x b u e) h)]
  exact x b u e
theorem KeepBut.new {a : Addr} {H H' : Hp} {p : Addr} {o : HO} (x : KeepBut a H H') (h : H' p = none) : KeepBut a H (upd H' p o) := fun b u n e => by
  rw [upd_ne (ne_of_none (x b u n e) h)]
  exact x b u n e
theorem Same.mut {H H' : Hp} {p : Addr} {o : HO} (x : Same H H') (h : H p = none) : Same H (upd H' p o) := fun b u e => by
  rw [upd_ne (ne_of_none e h)]
  exact x b u e
theorem KeepBut.mut {a : Addr} {H H' : Hp} {p : Addr} {o : HO} (x : KeepBut a H H') (h : H p = none) : KeepBut a H (upd H' p o) := fun b u n e => by
  rw [upd_ne (ne_of_none e h)]
  exact x b u n e
theorem Same.none {H H' : Hp} (e : Same H H') {l : Addr} (h : H' l = Option.none) : H l = Option.none := e.free h
theorem KeepBut.none {a : Addr} {H H' : Hp} (e : KeepBut a H H') {l : Addr} {o : HO} (ha : H' a = some o) (h : H' l = Option.none) : H l = Option.none := by
  cases q : H l with
  | none => rfl
  | some o =>
    rw [e l o (fun z => by rw [z, ha] at h; cases h) q] at h
    cases h
/-- a statement, then the rest; Mid holds between them -/
def tMid (t u : TS) : TS := fun D σ H => ∃ Mid : St → Hp → Prop, t { D with nx := Mid } σ H ∧ ∀ σ1 H1, Mid σ1 H1 → u D σ1 H1
theorem pss_mid {X : Cx} {st : Stmt} {sts : List Stmt} {t u : TS} (h1 : PS X st t) (h2 : PSs X sts u) : PSs X (st :: sts) (tMid t u) := by
  refine ⟨fun pins s σ H D I ⟨Mid, hm, hu⟩ => wpAny_execs_cons (thn (h1.run pins s σ H { D with nx := Mid } I hm) fun f s1 q => ?_)⟩
  cases f with
  | next =>
    obtain ⟨σ1, H1, I1, q⟩ := q
    exact h2.run pins s1 σ1 H1 D I1 (hu σ1 H1 q)
  | ret v => exact q
  | brk => exact q
  | cont => exact q
/-- the draws' purse -/
def PurseAt (H : Hp) (a : Addr) (k : Int) : Prop := ∃ p0 p1 p2 : Int, H a = some (.lst [.int p0, .int p1, .int p2]) ∧ 0 ≤ p0 ∧ 0 ≤ p1 ∧ p1 < 10 ^ 25 ∧ 0 ≤ p2 ∧ p2 ≤ k
theorem PurseAt.mono {H : Hp} {a : Addr} {k j : Int} (h : PurseAt H a k) (l : k ≤ j) : PurseAt H a j := by
  obtain ⟨p0, p1, p2, e, h0, h1, h2, h3, h4⟩ := h
  exact ⟨p0, p1, p2, e, h0, h1, h2, h3, by omega⟩
theorem PurseAt.keep {H H' : Hp} {a : Addr} {k : Int} (h : PurseAt H a k) (s : Same H H') : PurseAt H' a k := by
  obtain ⟨p0, p1, p2, e, h⟩ := h
  exact ⟨p0, p1, p2, s _ _ e, h⟩
theorem PurseAt.some {H : Hp} {a : Addr} {k : Int} (h : PurseAt H a k) : ∃ o, H a = some o := by
  obtain ⟨p0, p1, p2, e, h⟩ := h
  exact ⟨_, e⟩
/-- a coin: a number below many, the purse drawn on -/
def spCoin : Sp := fun vs H Q _ => ∃ (a : Addr) (m k : Int), vs = [.ref a, .int m] ∧ PurseAt H a k ∧ k ≤ 1000000 ∧ 1 ≤ m ∧ m < 2 ^ 64 ∧ ∀ (d : Int) (H' : Hp), 0 ≤ d → d < m → PurseAt H' a (k + 1) → KeepBut a H H' → Q (.int d) H'
/-- a new purse of a cell -/
def spPurse (K : PySem.W.Frag) : Sp := fun vs H Q _ => ∃ (a : Addr) (ns : List Int) (j : Nat), vs = [.ref a, .int (j : Int)] ∧ SqL K H a (ns.map V.int) ∧ ∀ (p : Addr) (H' : Hp), H p = none → PurseAt H' p 0 → Same H H' → Q (.ref p) H'
theorem log2_small {n : Int} {k : Nat} (hk : 0 < k) (h0 : 0 ≤ n) (h : n < 2 ^ k) : n.natAbs.log2 < k := by
  refine PySem.Flt.log2_lt_of hk ?_
  have e : ((2 : Int) ^ k) = ((2 ^ k : Nat) : Int) := by simp
  rw [e] at h
  omega
end L2

set_option Elab.async false
set_option linter.all false
set_option maxRecDepth 100000
set_option maxHeartbeats 2000000
/-! VLData: ==, !=, in of nested data by Lean values (Datum), over the hand layer. -/
namespace L2
open PySem PySem.Spec PyProof.Rows PySem.W PySem.SeqAt
def rEqP (K : PySem.W.Frag) : R2 := fun x y H Q => ∃ d e, Dp K H x d ∧ Dp K H y e ∧ d.plain = true ∧ e.plain = true ∧ d.depth ≤ 64 ∧ Q (.bl (PyData.eqv d e)) H
def rNeP (K : PySem.W.Frag) : R2 := fun x y H Q => ∃ d e, Dp K H x d ∧ Dp K H y e ∧ d.plain = true ∧ e.plain = true ∧ d.depth ≤ 64 ∧ Q (.bl (!PyData.eqv d e)) H
def rInP (K : PySem.W.Frag) : R2 := fun x y H Q => ∃ d ds, Dp K H x d ∧ Dp K H y (.list ds) ∧ d.plain = true ∧ PyData.plainAll ds = true ∧ d.depth ≤ 60 ∧ Q (.bl (ds.any fun z => PyData.eqv z d)) H
def rNotInP (K : PySem.W.Frag) : R2 := fun x y H Q => ∃ d ds, Dp K H x d ∧ Dp K H y (.list ds) ∧ d.plain = true ∧ PyData.plainAll ds = true ∧ d.depth ≤ 60 ∧ Q (.bl (!ds.any fun z => PyData.eqv z d)) H
def rInPT (K : PySem.W.Frag) : R2 := fun x y H Q => ∃ d ds, Dp K H x d ∧ Dp K H y (.tuple ds) ∧ d.plain = true ∧ PyData.plainAll ds = true ∧ d.depth ≤ 60 ∧ Q (.bl (ds.any fun z => PyData.eqv z d)) H
section
variable {X : Cx}
theorem op_eqP (hu : X.A.units + 64 < cLine) : OpR X (compareOp .Eq) (rEqP X.K) := by
  intro pins s σ H x y v u Q I rx ry h
  obtain ⟨d, e, hd, he, sd, se, dp, q⟩ := h
  obtain ⟨as, r1⟩ := Dp.reads I d x v hd rx
  obtain ⟨bs, r2⟩ := Dp.reads I e y u he ry
  exact eq_plain r1 r2 sd se (by omega) ⟨.bl _, H, I, rfl, q⟩
theorem op_neP (hu : X.A.units + 64 < cLine) : OpR X (compareOp .NotEq) (rNeP X.K) := by
  intro pins s σ H x y v u Q I rx ry h
  obtain ⟨d, e, hd, he, sd, se, dp, q⟩ := h
  obtain ⟨as, r1⟩ := Dp.reads I d x v hd rx
  obtain ⟨bs, r2⟩ := Dp.reads I e y u he ry
  exact ne_plain r1 r2 sd se (by omega) ⟨.bl _, H, I, rfl, q⟩
theorem op_inP (hu : X.A.units + 64 < cLine) : OpR X (compareOp .In) (rInP X.K) := by
  intro pins s σ H x y v u Q I rx ry h
  obtain ⟨d, ds, hd, he, sd, se, dp, q⟩ := h
  obtain ⟨as, r1⟩ := Dp.reads I d x v hd rx
  obtain ⟨bs, r2⟩ := Dp.reads I (.list ds) y u he ry
  exact in_list_data r2 r1 se sd (by omega) ⟨.bl _, H, I, rfl, q⟩
theorem op_notInP (hu : X.A.units + 64 < cLine) : OpR X (compareOp .NotIn) (rNotInP X.K) := by
  intro pins s σ H x y v u Q I rx ry h
  obtain ⟨d, ds, hd, he, sd, se, dp, q⟩ := h
  obtain ⟨as, r1⟩ := Dp.reads I d x v hd rx
  obtain ⟨bs, r2⟩ := Dp.reads I (.list ds) y u he ry
  exact notIn_list_data r2 r1 se sd (by omega) ⟨.bl _, H, I, rfl, q⟩
theorem op_inPT (hu : X.A.units + 64 < cLine) : OpR X (compareOp .In) (rInPT X.K) := by
  intro pins s σ H x y v u Q I rx ry h
  obtain ⟨d, ds, hd, he, sd, se, dp, q⟩ := h
  obtain ⟨as, r1⟩ := Dp.reads I d x v hd rx
  obtain ⟨bs, r2⟩ := Dp.reads I (.tuple ds) y u he ry
  exact in_tuple_data r2 r1 se sd (by omega) ⟨.bl _, H, I, rfl, q⟩
end
/-- v stands for x -/
def DAt {α : Type} [DecidableEq α] [Datum α] (K : PySem.W.Frag) (H : Hp) (v : V) (x : α) : Prop := Dp K H v (Datum.toD x)
section
variable {α : Type} [DecidableEq α] [Datum α] {K : PySem.W.Frag} {H H' : Hp} {v u : V} {x y : α} {Q : VK}
theorem eqP_of (hx : DAt K H v x) (hy : DAt K H u y) (hd : Datum.depth α ≤ 60) (q : Q (.bl (decide (x = y))) H) : rEqP K v u H Q :=
  ⟨_, _, hx, hy, Datum.plain x, Datum.plain y, Nat.le_trans (Datum.depth_le x) (by omega), by rw [Datum.eqv]; exact q⟩
theorem neP_of (hx : DAt K H v x) (hy : DAt K H u y) (hd : Datum.depth α ≤ 60) (q : Q (.bl (!decide (x = y))) H) : rNeP K v u H Q :=
  ⟨_, _, hx, hy, Datum.plain x, Datum.plain y, Nat.le_trans (Datum.depth_le x) (by omega), by rw [Datum.eqv]; exact q⟩
theorem any_datum (x : α) : ∀ xs : List α, ((xs.map Datum.toD).any fun z => PyData.eqv z (Datum.toD x)) = decide (x ∈ xs)
  | [] => by simp
  | a :: xs => by
    rw [List.map_cons, List.any_cons, any_datum x xs, Datum.eqv, ← Bool.decide_or]
    exact decide_eq_decide.mpr (by rw [List.mem_cons, eq_comm])
theorem any_datum' {x : α} {xs : List α} {b : Bool} (h : b = true ↔ x ∈ xs) : ((xs.map Datum.toD).any fun z => PyData.eqv z (Datum.toD x)) = b := by
  rw [any_datum, Bool.eq_iff_iff, decide_eq_true_iff]
  exact h.symm
theorem inP_of {xs : List α} {b : Bool} (hb : b = true ↔ x ∈ xs) (hx : DAt K H v x) (hy : DAt K H u xs) (hd : Datum.depth α ≤ 59) (q : Q (.bl b) H) : rInP K v u H Q :=
  ⟨_, _, hx, hy, Datum.plain x, plainAll_map xs, Nat.le_trans (Datum.depth_le x) (by omega), by rw [any_datum' hb]; exact q⟩
theorem notInP_of {xs : List α} {b : Bool} (hb : b = true ↔ x ∈ xs) (hx : DAt K H v x) (hy : DAt K H u xs) (hd : Datum.depth α ≤ 59) (q : Q (.bl (!b)) H) : rNotInP K v u H Q :=
  ⟨_, _, hx, hy, Datum.plain x, plainAll_map xs, Nat.le_trans (Datum.depth_le x) (by omega), by rw [any_datum' hb]; exact q⟩
/-! what stands for what -/
theorem da_int {i : Int} : DAt K H (.int i) i := .int i
theorem da_bl {b : Bool} : DAt K H (.bl b) b := .bl b
theorem da_str {z : Str} : DAt K H (.str z) z := .str z
theorem sq_keep (e : Same H H') {a : Addr} {xs : List V} (h : SqL K H a xs) : SqL K H' a xs := e.seq h
theorem st_keep (e : Same H H') {a : Addr} {xs : List V} (h : SqT K H a xs) : SqT K H' a xs := by
  rcases h with (h | ⟨o, h⟩) | h
  · exact .inl (.inl (e _ _ h))
  · exact .inl (.inr ⟨o, e _ _ h⟩)
  · exact .inr h
mutual
theorem dp_keep (e : Same H H') : ∀ (d : PyData) (v : V), Dp K H v d → Dp K H' v d
  | _, _, .non => .non
  | _, _, .bl b => .bl b
  | _, _, .int i => .int i
  | _, _, .str z => .str z
  | .list ds, _, .lst h g => .lst (sq_keep e h) (dps_keep e ds _ g)
  | .tuple ds, _, .tup h g => .tup (st_keep e h) (dps_keep e ds _ g)
theorem dps_keep (e : Same H H') : ∀ (ds : List PyData) (vs : List V), DpAll K H vs ds → DpAll K H' vs ds
  | _, _, .nil => .nil
  | d :: ds, _, .cons h g => .cons (dp_keep e d _ h) (dps_keep e ds _ g)
end
theorem DAt.keep (e : Same H H') (h : DAt K H v x) : DAt K H' v x := dp_keep e _ _ h
theorem dps_map {β : Type} (f : β → V) (g : β → PyData) (h : ∀ b, Dp K H (f b) (g b)) : ∀ l : List β, DpAll K H (l.map f) (l.map g)
  | [] => .nil
  | b :: l => .cons (h b) (dps_map f g h l)
theorem da_ints {a : Addr} {ns : List Int} (h : SqL K H a (ns.map V.int)) : DAt K H (.ref a) ns := .lst h (dps_map V.int Datum.toD (fun i => .int i) ns)
theorem da_strs {a : Addr} {zs : List Str} (h : SqL K H a (zs.map V.str)) : DAt K H (.ref a) zs := .lst h (dps_map V.str Datum.toD (fun i => .str i) zs)
/-- None or an int -/
def oV : Option Int → V
  | none => .non
  | some i => .int i
theorem da_oV (o : Option Int) : DAt K H (oV o) o := by
  cases o with
  | none => exact .non
  | some i => exact .int i
theorem da_opts {a : Addr} {os : List (Option Int)} (h : SqL K H a (os.map oV)) : DAt K H (.ref a) os := .lst h (dps_map oV Datum.toD (fun o => da_oV o) os)
theorem da_nil {a : Addr} (h : SqL K H a []) : DAt K H (.ref a) ([] : List α) := .lst h .nil
theorem da_one {a : Addr} {v : V} (h : SqL K H a [v]) (g : DAt K H v x) : DAt K H (.ref a) [x] := .lst h (.cons g .nil)
end
end L2

set_option Elab.async false
set_option linter.all false
set_option maxRecDepth 100000
/-! VLText: texts of integers, cut and joined texts, in plain Lean. -/
namespace VT
open PySem TL NumText
/-! ### cut and joined -/
theorem spl_ne (S : List Nat) : ∀ (l : List Nat) (k : Nat) (acc : List Nat), spl S k acc l ≠ []
  | [], k, acc => by rw [spl_nil]; simp
  | c :: r, 0, acc => by
    cases h : pre S (c :: r) with
    | true => rw [spl_hit h]; simp
    | false => rw [spl_miss h]; exact spl_ne S r 0 _
  | c :: r, k + 1, acc => spl_ne S r k acc
theorem joinL_cons {S p : List Nat} {ps : List (List Nat)} (h : ps ≠ []) : joinL S (p :: ps) = p ++ (S ++ joinL S ps) := by
  cases ps with
  | nil => exact absurd rfl h
  | cons q r => rfl
theorem pre_split {S l : List Nat} (h : pre S l = true) : l = S ++ l.drop S.length := by
  have e : l.take S.length = S := eq_of_beq h
  have := List.take_append_drop S.length l
  rw [e] at this
  exact this.symm
theorem join_spl {S : List Nat} (hS : S ≠ []) : ∀ (n : Nat) (l acc : List Nat), l.length ≤ n → joinL S (spl S 0 acc l) = acc ++ l
  | _, [], acc, _ => by rw [spl_nil, List.append_nil]; rfl
  | 0, c :: r, acc, h => by simp at h
  | n + 1, c :: r, acc, h => by
    have hr : r.length ≤ n := by simpa using h
    cases hp : pre S (c :: r) with
    | true =>
      rw [spl_hit hp, joinL_cons (spl_ne S r _ _), spl_pass, join_spl hS n _ _ (by rw [List.length_drop]; omega), List.nil_append]
      have e := pre_split hp
      cases S with
      | nil => exact absurd rfl hS
      | cons s S' =>
        rw [show (s :: S').length = S'.length + 1 from rfl, List.drop_succ_cons] at e
        show acc ++ (s :: S' ++ r.drop (S'.length + 1 - 1)) = acc ++ (c :: r)
        rw [Nat.add_sub_cancel, ← e]
    | false =>
      rw [spl_miss hp, join_spl hS n _ _ hr, List.append_assoc] <;> rfl
/-- the pieces of a text -/
def pieces (S l : List Nat) : List (List Nat) := spl S 0 [] l
theorem join_pieces {S : List Nat} (hS : S ≠ []) (l : List Nat) : joinL S (pieces S l) = l := by
  unfold pieces
  rw [join_spl hS l.length l [] (Nat.le_refl _), List.nil_append]
theorem pieces_ne (S l : List Nat) : pieces S l ≠ [] := spl_ne S l 0 []
def total (ps : List (List Nat)) : Nat := (ps.map List.length).sum
theorem total_cons (p : List Nat) (ps : List (List Nat)) : total (p :: ps) = p.length + total ps := by
  unfold total
  rw [List.map_cons, List.sum_cons]
theorem joinL_len (S : List Nat) : ∀ ps : List (List Nat), total ps ≤ (joinL S ps).length
  | [] => Nat.le_refl _
  | [p] => by rw [total_cons]; show p.length + 0 ≤ p.length; omega
  | p :: q :: r => by
    rw [total_cons, joinL_cons (by simp), List.length_append, List.length_append]
    have := joinL_len S (q :: r)
    omega
theorem spl_many (S : List Nat) : ∀ (l : List Nat) (k : Nat) (acc : List Nat), (spl S k acc l).length ≤ l.length + 1
  | [], k, acc => by rw [spl_nil]; simp
  | c :: r, 0, acc => by
    have h1 := spl_many S r (S.length - 1) []
    have h2 := spl_many S r 0 (acc ++ [c])
    cases h : pre S (c :: r) with
    | true => rw [spl_hit h, List.length_cons, List.length_cons]; omega
    | false => rw [spl_miss h, List.length_cons]; omega
  | c :: r, k + 1, acc => by
    have := spl_many S r k acc
    show (spl S k acc r).length ≤ r.length + 1 + 1
    omega
theorem total_pieces {S : List Nat} (hS : S ≠ []) (l : List Nat) : total (pieces S l) ≤ l.length := by
  have := joinL_len S (pieces S l)
  rw [join_pieces hS] at this
  exact this
theorem mem_total {p : List Nat} : ∀ {ps : List (List Nat)}, p ∈ ps → p.length ≤ total ps
  | [], h => by cases h
  | q :: r, h => by
    rw [total_cons]
    rcases List.mem_cons.mp h with rfl | h
    · omega
    · have := mem_total h
      omega
/-! ### one sign as separator: no piece has it -/
theorem spl_free {s : Nat} : ∀ (l acc : List Nat), s ∉ acc → ∀ p ∈ spl [s] 0 acc l, s ∉ p
  | [], acc, h, p, hp => by
    rw [spl_nil, List.mem_singleton] at hp
    rw [hp]
    exact h
  | c :: r, acc, h, p, hp => by
    by_cases e : c = s
    · have hh : pre [s] (c :: r) = true := by rw [e]; exact pre_self [s] r
      rw [spl_hit hh] at hp
      rcases List.mem_cons.mp hp with rfl | hp
      · exact h
      · exact spl_free r [] (by simp) p hp
    · have hh : pre [s] (c :: r) = false := pre_of_head [] r e
      rw [spl_miss hh] at hp
      refine spl_free r (acc ++ [c]) (fun z => ?_) p hp
      rcases List.mem_append.mp z with z | z
      · exact h z
      · exact e (List.mem_singleton.mp z).symm
/-! ### the text of an integer -/
def intL (n : Int) : List Nat := tl (Str.ofString (toString n))
theorem intL_nat (n : Nat) : intL (n : Int) = numL n := tl_num n
theorem intL_neg (m : Nat) : intL (-((m + 1 : Nat) : Int)) = 45 :: numL (m + 1) := by
  have e : toString (-((m + 1 : Nat) : Int)) = "-" ++ toString (m + 1) := rfl
  have e2 : numL (m + 1) = tl (Str.ofString (toString (m + 1))) := (tl_num (m + 1)).symm
  rw [e2]
  unfold intL
  rw [e, tl_ofString, tl_ofString, String.toList_append, List.map_append] <;> rfl
/-- digits, the first no 0 unless alone -/
theorem numL_head : ∀ n : Nat, n ≠ 0 → (numL n).head? ≠ some 48 := by
  intro n
  induction n using Nat.strongRecOn with
  | _ n ih =>
    intro h0
    by_cases h : n < 10
    · rw [numL_lt h]
      simp
      omega
    · rw [numL_step (by omega)]
      have hd := ih (n / 10) (by omega) (by omega)
      cases e : numL (n / 10) with
      | nil => exact absurd e (numL_ne _)
      | cons c r =>
        rw [e] at hd
        exact hd
theorem digitsVal_app (l : List Nat) (c : Nat) : digitsVal (l ++ [c]) = digitsVal l * 10 + (c - 48) := by
  unfold digitsVal
  rw [List.foldl_append] <;> rfl
theorem digitsVal_pos : ∀ (l : List Nat), AllDigits l → l ≠ [] → l.head? ≠ some 48 → 0 < digitsVal l := by
  intro l
  induction hn : l.length generalizing l with
  | zero =>
    intro _ h _
    exact absurd (List.length_eq_zero_iff.mp hn) h
  | succ n ih =>
    intro ha hne hh
    have e := List.dropLast_concat_getLast hne
    have hl : l.dropLast.length = n := by rw [List.length_dropLast]; omega
    rw [← e, digitsVal_app]
    by_cases h0 : l.dropLast = []
    · rw [h0] at e
      have hc : l.getLast hne ≠ 48 := fun z => hh (by rw [← e, z]; rfl)
      have := ha (l.getLast hne) (List.getLast_mem hne)
      omega
    · have hh' : l.dropLast.head? ≠ some 48 := fun z => hh (by
        rw [← e]
        cases q : l.dropLast with
        | nil => exact absurd q h0
        | cons c r =>
          rw [q] at z
          exact z)
      have := ih l.dropLast hl (fun c hc => ha c (List.dropLast_subset l hc)) h0 hh'
      omega
theorem numL_val_back : ∀ (l : List Nat), AllDigits l → l ≠ [] → (l.head? ≠ some 48 ∨ l = [48]) → numL (digitsVal l) = l := by
  intro l
  induction hn : l.length generalizing l with
  | zero =>
    intro _ h _
    exact absurd (List.length_eq_zero_iff.mp hn) h
  | succ n ih =>
    intro ha hne hh
    have e := List.dropLast_concat_getLast hne
    have hl : l.dropLast.length = n := by rw [List.length_dropLast]; omega
    have hc := ha (l.getLast hne) (List.getLast_mem hne)
    by_cases h0 : l.dropLast = []
    · rw [← e, h0, digitsVal_app]
      show numL (0 * 10 + (l.getLast hne - 48)) = [l.getLast hne]
      rw [Nat.zero_mul, Nat.zero_add, numL_lt (by omega)]
      congr 1
      omega
    · have hh' : l.dropLast.head? ≠ some 48 := fun z => by
        rcases hh with hh | hh
        · refine hh ?_
          rw [← e]
          cases q : l.dropLast with
          | nil => exact absurd q h0
          | cons c r =>
            rw [q] at z
            exact z
        · rw [hh] at h0
          exact h0 rfl
      have ha' : AllDigits l.dropLast := fun c hc => ha c (List.dropLast_subset l hc)
      have hp := digitsVal_pos l.dropLast ha' h0 hh'
      have ih' := ih l.dropLast hl ha' h0 (.inl hh')
      rw [← e, digitsVal_app, numL_step (by omega)]
      have e1 : (digitsVal l.dropLast * 10 + (l.getLast hne - 48)) / 10 = digitsVal l.dropLast := by omega
      have e2 : (digitsVal l.dropLast * 10 + (l.getLast hne - 48)) % 10 = l.getLast hne - 48 := by omega
      rw [e1, e2, ih']
      congr 2
      omega
/-! ### a piece that is a number -/
def body (l : List Nat) : List Nat := if l.take 1 = [45] then l.drop 1 else l
def isDig (c : Nat) : Bool := decide (48 ≤ c ∧ c ≤ 57)
def shape (l : List Nat) : Bool := decide (1 ≤ (body l).length ∧ (body l).length ≤ 9) && (body l).all isDig
def plainN (l : List Nat) : Bool := !decide ((body l).head? = some 48) || decide (l = [48])
def val (l : List Nat) : Int := if l.take 1 = [45] then -((digitsVal (l.drop 1) : Nat) : Int) else (digitsVal l : Nat)
def numIn (l : List Nat) : Option Int := if (shape l && plainN l) = true then some (val l) else none
theorem take1 {l : List Nat} (h : l.take 1 = [45]) : l = 45 :: l.drop 1 := by
  cases l with
  | nil => cases h
  | cons c r =>
    have e : c = 45 := by simpa using h
    rw [e]
    rfl
theorem shape_digits {l : List Nat} (h : shape l = true) : AllDigits (body l) ∧ body l ≠ [] ∧ (body l).length ≤ 9 := by
  unfold shape at h
  rw [Bool.and_eq_true, decide_eq_true_eq, List.all_eq_true] at h
  obtain ⟨⟨h1, h2⟩, h3⟩ := h
  refine ⟨fun c hc => of_decide_eq_true (h3 c hc), fun z => ?_, h2⟩
  rw [z] at h1
  simp at h1
theorem shape_len {l : List Nat} (h : shape l = true) : l.length ≤ 10 := by
  have h9 := (shape_digits h).2.2
  unfold body at h9
  split at h9
  · rename_i e
    rw [take1 e, List.length_cons]
    omega
  · omega
theorem int_of_shape {z : Str} (h : shape (tl z) = true) : intText? z = some (val (tl z)) := by
  obtain ⟨h1, h2, h3⟩ := shape_digits h
  have hl := shape_len h
  rw [← len_tl] at hl
  unfold body at h1 h2
  unfold val
  by_cases e : (tl z).take 1 = [45]
  · rw [if_pos e] at h1 h2 ⊢
    exact intText_neg (take1 e) h1 h2 (by omega)
  · rw [if_neg e] at h1 h2 ⊢
    exact intText_digits h1 h2 (by omega)
theorem intL_val {l : List Nat} (h : shape l = true) : decide (intL (val l) = l) = plainN l := by
  obtain ⟨h1, h2, h3⟩ := shape_digits h
  unfold plainN val
  unfold body at h1 h2 ⊢
  by_cases e : l.take 1 = [45]
  · rw [if_pos e] at h1 h2 ⊢
    have el := take1 e
    have nl : ¬ l = [48] := fun z => by rw [z] at e; cases e
    rw [if_pos e, decide_eq_false nl, Bool.or_false]
    by_cases hz : (l.drop 1).head? = some 48
    · rw [decide_eq_true hz]
      refine decide_eq_false fun q => ?_
      cases hv : digitsVal (l.drop 1) with
      | zero =>
        rw [hv] at q
        have : intL (-((0 : Nat) : Int)) = [48] := by
          show intL ((0 : Nat) : Int) = [48]
          rw [intL_nat, numL_lt (by decide)]
        rw [this] at q
        exact nl q.symm
      | succ m =>
        rw [hv, intL_neg] at q
        rw [el] at q
        injection q with _ q2
        have := numL_head (m + 1) (by omega)
        rw [q2] at this
        exact this hz
    · rw [decide_eq_false hz]
      refine decide_eq_true ?_
      have hp := digitsVal_pos _ h1 h2 hz
      have hb := numL_val_back _ h1 h2 (.inl hz)
      cases hv : digitsVal (l.drop 1) with
      | zero => omega
      | succ m =>
        rw [hv] at hb
        rw [intL_neg, hb]
        exact el.symm
  · rw [if_neg e] at h1 h2 ⊢
    rw [if_neg e, intL_nat]
    by_cases hz : l.head? = some 48
    · rw [decide_eq_true hz]
      by_cases h0 : l = [48]
      · rw [h0]
        decide
      · rw [decide_eq_false h0]
        refine decide_eq_false fun q => ?_
        cases hv : digitsVal l with
        | zero =>
          rw [hv, numL_lt (by decide)] at q
          exact h0 q.symm
        | succ m =>
          rw [hv] at q
          have := numL_head (m + 1) (by omega)
          rw [q] at this
          exact this hz
    · rw [decide_eq_false hz]
      exact decide_eq_true (numL_val_back _ h1 h2 (.inl hz))
theorem numIn_back {l : List Nat} {n : Int} (h : numIn l = some n) : intL n = l ∧ n = val l ∧ shape l = true := by
  unfold numIn at h
  split at h
  · rename_i q
    rw [Bool.and_eq_true] at q
    injection h with h
    have e := intL_val q.1
    rw [q.2] at e
    exact ⟨by rw [← h]; exact of_decide_eq_true e, h.symm, q.1⟩
  · cases h
/-- the text of an integer of at most nine digits is read -/
theorem numIn_intL {n : Int} (h : n.natAbs < 10 ^ 9) : numIn (intL n) = some n := by
  have key : ∀ l : List Nat, shape l = true → intL (val l) = l → numIn l = some (val l) := fun l h1 h2 => by
    have e := intL_val h1
    rw [decide_eq_true h2] at e
    unfold numIn
    rw [h1, ← e]
    rfl
  have sh : ∀ m : Nat, m < 10 ^ 9 → (decide (1 ≤ (numL m).length ∧ (numL m).length ≤ 9) && (numL m).all isDig) = true := fun m hm => by
    rw [Bool.and_eq_true]
    refine ⟨decide_eq_true ⟨List.length_pos_iff.mpr (numL_ne m), numL_len (by decide) hm⟩, List.all_eq_true.mpr fun c hc => decide_eq_true (numL_digits m c hc)⟩
  cases n with
  | ofNat m =>
    have hm : m < 10 ^ 9 := h
    have e : intL (Int.ofNat m) = numL m := intL_nat m
    have nt : ¬ (numL m).take 1 = [45] := fun q => by
      have := take1 q
      have hd := numL_digits m 45 (by rw [this]; exact List.mem_cons_self ..)
      omega
    have ev : val (numL m) = (m : Int) := by
      unfold val
      rw [if_neg nt, numL_val]
    have h1 : shape (numL m) = true := by
      unfold shape body
      rw [if_neg nt]
      exact sh m hm
    rw [e]
    have := key (numL m) h1 (by rw [ev]; exact intL_nat m)
    rw [this, ev] <;> rfl
  | negSucc m =>
    have hm : m + 1 < 10 ^ 9 := h
    have e : intL (Int.negSucc m) = 45 :: numL (m + 1) := intL_neg m
    have t1 : (45 :: numL (m + 1)).take 1 = [45] := rfl
    have ev : val (45 :: numL (m + 1)) = Int.negSucc m := by
      unfold val
      rw [if_pos t1]
      show -((digitsVal (numL (m + 1)) : Nat) : Int) = _
      rw [numL_val] <;> rfl
    have h1 : shape (45 :: numL (m + 1)) = true := by
      unfold shape body
      rw [if_pos t1]
      exact sh (m + 1) hm
    rw [e]
    have := key _ h1 (by rw [ev]; exact intL_neg m)
    rw [this, ev]
end VT

set_option Elab.async false
set_option linter.all false
set_option maxRecDepth 100000
set_option maxHeartbeats 2000000
/-! VLLc: comprehensions whose tests and elements change nothing that is tracked. -/
namespace L2
open PySem PySem.Spec PyProof.Rows
/-- the i-th item, the heap as it was -/
def YIt (it : Nat → V) : Nat → Hp → V → Hp → Prop := fun i H x H' => H' = H ∧ x = it i
theorem walk_listI {K : PySem.W.Frag} {a : Addr} {xs : List V} : Walk (Itl K a) xs.length (fun H => SqL K H a xs) (YIt fun i => xs.getD i .non) :=
  walk_list.mono (fun _ h => h) fun i H x H' hi _ y => ⟨y.1, by show x = xs.getD i V.non; rw [List.getD_eq_getElem?_getD, y.2] <;> rfl⟩
theorem walk_tupI {K : PySem.W.Frag} {a : Addr} {xs : List V} : Walk (Itt K a) xs.length (fun H => SqT K H a xs) (YIt fun i => xs.getD i .non) :=
  walk_tup.mono (fun _ h => h) fun i H x H' hi _ y => ⟨y.1, by show x = xs.getD i V.non; rw [List.getD_eq_getElem?_getD, y.2] <;> rfl⟩
theorem walk_strI {z : Str} : Walk (Its z) (TL.tl z).length (fun _ => True) (YIt fun i => .str ⟨#[(TL.tl z).getD i 0]⟩) := by
  have e : (TL.tl z).length = z.cps.size := by simp [TL.tl]
  rw [e]
  refine walk_str.mono (fun _ h => h) fun i H x H' hi _ y => ?_
  obtain ⟨y1, c, hc, rfl⟩ := y
  refine ⟨y1, ?_⟩
  have : (TL.tl z).getD i 0 = c := by
    rw [List.getD_eq_getElem?_getD]
    show (z.cps.toList[i]?).getD 0 = c
    rw [Array.getElem?_toList, hc] <;> rfl
  show V.str ⟨#[c]⟩ = V.str ⟨#[(TL.tl z).getD i 0]⟩
  rw [this]
theorem walk_rangeI {lo : Int} {n : Nat} : Walk (Itr lo n) n (fun _ => True) (YIt fun i => .int (lo + i)) := walk_range
/-- what is kept of the first n, each by its value -/
def sel (n : Nat) (b : Nat → Bool) (f : Nat → V) : List V := ((List.range n).filter b).map f
theorem sel_yes {n : Nat} {b : Nat → Bool} {f : Nat → V} (h : b n = true) : sel (n + 1) b f = sel n b f ++ [f n] := by
  unfold sel
  rw [List.range_succ, List.filter_append, List.map_append, List.filter_cons, if_pos h] <;> rfl
theorem sel_no {n : Nat} {b : Nat → Bool} {f : Nat → V} (h : b n = false) : sel (n + 1) b f = sel n b f := by
  unfold sel
  rw [List.range_succ, List.filter_append, List.map_append, List.filter_cons, if_neg (by rw [h]; decide)]
  show _ ++ [] = _
  rw [List.append_nil]
theorem sel_len (n : Nat) (b : Nat → Bool) (f : Nat → V) : (sel n b f).length ≤ n := by
  unfold sel
  rw [List.length_map]
  have h := List.length_filter_le b (List.range n)
  rw [List.length_range] at h
  exact h
theorem sel_all {n : Nat} {f : Nat → V} : sel n (fun _ => true) f = (List.range n).map f := by
  unfold sel
  rw [List.filter_eq_self.mpr fun _ _ => rfl]
/-- by the items of a list -/
theorem range_map {α β : Type} (xs : List α) (d : α) (g : α → β) : (List.range xs.length).map (fun i => g (xs.getD i d)) = xs.map g := by
  apply List.ext_getElem
  · simp
  · intro i h1 h2
    have hi : i < xs.length := by simpa using h2
    rw [List.getElem_map, List.getElem_range, List.getElem_map, List.getD_eq_getElem?_getD, List.getElem?_eq_getElem hi] <;> rfl
theorem range_sel {α : Type} (xs : List α) (d : α) (p : α → Bool) (g : α → V) : sel xs.length (fun i => p (xs.getD i d)) (fun i => g (xs.getD i d)) = (xs.filter p).map g := by
  unfold sel
  have e1 : (List.range xs.length).filter (fun i => p (xs.getD i d)) = (List.range xs.length).filter (p ∘ fun i => xs.getD i d) := rfl
  have e2 : ((List.range xs.length).filter (p ∘ fun i => xs.getD i d)).map (fun i => g (xs.getD i d)) = (((List.range xs.length).filter (p ∘ fun i => xs.getD i d)).map (fun i => xs.getD i d)).map g := by
    rw [List.map_map] <;> rfl
  rw [e1, e2, ← List.filter_map, range_map xs d (fun x => x), List.map_id']
theorem sel_map {α : Type} (xs : List α) (d : α) (g : α → V) : sel xs.length (fun _ => true) (fun i => g (xs.getD i d)) = xs.map g := by rw [sel_all, range_map]
theorem getD_in {α : Type} {xs : List α} {i : Nat} {d : α} (h : i < xs.length) : xs.getD i d ∈ xs := by
  rw [List.getD_eq_getElem?_getD, List.getElem?_eq_getElem h]
  exact List.getElem_mem h
theorem getD_map {α : Type} {xs : List α} {i : Nat} {d : α} {g : α → V} {e : V} (h : i < xs.length) : (xs.map g).getD i e = g (xs.getD i d) := by
  rw [List.getD_eq_getElem?_getD, List.getElem?_map, List.getD_eq_getElem?_getD, List.getElem?_eq_getElem h] <;> rfl
theorem atI_end {α : Type} {xs : List α} {v : α} (h : xs.getLast? = some v) : atI xs (-1) = some v := by
  have hne : xs ≠ [] := fun e => by rw [e] at h; cases h
  have e := List.dropLast_concat_getLast hne
  rw [List.getLast?_eq_some_getLast hne] at h
  rw [← e, Option.some.inj h]
  exact atI_last _ _
/-- the reading t gives v, whatever else comes beside -/
def Yl (te : TE) (σ : St) (H : Hp) (v : V) : Prop := ∀ Q : VK, (∀ H', Same H H' → Q v H') → te σ H Q
def Yt (tt : TT) (σ : St) (H : Hp) (b : Bool) : Prop := ∀ Q : Bool → Hp → Prop, (∀ H', Same H H' → Q b H') → tt σ H Q
theorem yt_yes {σ : St} {H : Hp} : Yt tYes σ H true := fun _ q => q H (Same.refl H)
theorem lc_sel {J : It} {n : Nat} {G : Hp → Prop} {it : Nat → V} (w : Walk J n G (YIt it)) {j : Nat} {tt : TT} {te : TE} {vs : List Nat} {σ : St} {H1 : Hp} {D : Addr} {Qd : Hp → Prop} (b : Nat → Bool) (f : Nat → V) (hD : H1 D = none) (hn : n ≤ 1000000)
    (hG : ∀ H', Same H1 H' → G H') (hw : ∀ x, wipe ((wipe σ vs).set j (some x)) vs = wipe σ vs)
    (ht : ∀ i H', i < n → Same H1 H' → Yt tt ((wipe σ vs).set j (some (it i))) H' (b i)) (he : ∀ i H', i < n → b i = true → Same H1 H' → Yl te ((wipe σ vs).set j (some (it i))) H' (f i))
    (hd : ∀ H', Same H1 H' → H' D = some (.lst (sel n b f)) → Qd H') :
    ∃ W : Nat → Nat → Hp → Prop, (∃ m, W 0 m (upd H1 D (.lst []))) ∧ ∀ i m H, W i m H →
      (J.stop i H ∧ Qd H) ∨ (J.go i H ∧ ∃ Nx : Hp → Prop, (∀ H', Nx H' → ∃ m', m' < m ∧ W (i + 1) m' H') ∧ ∀ x H', J.yld i H x H' → gName j x (wipe σ vs) H' fun σ2 H2 => wipe σ2 vs = wipe σ vs ∧ tt σ2 H2 fun b H3 =>
        if b = true then te σ2 H3 fun y H4 => ∃ acc, H4 D = some (.lst acc) ∧ acc.length < sizeLine ∧ Nx (upd H4 D (.lst (acc ++ [y]))) else Nx H3) := by
  refine lc_it w (fun i H' => Same H1 H' ∧ H' D = some (.lst (sel i b f))) ⟨(Same.refl H1).new hD, upd_same⟩ (fun i H' _ p => hG H' p.1) ?_ fun H' p => hd H' p.1 p.2
  rintro i x H' H'' hi ⟨p1, p2⟩ ⟨rfl, rfl⟩
  refine ⟨hw _, ?_⟩
  refine ht i H'' hi p1 _ fun H3 s3 => ?_
  cases hb : b i with
  | true =>
    refine iteT ?_
    refine he i H3 hi hb (p1.trans s3) _ fun H4 s4 => ⟨_, s4 _ _ (s3 _ _ p2), Nat.lt_of_le_of_lt (Nat.le_trans (sel_len i b f) (Nat.le_of_lt (Nat.lt_of_lt_of_le hi hn))) (by decide), ((p1.trans s3).trans s4).mut hD, ?_⟩
    rw [sel_yes hb]
    exact upd_same
  | false =>
    refine iteF ⟨p1.trans s3, ?_⟩
    rw [sel_no hb]
    exact s3 _ _ p2
end L2

set_option Elab.async false
set_option linter.all false
set_option maxRecDepth 100000
set_option maxHeartbeats 2000000
/-! VLErr: the errors of a program whose classes hang on one own class over ValueError that keeps a value. -/
namespace L2
open PySem PySem.Spec PyProof.Rows
/-- TankError.__init__ -/
def spErr (K : PySem.W.Frag) : Sp := fun vs H Q _ => ∃ (a C : Addr) (v : V), vs = [.ref a, v] ∧ OexC K C ∧ PySem.W.findIn K (.ref C) "value" = some none ∧ H a = some (exo a C none) ∧
  ∀ dx, H dx = none → dx ≠ a → Q .non (upd (upd H dx (exd dx [("value", v)])) a (exo a C (some dx)))
/-- an error's class of that kind: fe its __init__, C0 the base of all -/
structure ErrT (K : PySem.W.Frag) (mg : Str → Option Value) (x : Str) (fe C0 : Addr) where
  C : Addr
  m : mg x = some (.ref C)
  o : OexC K C
  i : PySem.W.findIn K (.ref C) "__init__" = some (some (.ref fe))
  v : PySem.W.findIn K (.ref C) "value" = some none
  e : VExc K C
  t : PySem.W.exmOne K (.ref C) (.ref C0) = some true
theorem mk_err {K : PySem.W.Frag} {C : Addr} {v : V} {H : Hp} {Q : XK} (o : OexC K C) (hv : PySem.W.findIn K (.ref C) "value" = some none) (q : ∀ d, H d = none → Q (.ref C) (some d) (upd H d (.xd [("value", v)]))) :
    [v].length ≤ 1000 ∧ ∀ a, H a = none → spErr K (.ref a :: ([v] ++ [])) (upd H a (exo a C none))
      (fun u H2 => u = .non ∧ ∃ (d : Addr) (fs : List (Str × V)), H2 a = some (exo a C (some d)) ∧ H2 d = some (exd d fs) ∧ H d = none ∧ Q (.ref C) (some d) (upd (del H2 a) d (.xd fs))) (fun _ _ _ => False) := by
  refine ⟨by show 1 ≤ 1000; decide, fun a ha => ⟨a, C, v, rfl, o, hv, upd_same, fun dx hd hn => ⟨rfl, dx, [("value", v)], upd_same, ?_, ?_, ?_⟩⟩⟩
  · rw [upd_ne hn, upd_same]
  · rw [upd_ne hn] at hd
    exact hd
  · have hd' : H dx = none := by
      rw [upd_ne hn] at hd
      exact hd
    have e : upd (del (upd (upd (upd H a (exo a C none)) dx (exd dx [("value", v)])) a (exo a C (some dx))) a) dx (.xd [("value", v)]) = upd H dx (.xd [("value", v)]) := by
      funext b
      by_cases h1 : b = dx
      · rw [h1, upd_same, upd_same]
      · rw [upd_ne h1, upd_ne h1]
        by_cases h2 : b = a
        · rw [h2, del_same, ha]
        · rw [del_ne h2, upd_ne h2, upd_ne h1, upd_ne h2]
    rw [e]
    exact q dx hd'
end L2

set_option Elab.async false
set_option linter.all false
set_option maxRecDepth 100000
set_option maxHeartbeats 2000000
/-! VLRep: bodies in which texts are replaced; menus of texts. -/
namespace L2
open PySem PySem.Spec PyProof.Rows CwR
/-! the token forms as structures, so that the unifier does not look into them -/
structure QS (X : Cx) (st : Stmt) (t : TS) : Prop where
  run : PST X st t
structure QSs (X : Cx) (st : List Stmt) (t : TS) : Prop where
  run : PSsT X st t
structure QE (X : Cx) (e : Expr) (t : TE) : Prop where
  run : PET X e t
structure QA (X : Cx) (es : List Expr) (t : TA) : Prop where
  run : PAT X es t
section
variable {X : Cx} {st : Stmt} {sts : List Stmt} {t u : TS} {e f : Expr} {es : List Expr} {te tf to : TE} {ta : TA} {pos : Pos}
theorem qs_of (h : PS X st t) : QS X st t := ⟨PST.of h⟩
theorem qe_of (h : PE X e te) : QE X e te := ⟨PET.of h⟩
theorem qss_cons (h1 : QS X st t) (h2 : QSs X sts u) : QSs X (st :: sts) (tSeq t u) := ⟨psst_cons h1.run h2.run⟩
theorem qss_one (h1 : QS X st t) : QSs X [st] t := ⟨psst_one h1.run⟩
theorem qa_nil : QA X [] tNil := ⟨pat_nil⟩
theorem qa_cons (ha : QE X e te) (hr : QA X es ta) (hs : starEach (e :: es) X.env = (false, eval e X.env) :: starEach es X.env := by rfl) : QA X (e :: es) (tCons te ta) := ⟨pat_cons ha.run hr.run hs⟩
theorem qe_lst (h : QA X es ta) : QE X (.List es pos) (tLst ta) := ⟨pet_lst h.run⟩
theorem qe_op {op : Operator} {r : R2} (ho : OpR X (binaryOp op) r) (ha : QE X e te) (hb : QE X f tf) : QE X (.BinOp e op f pos) (tOp r te tf) := ⟨pet_op ho ha.run hb.run⟩
theorem qe_repl {o : Expr} {y z : Str} {j k : Nat} {c0 c1 apos : Pos} (ho : PE X o to) (hyz : (y == z) = false := by decide)
    (hst : starEach [.Constant (.str y) j c0, .Constant (.str z) k c1] X.env = [(false, eval (.Constant (.str y) j c0) X.env), (false, eval (.Constant (.str z) k c1) X.env)] := by rfl)
    (hbase : attributeBase o "replace" X.env (eval o X.env) = eval o X.env := by rfl) (hline : (apos.endLine == pos.line) = true := by rfl) :
    QE X (.Call (.Attribute o "replace" apos) [.Constant (.str y) j c0, .Constant (.str z) k c1] [] pos) (tReplC to y z) := ⟨pet_replC ho hyz hst hbase hline⟩
theorem qs_set {i : Nat} {x : Str} {p1 : Pos} (hN : X.N.Nodup) (hi : X.N[i]? = some x) (hx : Loc X.env.scope x) (he : QE X e te) (hs : swapsWith e (some (.Name x p1)) pos.line X.env = pure false := by rfl)
    (hf : X.fn x = true ∨ X.env.scope.names.lookup x = some .local := by first | exact .inl rfl | exact .inr rfl | assumption) : QS X (.Assign [.Name x p1] e pos) (tAsg te (gName i)) :=
  ⟨fun pins s σ H D h0 I h => wpAny_Assign_Name (thn (he.run pins s σ H _ h0 I h) fun _ _ ⟨_, _, I1, r1, q1⟩ => store_ok I1 hN hi hx r1 (fun _ I2 => ⟨_, _, I2, q1⟩) hf) hs⟩
/-- the same, what holds between told by hand -/
theorem qss_mid (h1 : QS X st t) (h2 : QSs X sts u) : QSs X (st :: sts) (tMid t u) := by
  refine ⟨fun pins s σ H D h0 I hq => ?_⟩
  obtain ⟨Mid, hm, hu⟩ := hq
  refine wpAny_execs_cons (wpAny_mono (PySem.wpAny_toks (h1.run pins s σ H { D with nx := Mid } h0 I hm)) (fun f s1 q => ?_) fun _ _ x => x.2)
  obtain ⟨hk, q⟩ := q
  cases f with
  | next =>
    obtain ⟨σ1, H1, I1, q⟩ := q
    exact h2.run pins s1 σ1 H1 D (Nat.le_trans h0 hk) I1 (hu σ1 H1 q)
  | ret v => exact q
  | brk => exact q
  | cont => exact q
end
section
variable {P : Program} {w : World} {K : PySem.W.Frag} {mg : Str → Option Value} {base : Heap}
theorem Fun.okT {x qual : Str} {st : Stmt} {f : Addr} {fd : FuncData} {N ps : List Str} {k : Nat} {sp : Sp} (F : Fun K x qual st f fd) (S : FnScope N ps (defScope st)) (hnc : ∀ y ∈ (defScope st).names, y.2 ≠ .cell) (hps : 1 ≤ ps.length)
    (len : ∀ vs H Q E, sp vs H Q E → vs.length = ps.length)
    (hbody : ∀ (cdv : Value) (A : Around) (outer : List Env) (s : Shared) (H : Hp) (vs : List V) (Q : VK) (E : XK), Room k (A.deeper (envOfC qual (defScope st) s.heap.objs.size f cdv)) → sp vs H Q E →
      ∃ t, QSs (cxOf CX0 P w K mg base N qual (defScope st) f cdv A outer s H E) (defBody st) t ∧ t { nx := fun _ H' => Q .non H', rt := Q } (start N vs) H) : FnOk P w K mg base CX0 (k + 1) f fd ps sp := by
  obtain ⟨oc, od, kV, doc, pm, an, cdv, ct, osl, rfl, lk, hcd⟩ := F.ex
  refine fn_ofT lk hcd S hnc hps len fun A outer s H vs Q E hr hsp => ?_
  obtain ⟨t, h, q⟩ := hbody cdv A outer s H vs Q E hr hsp
  exact ⟨t, h.run, q⟩
end
/-! ### texts of bounded lengths -/
inductive Strs (B : Nat) : List V → Prop where
  | nil : Strs B []
  | cons {z : Str} {vs : List V} (h : z.length ≤ B) (t : Strs B vs) : Strs B (.str z :: vs)
theorem Strs.app {B : Nat} : ∀ {vs ws : List V}, Strs B vs → Strs B ws → Strs B (vs ++ ws)
  | _, _, .nil, t => t
  | _, _, .cons h s, t => .cons h (Strs.app s t)
theorem Strs.get {B : Nat} : ∀ {vs : List V} {i : Nat} {v : V}, Strs B vs → vs[i]? = some v → ∃ z, v = .str z ∧ z.length ≤ B
  | _, _, _, .nil, e => by simp at e
  | _, 0, _, .cons (z := z) h _, e => by
    have e' := Option.some.inj e
    exact ⟨z, e'.symm, h⟩
  | _, i + 1, _, .cons _ t, e => Strs.get t (i := i) (by simpa using e)
theorem Strs.mono {B C : Nat} (h : B ≤ C) : ∀ {vs : List V}, Strs B vs → Strs C vs
  | _, .nil => .nil
  | _, .cons a t => .cons (Nat.le_trans a h) (Strs.mono h t)
theorem Strs.of {B : Nat} : ∀ {zs : List Str}, (∀ z ∈ zs, z.length ≤ B) → Strs B (zs.map V.str)
  | [], _ => .nil
  | z :: zs, h => .cons (h z (List.mem_cons_self ..)) (Strs.of fun y hy => h y (List.mem_cons_of_mem _ hy))
theorem Strs.unmap {B : Nat} : ∀ {vs : List V}, Strs B vs → ∃ zs : List Str, vs = zs.map V.str ∧ ∀ z ∈ zs, z.length ≤ B
  | _, .nil => ⟨[], rfl, fun z h => absurd h (by simp)⟩
  | _, .cons (z := z) h t => by
    obtain ⟨zs, e, g⟩ := Strs.unmap t
    refine ⟨z :: zs, by rw [e] <;> rfl, fun y hy => ?_⟩
    rcases List.mem_cons.mp hy with rfl | hy
    · exact h
    · exact g y hy
theorem Strs.set {B : Nat} {vs : List V} {z : Str} (h : Strs B vs) (hz : z.length ≤ B) : ∀ i : Nat, Strs B (vs.set i (.str z)) := by
  induction h with
  | nil => exact fun i => .nil
  | cons a t ih =>
    intro i
    cases i with
    | zero => exact .cons hz t
    | succ i => exact .cons a (ih i)
theorem app_len (x y : Str) : (x ++ y).length = x.length + y.length := by
  rw [TL.len_tl, TL.tl_append, List.length_append, ← TL.len_tl, ← TL.len_tl]
theorem joinL_upper (S : List Nat) : ∀ ps : List (List Nat), (TL.joinL S ps).length ≤ VT.total ps + ps.length * S.length
  | [] => Nat.zero_le _
  | [p] => by rw [VT.total_cons]; show p.length ≤ _; omega
  | p :: q :: r => by
    rw [VT.joinL_cons (by simp), VT.total_cons, List.length_append, List.length_append, List.length_cons, Nat.succ_mul]
    have := joinL_upper S (q :: r)
    omega
theorem total_le {ps : List (List Nat)} {B : Nat} (h : ∀ p ∈ ps, p.length ≤ B) : VT.total ps ≤ ps.length * B := by
  induction ps with
  | nil => simp [VT.total]
  | cons p r ih =>
    rw [VT.total_cons, List.length_cons, Nat.succ_mul]
    have := ih fun x hx => h x (List.mem_cons_of_mem _ hx)
    have := h p (List.mem_cons_self ..)
    omega
theorem join_len {y : Str} {zs : List Str} {B : Nat} (h : ∀ z ∈ zs, z.length ≤ B) : (Txt.join y zs).length ≤ zs.length * (B + y.length) := by
  rw [TL.join_eq, TL.len_tl, TL.tl_join]
  have h1 := joinL_upper (TL.tl y) (zs.map TL.tl)
  have h2 := total_le (ps := zs.map TL.tl) (B := B) (fun p hp => by
    obtain ⟨z, hz, rfl⟩ := List.mem_map.mp hp
    rw [← TL.len_tl]
    exact h z hz)
  rw [List.length_map] at h1 h2
  rw [← TL.len_tl y] at h1
  rw [Nat.mul_add]
  omega
theorem sum_lens {zs : List Str} {B : Nat} (h : ∀ z ∈ zs, z.length ≤ B) : (zs.map (·.length)).sum ≤ zs.length * B := by
  induction zs with
  | nil => simp
  | cons p r ih =>
    rw [List.map_cons, List.sum_cons, List.length_cons, Nat.succ_mul]
    have := ih fun x hx => h x (List.mem_cons_of_mem _ hx)
    have := h p (List.mem_cons_self ..)
    omega
theorem rep_one (n : Nat) (z : Str) : (List.replicate n [V.str z]).flatten = (List.replicate n z).map V.str := by
  induction n with
  | zero => rfl
  | succ n ih => rw [List.replicate_succ, List.flatten_cons, ih, List.replicate_succ] <;> rfl
theorem atI_in {α : Type} {xs : List α} {d : Int} (h0 : 0 ≤ d) (h1 : d < xs.length) : ∃ v, atI xs d = some v ∧ xs[d.toNat]? = some v := by
  have hd : d.toNat < xs.length := by omega
  refine ⟨xs[d.toNat], ?_, List.getElem?_eq_getElem hd⟩
  have h := atI_nat (xs := xs) (j := d.toNat) (List.getElem?_eq_getElem hd)
  rw [show ((d.toNat : Nat) : Int) = d by omega] at h
  exact h
end L2

set_option Elab.async false
set_option linter.all false
set_option maxRecDepth 100000
set_option maxHeartbeats 2000000
local macro_rules | `(tactic| walk_at "rd1") => `(tactic| first
  | refine ⟨_, rfl, ?_⟩
  | refine ⟨_, _, rfl, rfl, ?_⟩
  | refine ⟨_, _, rfl, ?_⟩
  | refine ⟨_, _, _, rfl, ?_⟩
  | refine ⟨rfl, ?_⟩
  | refine ⟨⟨_, rfl⟩, ?_⟩
  | refine Or.inl ⟨_, rfl, ?_⟩
  | (refine' ⟨_, _, _, _, rfl, rfl, L2.SqL.of ?h1, ?h2, ?_⟩; (case h1 => first | assumption | exact L2.upd_same); (case h2 => rfl))
  | (refine' ⟨_, _, _, _, rfl, rfl, ?h1, ?h2, ?_⟩; (case h1 => first | assumption | exact L2.upd_same); (case h2 => rfl)))
local macro_rules | `(tactic| walk_at "rd") => `(tactic| repeat walk_at "rd1")
namespace V55
open PySem PySem.Spec PyProof.Rows L2
/-! ### the text by places -/
def top (i : Nat) : Stmt := PySem.Challenge.pw_valvelevels_k55_polynomials_that_are_non.main.body.getD i (.Pass ⟨0, 0, 0, 0⟩)
abbrev s_TankError_init : Stmt := inClass (top 1) 0
abbrev s_show_polynomial : Stmt := top 5
abbrev s_number_in : Stmt := top 9
abbrev s_read_polynomial : Stmt := top 10
abbrev s_law_purse : Stmt := top 12
abbrev s_law_coin : Stmt := top 13
abbrev s_law_is_number : Stmt := top 14
abbrev s_law_polynomial_of : Stmt := top 15
abbrev s_law_caught_one : Stmt := top 16
abbrev s_law_odd_one : Stmt := top 17
abbrev s_law_marred_one : Stmt := top 18
abbrev s_law_right : Stmt := top 19
abbrev s_law : Stmt := top 20
theorem sc_show_polynomial : FnScope ["one", "number"] ["one"] (defScope s_show_polynomial) := ⟨rfl, rfl, rfl, by decide +kernel, rfl, by decide +kernel, by decide +kernel⟩
theorem sc_number_in : FnScope ["text", "digits", "sign"] ["text"] (defScope s_number_in) := ⟨rfl, rfl, rfl, by decide +kernel, rfl, by decide +kernel, by decide +kernel⟩
theorem sc_read_polynomial : FnScope ["text", "found", "piece"] ["text"] (defScope s_read_polynomial) := ⟨rfl, rfl, rfl, by decide +kernel, rfl, by decide +kernel, by decide +kernel⟩
theorem sc_law_purse : FnScope ["script", "place", "cell"] ["script", "place"] (defScope s_law_purse) := ⟨rfl, rfl, rfl, by decide +kernel, rfl, by decide +kernel, by decide +kernel⟩
theorem sc_law_coin : FnScope ["purse", "many", "stirred", "drawn"] ["purse", "many"] (defScope s_law_coin) := ⟨rfl, rfl, rfl, by decide +kernel, rfl, by decide +kernel, by decide +kernel⟩
theorem sc_law_is_number : FnScope ["piece", "size", "sign_now"] ["piece"] (defScope s_law_is_number) := ⟨rfl, rfl, rfl, by decide +kernel, rfl, by decide +kernel, by decide +kernel⟩
theorem sc_law_polynomial_of : FnScope ["wording", "pieces_now", "piece"] ["wording"] (defScope s_law_polynomial_of) := ⟨rfl, rfl, rfl, by decide +kernel, rfl, by decide +kernel, by decide +kernel⟩
theorem sc_law_caught_one : FnScope ["wording", "way", "found", "e", "again", "odd"] ["wording", "way"] (defScope s_law_caught_one) := ⟨rfl, rfl, rfl, by decide +kernel, rfl, by decide +kernel, by decide +kernel⟩
theorem sc_law_odd_one : FnScope ["purse", "wording", "menu", "many"] ["purse", "wording"] (defScope s_law_odd_one) := ⟨rfl, rfl, rfl, by decide +kernel, rfl, by decide +kernel, by decide +kernel⟩
theorem sc_law_marred_one : FnScope ["purse", "wording", "wide", "signs", "sign_now", "spot", "way", "between", "pieces_now", "piece", "left", "right"] ["purse", "wording"] (defScope s_law_marred_one) := ⟨rfl, rfl, rfl, by decide +kernel, rfl, by decide +kernel, by decide +kernel⟩
theorem sc_law_right : FnScope ["purse", "top", "numbers_here", "wording", "turn", "bent", "piece"] ["purse"] (defScope s_law_right) := ⟨rfl, rfl, rfl, by decide +kernel, rfl, by decide +kernel, by decide +kernel⟩
theorem sc_law : FnScope ["script", "spot", "purse", "turn"] ["script"] (defScope s_law) := ⟨rfl, rfl, rfl, by decide +kernel, rfl, by decide +kernel, by decide +kernel⟩
theorem sc_TankError_init : FnScope ["self", "value"] ["self", "value"] (defScope s_TankError_init) := ⟨rfl, rfl, rfl, by decide +kernel, rfl, by decide +kernel, by decide +kernel⟩
structure Txt (K : PySem.W.Frag) (mg : Str → Option Value) where
  show_polynomial : DefT K mg "show_polynomial" s_show_polynomial ["one"]
  number_in : DefT K mg "number_in" s_number_in ["text"]
  read_polynomial : DefT K mg "read_polynomial" s_read_polynomial ["text"]
  law_purse : DefT K mg "_law_purse" s_law_purse ["script", "place"]
  law_coin : DefT K mg "_law_coin" s_law_coin ["purse", "many"]
  law_is_number : DefT K mg "_law_is_number" s_law_is_number ["piece"]
  law_polynomial_of : DefT K mg "_law_polynomial_of" s_law_polynomial_of ["wording"]
  law_caught_one : DefT K mg "_law_caught_one" s_law_caught_one ["wording", "way"]
  law_odd_one : DefT K mg "_law_odd_one" s_law_odd_one ["purse", "wording"]
  law_marred_one : DefT K mg "_law_marred_one" s_law_marred_one ["purse", "wording"]
  law_right : DefT K mg "_law_right" s_law_right ["purse"]
  law : DefT K mg "law" s_law ["script"]
  f_init : Addr
  fd_init : FuncData
  F_init : Fun K "__init__" "TankError.__init__" s_TankError_init f_init fd_init
  b_init : Binds K fd_init ["self", "value"] []
  t_init : PySem.W.typeIn K (.ref f_init) = some (.type "function")
  C0 : Addr
  m_C0 : mg "TankError" = some (.ref C0)
  Unreadable : ErrT K mg "Unreadable" f_init C0
  InvalidPolynomial : ErrT K mg "InvalidPolynomial" f_init C0
  k_no : PySem.W.kitOne K (.ref Unreadable.C) (.ref InvalidPolynomial.C) = some false
  k_yes : PySem.W.kitOne K (.ref Unreadable.C) (.ref Unreadable.C) = some true
  z_ValueError : mg "ValueError" = none
  z_isinstance : mg "isinstance" = none
  v_ValueError : PySem.W.findCls K (.type "ValueError") (.type "type") "__init__" = some (.val (.builtin "ValueError.__init__"))
  z_len : mg "len" = none
  z_abs : mg "abs" = none
  z_max : mg "max" = none
  z_min : mg "min" = none
  z_int : mg "int" = none
  z_str : mg "str" = none
  z_all : mg "all" = none
  z_range : mg "range" = none
  t_DIGITS : Tok
  g_DIGITS : mg "DIGITS" = some (.str "0123456789" t_DIGITS)
  t_MOST_DIGITS : Tok
  g_MOST_DIGITS : mg "MOST_DIGITS" = some (.int 9 t_MOST_DIGITS)
section
variable {P : Program} {w : World} {K : PySem.W.Frag} {mg : Str → Option Value} {base : Heap}
theorem ok_law_coin (T : Txt K mg) : FnOk P w K mg base CX0 1 T.law_coin.f T.law_coin.fd ["purse", "many"] spCoin := by
  refine T.law_coin.F.ok sc_law_coin (fun vs H Q E h => ?_) (fun cdv A outer s H vs Q E hr h => ?_)
  · obtain ⟨a, m, k, rfl, _⟩ := h
    rfl
  · obtain ⟨a, m, k, rfl, ⟨p0, p1, p2, ha, h0, h1, h1', h2, h2'⟩, hk, hm, hm', q⟩ := h
    refine ⟨_,
    (pss_cons (ps_if (pt_cmpR op_gt (pe_ix ix_list (pv 0) pe_int (fun _ _ => rfl)) pe_int (nomark _)) (pss_cons (ps_set (i := 3) sc_law_coin.nd rfl (.inl rfl) (pe_op op_mod (pe_callTy call_int1 (by rfl) T.z_int (by decide +kernel) (pa_cons (pe_ix ix_list (pv 0) pe_int (fun _ _ => rfl)) pa_nil)) (pv 1)))
      (pss_cons (ps_asg (pe_op op_fdivW (pe_ix ix_list (pv 0) pe_int (fun _ _ => rfl)) (pv 1)) (pg_sub (pv 0) pe_int set_list))
      (pss_one (ps_ret (pv 3))))) pss_nil)
      (pss_cons (ps_asg (pe_op op_add (pe_ix ix_list (pv 0) pe_int (fun _ _ => rfl)) pe_int) (pg_sub (pv 0) pe_int set_list))
      (pss_cons (ps_set (i := 2) sc_law_coin.nd rfl (.inl rfl) (pe_op op_mod (pe_op op_powW (pe_callTy call_int1 (by rfl) T.z_int (by decide +kernel) (pa_cons (pe_op op_add (pe_ix ix_list (pv 0) pe_int (fun _ _ => rfl)) (pe_op op_mul pe_int (pe_ix ix_list (pv 0) pe_int (fun _ _ => rfl)))) pa_nil)) pe_int) (pe_op op_add (pe_op op_powW pe_int pe_int) pe_int)))
      (pss_cons (ps_set (i := 2) sc_law_coin.nd rfl (.inl rfl) (pe_op op_mod (pe_op op_powW (pe_callTy call_int1 (by rfl) T.z_int (by decide +kernel) (pa_cons (pe_op op_add (pv 2) (pe_op op_mul pe_int (pe_ix ix_list (pv 0) pe_int (fun _ _ => rfl)))) pa_nil)) pe_int) (pe_op op_add (pe_op op_powW pe_int pe_int) pe_int)))
      (pss_one (ps_ret (pe_op op_mod (pe_callTy call_int1 (by rfl) T.z_int (by decide +kernel) (pa_cons (pe_op op_fdiv (pv 2) pe_int) pa_nil)) (pv 1))))))))
    , ?_⟩
    have hmW : CDivW p0 m := ⟨by omega, Nat.lt_of_lt_of_le (log2_small (k := 64) (by decide) (by omega) hm') (by decide)⟩
    walk_at "rd"
    refine ite2 (fun e => ?_) (fun e => ?_)
    · have e0 : 0 < p0 := of_decide_eq_true e
      walk_at "rd"
      refine ⟨by omega, ?_⟩
      walk_at "rd"
      refine ⟨hmW, ?_⟩
      walk_at "rd"
      refine q _ _ (Int.emod_nonneg _ (by omega)) (Int.emod_lt_of_pos _ (by omega)) ⟨_, _, _, upd_same, Int.ediv_nonneg h0 (by omega), h1, h1', h2, by omega⟩ (KeepBut.refl a H).put
    · walk_at "rd"
      refine ⟨Or.inl (by decide), ?_⟩
      walk_at "rd"
      have b1 : 0 ≤ p1 + 2038074743 * (p2 + 1) ∧ p1 + 2038074743 * (p2 + 1) < 2 ^ 100 := by omega
      refine ⟨⟨by decide, by decide, Nat.lt_trans (log2_small (by decide) b1.1 b1.2) (by decide)⟩, ?_⟩
      walk_at "rd"
      refine ⟨⟨by decide, by decide, by decide⟩, ?_⟩
      walk_at "rd"
      refine ⟨(by decide : (0 : Int) < 10 ^ Int.toNat 25 + 13), ?_⟩
      dsimp only
      generalize hs : (p1 + 2038074743 * (p2 + 1)) ^ Int.toNat 3 % (10 ^ Int.toNat 25 + 13) = x1
      have b2 : 0 ≤ x1 ∧ x1 < 2 ^ 90 := by
        rw [← hs]
        exact ⟨Int.emod_nonneg _ (by decide), Int.lt_of_lt_of_le (Int.emod_lt_of_pos _ (by decide)) (by decide)⟩
      walk_at "rd"
      refine ⟨Or.inl (by decide), ?_⟩
      walk_at "rd"
      have b3 : 0 ≤ x1 + 982451653 * (p2 + 1) ∧ x1 + 982451653 * (p2 + 1) < 2 ^ 100 := by omega
      refine ⟨⟨by decide, by decide, Nat.lt_trans (L2.log2_small (by decide) b3.1 b3.2) (by decide)⟩, ?_⟩
      walk_at "rd"
      refine ⟨⟨by decide, by decide, by decide⟩, ?_⟩
      walk_at "rd"
      refine ⟨(by decide : (0 : Int) < 10 ^ Int.toNat 24 + 7), ?_⟩
      walk_at "rd"
      refine ⟨⟨by decide, by decide⟩, ?_⟩
      walk_at "rd"
      refine ⟨by omega, ?_⟩
      refine q _ _ (Int.emod_nonneg _ (by omega)) (Int.emod_lt_of_pos _ (by omega)) ⟨_, _, _, upd_same, h0, h1, h1', by omega, by omega⟩ (KeepBut.refl a H).put
theorem ok_init (T : Txt K mg) : FnOk P w K mg base CX0 1 T.f_init T.fd_init ["self", "value"] (spErr K) := by
  refine T.F_init.ok sc_TankError_init (fun vs H Q E h => ?_) (fun cdv A outer s H vs Q E hr h => ?_)
  · obtain ⟨a, C, v, rfl, _⟩ := h
    rfl
  · obtain ⟨a, C, v, rfl, o, hv, ha, q⟩ := h
    refine ⟨_, pss_cons (ps_expr (pe_veinit (by rfl) T.z_ValueError T.v_ValueError (pa_cons (pv 0) (pa_cons pe_str pa_nil)))) (pss_one (ps_ost (pv 0) (pv 1))), ?_⟩
    walk_at "rd"
    refine ⟨a, C, _, rfl, by show 1 ≤ 1000; decide, o, ha, ?_⟩
    walk_at "rd"
    exact ⟨a, C, rfl, o, hv, .inl ⟨ha, q⟩⟩
theorem ok_law_purse (T : Txt K mg) : FnOk P w K mg base CX0 1 T.law_purse.f T.law_purse.fd ["script", "place"] (spPurse K) := by
  refine T.law_purse.F.ok sc_law_purse (fun vs H Q E h => ?_) (fun cdv A outer s H vs Q E hr h => ?_)
  · obtain ⟨a, ns, j, rfl, _⟩ := h
    rfl
  · obtain ⟨a, ns, j, rfl, hs, q⟩ := h
    refine ⟨_,
    (pss_mid (ps_set (i := 2) sc_law_purse.nd rfl (.inl rfl) (pe_ifExp (pt_cmpR op_lt (pv 1) (pe_callB call_len_seq (by rfl) T.z_len (by decide +kernel) (pa_cons (pv 0) pa_nil)) (nomark _)) (pe_ix ix_list (pv 0) (pv 1) (fun _ _ => rfl)) pe_int))
      (pss_one (ps_ret (pe_lst (pa_cons (pe_callB (call_max2 rfl) (by rfl) T.z_max (by decide +kernel) (pa_cons pe_int (pa_cons (pe_op op_sub (pe_callB call_abs (by rfl) T.z_abs (by decide +kernel) (pa_cons (pv 2) pa_nil)) (pe_op op_powW pe_int pe_int)) pa_nil))) (pa_cons (pe_op op_mod (pe_callTy call_int1 (by rfl) T.z_int (by decide +kernel) (pa_cons (pe_op op_add (pe_op op_add (pe_op op_mul (pv 2) pe_int) (pe_op op_mul (pv 1) pe_int)) pe_int) pa_nil)) (pe_op op_add (pe_op op_powW pe_int pe_int) pe_int)) (pa_cons pe_int pa_nil)))))))
    , ?_⟩
    refine ⟨fun σ' H' => ∃ c : Int, σ' = [some (.ref a), some (.int (j : Int)), some (.int c)] ∧ H' = H, ?_, ?_⟩
    · walk_at "rd"
      refine ⟨a, _, rfl, .inl hs, ?_⟩
      walk_at "rd"
      rw [List.length_map]
      refine ite2 (fun e => ?_) (fun e => ?_)
      · have hj : j < ns.length := by
          have := of_decide_eq_true e
          omega
        refine ⟨_, rfl, _, rfl, a, _, _, .int ns[j], rfl, rfl, hs, atI_nat (by rw [List.getElem?_map, List.getElem?_eq_getElem hj] <;> rfl), ?_⟩
        exact ⟨_, rfl, rfl⟩
      · exact ⟨_, rfl, rfl⟩
    · rintro σ' H' ⟨c, rfl, rfl⟩
      walk_at "rd"
      refine ⟨⟨by decide, by decide, by decide⟩, ?_⟩
      walk_at "rd"
      refine ⟨Or.inr (by decide), ?_⟩
      walk_at "rd"
      refine ⟨Or.inr (by decide), ?_⟩
      walk_at "rd"
      refine ⟨⟨by decide, by decide, by decide⟩, ?_⟩
      walk_at "rd"
      refine ⟨(by decide : (0 : Int) < 10 ^ Int.toNat 24 + 7), ?_⟩
      walk_at "rd"
      refine ⟨(by show 3 ≤ sizeLine; decide), fun p hp => ?_⟩
      refine q p _ hp ⟨_, _, _, upd_same, ?_, Int.emod_nonneg _ (by decide), Int.lt_of_lt_of_le (Int.emod_lt_of_pos _ (by decide)) (by decide), Int.le_refl _, Int.le_refl _⟩ ((Same.refl _).new hp)
      split <;> omega
theorem tl_take1 (z : Str) : TL.tl (cutS z none (some 1)) = (TL.tl z).take 1 := by
  unfold cutS
  rw [TL.tl_mk, HT.sIx_none, show HT.sIx z.length z.length (some 1) = min 1 z.length from HT.sIx_nat z.length z.length 1, List.drop_zero, Nat.sub_zero]
  show List.take (min 1 z.length) (TL.tl z) = _
  rw [TL.len_tl]
  cases TL.tl z with
  | nil => rfl
  | cons c r => rw [List.length_cons, show min 1 (r.length + 1) = 1 by omega]
theorem tl_drop1 (z : Str) : TL.tl (cutS z (some 1) none) = (TL.tl z).drop 1 := by
  unfold cutS
  rw [TL.tl_mk, HT.sIx_none, show HT.sIx z.length 0 (some 1) = min 1 z.length from HT.sIx_nat z.length 0 1]
  show List.take (z.length - min 1 z.length) (List.drop (min 1 z.length) (TL.tl z)) = _
  rw [TL.len_tl]
  cases TL.tl z with
  | nil => rfl
  | cons c r =>
    rw [List.length_cons, show min 1 (r.length + 1) = 1 by omega]
    exact List.take_of_length_le (by rw [List.length_drop, List.length_cons]; exact Nat.le_refl _)
theorem is_minus (z : Str) : decide (V.str (cutS z none (some 1)) = V.str "-") = decide ((TL.tl z).take 1 = [45]) := by
  refine decide_eq_decide.mpr ⟨fun e => ?_, fun e => ?_⟩
  · have e1 : cutS z none (some 1) = "-" := V.str.inj e
    rw [← tl_take1, e1] <;> rfl
  · refine congrArg V.str (TL.ext_tl ?_)
    rw [tl_take1, e] <;> rfl
/-- the text without its sign -/
def bodyS (z : Str) : Str := ⟨(VT.body (TL.tl z)).toArray⟩
theorem tl_bodyS (z : Str) : TL.tl (bodyS z) = VT.body (TL.tl z) := TL.tl_mk _
theorem bodyS_len (z : Str) : (bodyS z).length ≤ z.length := by
  rw [TL.len_tl, tl_bodyS, TL.len_tl z]
  unfold VT.body
  split
  · rw [List.length_drop]
    omega
  · exact Nat.le_refl _
theorem bodyS_cut {z : Str} (h : (TL.tl z).take 1 = [45]) : cutS z (some 1) none = bodyS z := TL.ext_tl (by rw [tl_drop1, tl_bodyS]; unfold VT.body; rw [if_pos h])
theorem bodyS_same {z : Str} (h : ¬ (TL.tl z).take 1 = [45]) : z = bodyS z := TL.ext_tl (by rw [tl_bodyS]; unfold VT.body; rw [if_neg h])
theorem in_digits (c : Nat) : decide (c ∈ ("0123456789" : Str).cps.toList) = VT.isDig c := by
  have e : ("0123456789" : Str).cps.toList = [48, 49, 50, 51, 52, 53, 54, 55, 56, 57] := by decide +kernel
  rw [e]
  unfold VT.isDig
  refine decide_eq_decide.mpr ?_
  simp only [List.mem_cons, List.not_mem_nil, or_false]
  omega
/-- number_in(text) -/
def spNumber : Sp := fun vs H Q _ => ∃ z : Str, vs = [.str z] ∧ z.length ≤ 100000 ∧ ∀ H', Same H H' → Q (oV (VT.numIn (TL.tl z))) H'
theorem ok_number_in (T : Txt K mg) : FnOk P w K mg base CX0 1 T.number_in.f T.number_in.fd ["text"] spNumber := by
  refine T.number_in.F.ok sc_number_in (fun vs H Q E h => ?_) (fun cdv A outer s H vs Q E hr h => ?_)
  · obtain ⟨z, rfl, _⟩ := h
    rfl
  · obtain ⟨z, rfl, hz, q⟩ := h
    have hz' : z.length ≤ sizeLine := Nat.le_trans hz (by decide)
    have hb' : (bodyS z).length ≤ sizeLine := Nat.le_trans (bodyS_len z) hz'
    refine ⟨_,
    (pss_mid (ps_set (i := 1) sc_number_in.nd rfl (.inl rfl) (pe_ifExp (pt_cmpR op_eq (pe_slice sl_str (pv 0) po_none (po_some pe_int)) pe_str (nomark _)) (pe_slice sl_str (pv 0) (po_some pe_int) po_none) (pv 0)))
      (pss_cons (ps_if (PW.pt (pw_or (pt_not (pt_chain op_le op_le pe_int (pe_callB call_len_str (by rfl) T.z_len (by decide +kernel) (pa_cons (pv 1) pa_nil)) (pe_glob (v := .int 9) (by rfl) T.g_MOST_DIGITS ⟨_, rfl⟩))) (pw_or1 (pt_not (pt_val (pe_callB (cr_all rfl) (by rfl) T.z_all (by decide +kernel) (pa_cons (pe_lc (own := [("sign", 2)]) (g := gName 2) rfl sc_number_in.nd (pi_str (pv 1)) (blkOk_by (own := [("sign", 2)]) (N := ["text", "digits", "sign"]) (sc := defScope s_number_in) (by decide +kernel)) (fun _ _ _ _ _ => (pg_name (i := 2) sc_number_in.nd rfl (Or.inl rfl))) (fun _ _ _ _ _ => pts_nil) (fun _ _ _ _ _ => (pe_cmpR op_in_sign (pv 2) (pe_glob (v := .str "0123456789") (by rfl) T.g_DIGITS ⟨_, rfl⟩) rfl))) pa_nil))))))) (pss_one (ps_ret pe_non)) pss_nil)
      (pss_one (ps_ret (pe_ifExp (PW.pt (pw_or (pt_cmpR op_ne (pe_ix ix_str (pv 1) pe_int (fun _ _ => rfl)) pe_str (nomark _)) (pw_or1 (pt_cmpR op_eq (pv 0) pe_str (nomark _))))) (pe_callTy call_int_str (by rfl) T.z_int (by decide +kernel) (pa_cons (pv 0) pa_nil)) pe_non)))))
    , ?_⟩
    refine ⟨fun σ' H' => σ' = [some (.str z), some (.str (bodyS z)), none] ∧ H' = H, ?_, ?_⟩
    · walk_at "rd"
      refine ⟨hz', ?_⟩
      walk_at "rd"
      rw [is_minus]
      refine ite2 (fun e => ?_) (fun e => ?_)
      · have e1 := of_decide_eq_true e
        walk_at "rd"
        refine ⟨hz', ?_⟩
        exact ⟨by rw [bodyS_cut e1] <;> rfl, rfl⟩
      · have e1 : ¬ (TL.tl z).take 1 = [45] := fun h => e (decide_eq_true h)
        walk_at "rd"
        exact ⟨by rw [← bodyS_same e1] <;> rfl, rfl⟩
    · rintro σ' H' ⟨rfl, rfl⟩
      have none_of : VT.shape (TL.tl z) = false → Q .non H' := fun e => by
        have := q H' (Same.refl _)
        unfold VT.numIn at this
        rw [e] at this
        exact this
      have none_of' : ∀ H1, Same H' H1 → VT.shape (TL.tl z) = false → Q .non H1 := fun H1 s1 e => by
        have := q H1 s1
        unfold VT.numIn at this
        rw [e] at this
        exact this
      have el : (bodyS z).length = (VT.body (TL.tl z)).length := by rw [TL.len_tl, tl_bodyS]
      walk_at "rd"
      refine ⟨hb', ?_⟩
      walk_at "rd"
      refine ite2 (fun e1 => ?_) (fun e1 => ?_)
      · have e1' := of_decide_eq_true e1
        walk_at "rd"
        refine ite2 (fun e2 => ?_) (fun e2 => ?_)
        · refine iteT (none_of ?_)
          simp at e2
          unfold VT.shape
          rw [decide_eq_false (by omega)]
          rfl
        · simp at e2
          walk_at "rd"
          refine fun D hD => lc_sel walk_strI (j := 2) (fun _ => true) (fun i => .bl (VT.isDig ((TL.tl (bodyS z)).getD i 0))) hD ?_ (fun _ _ => trivial) (fun _ => rfl) (fun _ _ _ _ => yt_yes) (fun i H1 hi _ s1 Q' q' => ?_) (fun H1 s1 h1 => ?_)
          · rw [tl_bodyS]
            omega
          · walk_at "rd"
            rw [in_digits]
            exact q' _ (Same.refl _)
          · have e3 : sel (TL.tl (bodyS z)).length (fun _ => true) (fun i => .bl (VT.isDig ((TL.tl (bodyS z)).getD i 0))) = ((TL.tl (bodyS z)).map VT.isDig).map V.bl := by
              rw [sel_all, List.map_map, ← range_map (TL.tl (bodyS z)) 0] <;> rfl
            rw [e3] at h1
            refine ⟨D, _, rfl, SqL.of h1, ?_⟩
            have e4 : ((TL.tl (bodyS z)).map VT.isDig).all id = (VT.body (TL.tl z)).all VT.isDig := by
              rw [tl_bodyS, List.all_map] <;> rfl
            walk_at "rd"
            rw [e4]
            cases hb : (VT.body (TL.tl z)).all VT.isDig with
            | false =>
              refine iteT (none_of' H1 s1 ?_)
              unfold VT.shape
              rw [hb, Bool.and_false]
            | true =>
              have hs : VT.shape (TL.tl z) = true := by
                unfold VT.shape
                rw [hb, decide_eq_true (by omega)]
                rfl
              refine iteF ?_
              obtain ⟨c, r, hc⟩ : ∃ c r, VT.body (TL.tl z) = c :: r := by
                cases h : VT.body (TL.tl z) with
                | nil => rw [h] at el; simp at el; omega
                | cons c r => exact ⟨c, r, rfl⟩
              walk_at "rd"
              refine ⟨_, _, c, rfl, rfl, hb', ?_, ?_⟩
              · show atI (TL.tl (bodyS z)) 0 = some c
                rw [tl_bodyS, hc]
                exact atI_nat (j := 0) rfl
              have hp : VT.plainN (TL.tl z) = (!decide (c = 48) || decide (TL.tl z = [48])) := by
                unfold VT.plainN
                rw [hc]
                congr 2
                exact decide_eq_decide.mpr ⟨fun e => Option.some.inj e, fun e => congrArg some e⟩
              have yes : VT.plainN (TL.tl z) = true → Q (.int (VT.val (TL.tl z))) H1 := fun e => by
                have := q H1 s1
                unfold VT.numIn at this
                rw [hs, e] at this
                exact this
              have no : VT.plainN (TL.tl z) = false → Q .non H1 := fun e => by
                have := q H1 s1
                unfold VT.numIn at this
                rw [hs, e] at this
                exact this
              have hlen : z.length ≤ 640 := by
                have := VT.shape_len hs
                rw [TL.len_tl]
                omega
              have sc : decide (V.str ⟨#[c]⟩ = V.str "0") = decide (c = 48) := decide_eq_decide.mpr ⟨fun e => by
                have e1 : TL.tl ⟨#[c]⟩ = TL.tl "0" := congrArg TL.tl (V.str.inj e)
                have e2 : [c] = [48] := e1
                injection e2, fun e => by rw [e] <;> rfl⟩
              have sz : decide (V.str z = V.str "0") = decide (TL.tl z = [48]) := decide_eq_decide.mpr ⟨fun e => by rw [V.str.inj e] <;> rfl, fun e => congrArg V.str (TL.ext_tl e)⟩
              walk_at "rd"
              rw [sc]
              by_cases c48 : c = 48
              · rw [decide_eq_true c48]
                walk_at "rd"
                rw [sz]
                by_cases z48 : TL.tl z = [48]
                · rw [decide_eq_true z48]
                  walk_at "rd"
                  refine ⟨z, _, rfl, VT.int_of_shape hs, hlen, yes ?_⟩
                  rw [hp, decide_eq_true z48, Bool.or_true]
                · rw [decide_eq_false z48]
                  refine no ?_
                  rw [hp, decide_eq_true c48, decide_eq_false z48] <;> rfl
              · rw [decide_eq_false c48]
                walk_at "rd"
                refine ⟨z, _, rfl, VT.int_of_shape hs, hlen, yes ?_⟩
                rw [hp, decide_eq_false c48] <;> rfl
      · walk_at "rd"
        refine iteT (iteT (none_of ?_))
        simp at e1
        unfold VT.shape
        rw [decide_eq_false (by omega)]
        rfl
end
end V55


set_option Elab.async false
set_option linter.all false
set_option maxRecDepth 100000
set_option maxHeartbeats 2000000
namespace V55
open PySem PySem.Spec PyProof.Rows L2
/-! ### the plain law -/
def nums (l : List Nat) : List (Option Int) := (VT.pieces [32] l).map VT.numIn
def vals (l : List Nat) : List Int := (VT.pieces [32] l).map VT.val
def readPoly (l : List Nat) : Option (List Int) := if none ∈ nums l then none else if vals l = [0] then some [] else if (vals l).getLast? = some 0 then none else some (vals l)
def polyOf (l : List Nat) : List (List Int) := match readPoly l with
  | none => []
  | some ns => [ns]
theorem nums_vals {l : List Nat} (h : none ∉ nums l) : nums l = (vals l).map some := by
  unfold nums vals at *
  rw [List.map_map]
  refine List.map_congr_left fun p hp => ?_
  cases e : VT.numIn p with
  | none => exact absurd (List.mem_map.mpr ⟨p, hp, e⟩) h
  | some n => rw [(VT.numIn_back e).2.1] <;> rfl
theorem back {l : List Nat} (h : none ∉ nums l) : (vals l).map VT.intL = VT.pieces [32] l := by
  unfold nums vals at *
  rw [List.map_map]
  conv => rhs; rw [← List.map_id (VT.pieces [32] l)]
  refine List.map_congr_left fun p hp => ?_
  cases e : VT.numIn p with
  | none => exact absurd (List.mem_map.mpr ⟨p, hp, e⟩) h
  | some n =>
    show VT.intL (VT.val p) = p
    rw [← (VT.numIn_back e).2.1]
    exact (VT.numIn_back e).1
theorem intL0 : VT.intL 0 = [48] := by
  rw [show (0 : Int) = ((0 : Nat) : Int) from rfl, VT.intL_nat, TL.numL_lt (by decide)]
theorem intL_inj {a b : Int} (h : VT.intL a = VT.intL b) (ha : a.natAbs < 10 ^ 9) (hb : b.natAbs < 10 ^ 9) : a = b := by
  have e1 := VT.numIn_intL ha
  have e2 := VT.numIn_intL hb
  rw [h, e2] at e1
  exact (Option.some.inj e1).symm
theorem vals_ne (l : List Nat) : vals l ≠ [] := fun e => VT.pieces_ne [32] l (List.map_eq_nil_iff.mp e)
theorem val_small {p : List Nat} (h : VT.shape p = true) : (VT.val p).natAbs < 10 ^ 9 := by
  obtain ⟨h1, h2, h3⟩ := VT.shape_digits h
  have key : ∀ (l : List Nat) , NumText.AllDigits l → NumText.digitsVal l < 10 ^ l.length := by
    intro l
    induction hn : l.length generalizing l with
    | zero =>
      intro _
      rw [List.length_eq_zero_iff.mp hn]
      decide
    | succ n ih =>
      intro ha
      have hne : l ≠ [] := fun z => by rw [z] at hn; cases hn
      have e := List.dropLast_concat_getLast hne
      have hl : l.dropLast.length = n := by rw [List.length_dropLast]; omega
      have hc := ha (l.getLast hne) (List.getLast_mem hne)
      have := ih l.dropLast hl (fun c hc => ha c (List.dropLast_subset l hc))
      rw [← e, VT.digitsVal_app, Nat.pow_succ]
      omega
  unfold VT.val
  unfold VT.body at h1 h3
  split
  · rename_i e
    rw [if_pos e] at h1 h3
    have := key _ h1
    have := Nat.pow_le_pow_right (by decide : 0 < 10) h3
    omega
  · rename_i e
    rw [if_neg e] at h1 h3
    have := key _ h1
    have := Nat.pow_le_pow_right (by decide : 0 < 10) h3
    omega
theorem vals_small {l : List Nat} (h : none ∉ nums l) : ∀ n ∈ vals l, n.natAbs < 10 ^ 9 := fun n hn => by
  unfold vals at hn
  obtain ⟨p, hp, rfl⟩ := List.mem_map.mp hn
  cases e : VT.numIn p with
  | none => exact absurd (List.mem_map.mpr ⟨p, hp, e⟩) h
  | some m => exact val_small (VT.numIn_back e).2.2
theorem vals_zero {l : List Nat} (h : none ∉ nums l) : vals l = [0] ↔ l = [48] := by
  constructor
  · intro e
    have b := back h
    rw [e] at b
    have j := VT.join_pieces (S := [32]) (by simp) l
    rw [← b] at j
    rw [← j]
    exact intL0
  · intro e
    rw [e]
    decide +kernel
theorem last_zero {l : List Nat} (h : none ∉ nums l) : (vals l).getLast? = some 0 ↔ (VT.pieces [32] l).getLast? = some [48] := by
  have b := back h
  rw [← b, List.getLast?_map]
  cases e : (vals l).getLast? with
  | none => simp
  | some n =>
    have hn : n ∈ vals l := List.mem_of_getLast? e
    constructor
    · intro q
      rw [Option.some.inj q]
      show some (VT.intL 0) = _
      rw [intL0]
    · intro q
      have q' : VT.intL n = [48] := Option.some.inj q
      rw [← intL0] at q'
      rw [intL_inj q' (vals_small h n hn) (by decide)]
/-! ### show_polynomial -/
def strI (n : Int) : Str := Str.ofString (toString n)
def showP (ns : List Int) : Str := if ns = [] then "0" else Txt.join " " (ns.map strI)
theorem tl_showP (ns : List Int) : TL.tl (showP ns) = if ns = [] then [48] else TL.joinL [32] (ns.map VT.intL) := by
  unfold showP
  split
  · rfl
  · rw [TL.join_eq, TL.tl_join, List.map_map] <;> rfl
theorem show_back {l : List Nat} {ns : List Int} (h : readPoly l = some ns) : TL.tl (showP ns) = l := by
  unfold readPoly at h
  split at h
  · cases h
  · rename_i h0
    split at h
    · rename_i h1
      have e := Option.some.inj h
      rw [← e, tl_showP, if_pos rfl]
      exact ((vals_zero h0).mp h1).symm
    · split at h
      · cases h
      · have e := Option.some.inj h
        rw [← e, tl_showP, if_neg (vals_ne l), back h0]
        exact VT.join_pieces (by simp) l
theorem intL_len {n : Int} (h : n.natAbs < 10 ^ 9) : (VT.intL n).length ≤ 10 := VT.shape_len (VT.numIn_back (VT.numIn_intL h)).2.2
theorem strI_len {n : Int} (h : n.natAbs < 10 ^ 9) : (strI n).length ≤ 10 := by
  rw [TL.len_tl]
  exact intL_len h
theorem sum_le {l : List Nat} {m : Nat} (h : ∀ x ∈ l, x ≤ m) : l.sum ≤ l.length * m := by
  induction l with
  | nil => simp
  | cons a r ih =>
    rw [List.sum_cons, List.length_cons, Nat.succ_mul]
    have := ih fun x hx => h x (List.mem_cons_of_mem _ hx)
    have := h a (List.mem_cons_self ..)
    omega
theorem log2_9 {n : Int} (h : n.natAbs < 10 ^ 9) : n.natAbs.log2 < 1920 := by
  have : n.natAbs.log2 < 31 := PySem.Flt.log2_lt_of (by decide) (Nat.lt_of_lt_of_le h (by decide))
  omega
def spShow (K : PySem.W.Frag) : Sp := fun vs H Q _ => ∃ (a : Addr) (ns : List Int), vs = [.ref a] ∧ SqL K H a (ns.map V.int) ∧ ns.length ≤ 100000 ∧ (∀ n ∈ ns, n.natAbs < 10 ^ 9) ∧ ∀ H', Same H H' → Q (.str (showP ns)) H'
section
variable {P : Program} {w : World} {K : PySem.W.Frag} {mg : Str → Option Value} {base : Heap}
theorem ok_show_polynomial (T : Txt K mg) : FnOk P w K mg base CX0 1 T.show_polynomial.f T.show_polynomial.fd ["one"] (spShow K) := by
  refine T.show_polynomial.F.ok sc_show_polynomial (fun vs H Q E h => ?_) (fun cdv A outer s H vs Q E hr h => ?_)
  · obtain ⟨a, ns, rfl, _⟩ := h
    rfl
  · obtain ⟨a, ns, rfl, hs, hl, hn, q⟩ := h
    refine ⟨_,
    (pss_one (ps_ret (pe_ifExp (pt_cmpR (op_neP hr.units) (pv 0) (pe_lst pa_nil) (nomark _)) (pe_join pe_str (pe_lc (own := [("number", 1)]) (g := gName 1) rfl sc_show_polynomial.nd (pi_list (pv 0)) (blkOk_by (own := [("number", 1)]) (N := ["one", "number"]) (sc := defScope s_show_polynomial) (by decide +kernel)) (fun _ _ _ _ _ => (pg_name (i := 1) sc_show_polynomial.nd rfl (Or.inl rfl))) (fun _ _ _ _ _ => pts_nil) (fun _ _ _ _ _ => (pe_callTy call_str_int (by rfl) T.z_str (by decide +kernel) (pa_cons (pv 1) pa_nil))))) pe_str)))
    , ?_⟩
    walk_at "rd"
    refine ⟨by decide, fun p hp => ?_⟩
    have s1 : Same H (upd H p (.lst [])) := (Same.refl H).new hp
    refine neP_of (x := ns) (y := []) (da_ints (s1.seq hs)) (da_nil (SqL.of upd_same)) (by decide) ?_
    walk_at "rd"
    by_cases h0 : ns = []
    · rw [decide_eq_true h0]
      have := q _ s1
      unfold showP at this
      rw [if_pos h0] at this
      exact this
    · rw [decide_eq_false h0]
      walk_at "rd"
      refine ⟨⟨_, s1.seq hs⟩, fun D hD => lc_sel walk_listI (j := 1) (fun _ => true) (fun i => .str (strI (ns.getD i 0))) hD ?_ (fun H1 t1 => (s1.trans t1).seq hs) (fun _ => rfl) (fun _ _ _ _ => yt_yes) (fun i H1 hi _ t1 Q' q' => ?_) (fun H1 t1 h1 => ?_)⟩
      · rw [List.length_map]
        omega
      · rw [List.length_map] at hi
        have e : (ns.map V.int).getD i .non = .int (ns.getD i 0) := by
          rw [List.getD_eq_getElem?_getD, List.getElem?_map, List.getD_eq_getElem?_getD, List.getElem?_eq_getElem hi] <;> rfl
        rw [e]
        walk_at "rd"
        refine ⟨log2_9 (hn _ (getD_in hi)), q' _ (Same.refl _)⟩
      · rw [List.length_map, sel_map ns 0 (fun n => V.str (strI n)), show ns.map (fun n => V.str (strI n)) = (ns.map strI).map V.str by rw [List.map_map] <;> rfl] at h1
        refine ⟨" ", D, ns.map strI, rfl, rfl, .inl (SqL.of h1), ?_, ?_⟩
        · have := sum_le (l := (ns.map strI).map (·.length)) (m := 10) (fun x hx => by
            obtain ⟨y, hy, rfl⟩ := List.mem_map.mp hx
            obtain ⟨n, hn', rfl⟩ := List.mem_map.mp hy
            exact strI_len (hn n hn'))
          rw [List.length_map, List.length_map] at this
          rw [List.length_map, show (Str.ofString " ").length = 1 from rfl]
          omega
        · have := q H1 (s1.trans t1)
          unfold showP at this
          rw [if_neg h0] at this
          exact this
/-! ### read_polynomial -/
theorem pieces_tl (z : Str) : (Txt.split z " ").map TL.tl = VT.pieces [32] (TL.tl z) := TL.split_spl z " " (by decide +kernel) (TL.kind_ok (by decide +kernel))
theorem piece_len {z p : Str} (h : p ∈ Txt.split z " ") : p.length ≤ z.length := by
  have hm : TL.tl p ∈ VT.pieces [32] (TL.tl z) := by
    rw [← pieces_tl]
    exact List.mem_map.mpr ⟨p, h, rfl⟩
  have h1 := VT.mem_total hm
  have h2 := VT.total_pieces (S := [32]) (by simp) (TL.tl z)
  rw [TL.len_tl, TL.len_tl z]
  omega
theorem split_many (z : Str) : (Txt.split z " ").length ≤ z.length + 1 := by
  have e := congrArg List.length (pieces_tl z)
  rw [List.length_map] at e
  rw [e, TL.len_tl]
  exact VT.spl_many [32] (TL.tl z) 0 []
theorem nums_split (z : Str) : (Txt.split z " ").map (fun p => oV (VT.numIn (TL.tl p))) = (nums (TL.tl z)).map oV := by
  unfold nums
  rw [← pieces_tl, List.map_map, List.map_map] <;> rfl
def spRead (C : Addr) : Sp := fun vs H Q E => ∃ z : Str, vs = [.str z] ∧ z.length ≤ 90000 ∧ (∀ ns, readPoly (TL.tl z) = some ns → ∀ (p : Addr) (H' : Hp), H p = none → Same H H' → H' p = some (.lst (ns.map V.int)) → Q (.ref p) H') ∧
  (readPoly (TL.tl z) = none → ∀ (d : Addr) (H' : Hp), H d = none → Same H H' → H' d = some (.xd [("value", .str z)]) → E (.ref C) (some d) H')
theorem ok_read_polynomial (T : Txt K mg) : FnOk P w K mg base (L2.CX P w) 4 T.read_polynomial.f T.read_polynomial.fd ["text"] (spRead T.Unreadable.C) := by
  refine T.read_polynomial.F.okX sc_read_polynomial (fun vs H Q E h => ?_) (fun cdv A outer s H vs Q E hr h => ?_)
  · obtain ⟨z, rfl, _⟩ := h
    rfl
  · obtain ⟨z, rfl, hz, qs, qn⟩ := h
    refine ⟨_,
    (pss_cons (ps_setLc (i := 1) (own := [("piece", 2)]) (g := gName 2) rfl sc_read_polynomial.nd rfl rfl (sw_true rfl rfl rfl (by decide +kernel)) (pi_list (pe_split (pv 0) pe_str)) (blkOk_by (own := [("piece", 2)]) (N := ["text", "found", "piece"]) (sc := defScope s_read_polynomial) (by decide +kernel)) (fun _ _ _ _ _ => (pg_name (i := 2) sc_read_polynomial.nd rfl (Or.inl rfl))) (fun _ _ _ _ _ => pts_nil) (fun _ _ _ _ _ => (pe_call (ok_number_in T) (hr.mono (by decide)) (by rfl) T.number_in.m T.number_in.F.kp T.number_in.b .nil pass0 (pa_cons (pv 2) pa_nil))))
      (pss_cons (ps_if (pt_cmpR (op_inP hr.units) pe_non (pv 1) rfl) (pss_one (ps_raise rfl (takes_of rfl rfl rfl rfl) (pmk_oex T.Unreadable.o T.Unreadable.i T.t_init (ok_init T) (hr.mono (by decide)) T.b_init .nil pass0 (by rfl) T.Unreadable.m (pa_cons (pv 0) pa_nil)))) pss_nil)
      (pss_cons (ps_if (pt_cmpR (op_eqP hr.units) (pv 1) (pe_lst (pa_cons pe_int pa_nil)) (nomark _)) (pss_one (ps_ret (pe_lst pa_nil))) pss_nil)
      (pss_cons (ps_if (PW.pt (pw_or (pt_cmpR op_eq (pe_ix ix_list (pv 1) (pe_un un_neg pe_int) (fun _ _ => rfl)) pe_int (nomark _)) (pw_or1 (pt_cmpR op_ne (pe_call (ok_show_polynomial T) (hr.mono (by decide)) (by rfl) T.show_polynomial.m T.show_polynomial.F.kp T.show_polynomial.b .nil pass0 (pa_cons (pv 1) pa_nil)) (pv 0) (nomark _))))) (pss_one (ps_raise rfl (takes_of rfl rfl rfl rfl) (pmk_oex T.Unreadable.o T.Unreadable.i T.t_init (ok_init T) (hr.mono (by decide)) T.b_init .nil pass0 (by rfl) T.Unreadable.m (pa_cons (pv 0) pa_nil)))) pss_nil)
      (pss_one (ps_ret (pv 1)))))))
    , ?_⟩
    walk_at "rd"
    refine ⟨Nat.le_trans (Nat.add_le_add_right hz 2) (by decide), fun p hp => ?_⟩
    have s1 : Same H (upd H p (.lst ((Txt.split z " ").map V.str))) := (Same.refl H).new hp
    walk_at "rd"
    refine ⟨⟨_, SqL.of upd_same⟩, fun D hD => lc_sel walk_listI (j := 2) (fun _ => true) (fun i => oV (VT.numIn (TL.tl ((Txt.split z " ").getD i "")))) hD ?_ (fun H1 t1 => SqL.of (t1 _ _ upd_same)) (fun _ => rfl) (fun _ _ _ _ => yt_yes) (fun i H1 hi _ t1 Q' q' => ?_) (fun H1 t1 h1 => ?_)⟩
    · rw [List.length_map]
      have := split_many z
      omega
    · rw [List.length_map] at hi
      rw [getD_map (d := ("" : Str)) hi]
      walk_at "rd"
      exact ⟨Nat.le_trans (piece_len (getD_in hi)) (by omega), q'⟩
    · rw [List.length_map, sel_map (Txt.split z " ") "" (fun p => oV (VT.numIn (TL.tl p))), nums_split] at h1
      have u1 := s1.trans t1
      walk_at "rd"
      refine inP_of (x := none) (xs := nums (TL.tl z)) decide_eq_true_iff .non (da_opts (SqL.of h1)) (by decide) ?_
      walk_at "rd"
      refine ite2 (fun h0 => ?_) (fun h0 => ?_)
      · have h0 := of_decide_eq_true h0
        walk_at "rd"
        refine mk_err T.Unreadable.o T.Unreadable.v fun d hd => qn ?_ d _ (u1.none hd) (u1.new hd) upd_same
        unfold readPoly
        rw [if_pos h0]
      · have h0 : none ∉ nums (TL.tl z) := fun q => h0 (decide_eq_true q)
        walk_at "rd"
        have e1 : (nums (TL.tl z)).map oV = (vals (TL.tl z)).map V.int := by
          rw [nums_vals h0, List.map_map] <;> rfl
        rw [e1] at h1
        refine ⟨by decide, fun p2 hp2 => ?_⟩
        have u2 := u1.new (o := .lst [.int 0]) hp2
        have h2 : upd H1 p2 (.lst [.int 0]) D = some (.lst ((vals (TL.tl z)).map V.int)) := by
          rw [upd_ne (ne_of_none h1 hp2)]
          exact h1
        generalize hH2 : upd H1 p2 (.lst [.int 0]) = H2 at u2 h2
        refine eqP_of (x := vals (TL.tl z)) (y := [0]) (da_ints (SqL.of h2)) (da_ints (ns := [0]) (SqL.of (by rw [← hH2]; exact upd_same))) (by decide) ?_
        walk_at "rd"
        refine ite2 (fun hz0 => ?_) (fun hz0 => ?_)
        · have hz0 := of_decide_eq_true hz0
          walk_at "rd"
          refine ⟨by decide, fun p3 hp3 => qs [] ?_ p3 _ (u2.none hp3) (u2.new hp3) upd_same⟩
          unfold readPoly
          rw [if_neg h0, if_pos hz0]
        · have hz0 : ¬ vals (TL.tl z) = [0] := fun q => hz0 (decide_eq_true q)
          walk_at "rd"
          obtain ⟨l, hl⟩ : ∃ l, (vals (TL.tl z)).getLast? = some l := ⟨_, List.getLast?_eq_some_getLast (vals_ne (TL.tl z))⟩
          refine ⟨D, _, -1, .int l, rfl, rfl, SqL.of h2, atI_end (by rw [List.getLast?_map, hl] <;> rfl), ?_⟩
          walk_at "rd"
          have el : decide (V.int l = V.int 0) = decide (l = 0) := decide_eq_decide.mpr ⟨V.int.inj, congrArg V.int⟩
          rw [el]
          by_cases hl0 : l = 0
          · rw [decide_eq_true hl0]
            walk_at "rd"
            refine mk_err T.Unreadable.o T.Unreadable.v fun d hd => qn ?_ d _ (u2.none hd) (u2.new hd) upd_same
            unfold readPoly
            rw [if_neg h0, if_neg hz0, if_pos (by rw [hl, hl0])]
          · rw [decide_eq_false hl0]
            have hr' : readPoly (TL.tl z) = some (vals (TL.tl z)) := by
              unfold readPoly
              rw [if_neg h0, if_neg hz0, if_neg (fun q => hl0 (by rw [hl] at q; exact Option.some.inj q))]
            walk_at "rd"
            refine ⟨D, vals (TL.tl z), rfl, SqL.of h2, ?_, vals_small h0, fun H3 t3 => ?_⟩
            · unfold vals
              rw [← pieces_tl, List.length_map, List.length_map]
              have := split_many z
              omega
            walk_at "rd"
            have es : showP (vals (TL.tl z)) = z := TL.ext_tl (show_back hr')
            rw [es, decide_eq_true rfl]
            walk_at "rd"
            exact qs _ hr' D H3 ((s1.none hD)) (u2.trans t3) (t3 _ _ h2)
end
end V55


set_option Elab.async false
set_option linter.all false
set_option maxRecDepth 100000
set_option maxHeartbeats 2000000
namespace V55
open PySem PySem.Spec PyProof.Rows L2
section
variable {P : Program} {w : World} {K : PySem.W.Frag} {mg : Str → Option Value} {base : Heap}
def isNum (l : List Nat) : Bool := (VT.numIn l).isSome
theorem isNum_eq (l : List Nat) : isNum l = (VT.shape l && VT.plainN l) := by
  unfold isNum VT.numIn
  cases VT.shape l && VT.plainN l <;> rfl
def spIsNum : Sp := fun vs H Q _ => ∃ z : Str, vs = [.str z] ∧ z.length ≤ 100000 ∧ ∀ H', Same H H' → Q (.bl (isNum (TL.tl z))) H'
theorem ok_law_is_number (T : Txt K mg) : FnOk P w K mg base CX0 1 T.law_is_number.f T.law_is_number.fd ["piece"] spIsNum := by
  refine T.law_is_number.F.ok sc_law_is_number (fun vs H Q E h => ?_) (fun cdv A outer s H vs Q E hr h => ?_)
  · obtain ⟨z, rfl, _⟩ := h
    rfl
  · obtain ⟨z, rfl, hz, q⟩ := h
    have hz' : z.length ≤ sizeLine := Nat.le_trans hz (by decide)
    have hb' : (bodyS z).length ≤ sizeLine := Nat.le_trans (bodyS_len z) hz'
    have el : (bodyS z).length = (VT.body (TL.tl z)).length := by rw [TL.len_tl, tl_bodyS]
    refine ⟨_,
    (pss_mid (ps_set (i := 1) sc_law_is_number.nd rfl (.inl rfl) (pe_ifExp (pt_cmpR op_eq (pe_slice sl_str (pv 0) po_none (po_some pe_int)) pe_str (nomark _)) (pe_slice sl_str (pv 0) (po_some pe_int) po_none) (pv 0)))
      (pss_cons (ps_if (PW.pt (pw_or (pt_not (pt_chain op_lt op_lt pe_int (pe_callB call_len_str (by rfl) T.z_len (by decide +kernel) (pa_cons (pv 1) pa_nil)) pe_int)) (pw_or1 (pt_cmpR (op_neP hr.units) (pe_lc (own := [("sign_now", 2)]) (g := gName 2) rfl sc_law_is_number.nd (pi_str (pv 1)) (blkOk_by (own := [("sign_now", 2)]) (N := ["piece", "size", "sign_now"]) (sc := defScope s_law_is_number) (by decide +kernel)) (fun _ _ _ _ _ => (pg_name (i := 2) sc_law_is_number.nd rfl (Or.inl rfl))) (fun _ _ _ _ _ => (pts_one (pt_cmpR op_notIn_sign (pv 2) pe_str rfl))) (fun _ _ _ _ _ => (pv 2))) (pe_lst pa_nil) (nomark _))))) (pss_one (ps_ret pe_bl)) pss_nil)
      (pss_one (ps_ret (pe_cmpR op_eq (pe_callTy call_str_int (by rfl) T.z_str (by decide +kernel) (pa_cons (pe_callTy call_int_str (by rfl) T.z_int (by decide +kernel) (pa_cons (pv 0) pa_nil)) pa_nil)) (pv 0) (nomark _))))))
    , ?_⟩
    refine ⟨fun σ' H' => σ' = [some (.str z), some (.str (bodyS z)), none] ∧ H' = H, ?_, ?_⟩
    · walk_at "rd"
      refine ⟨hz', ?_⟩
      walk_at "rd"
      rw [is_minus]
      refine ite2 (fun e => ?_) (fun e => ?_)
      · have e1 := of_decide_eq_true e
        walk_at "rd"
        refine ⟨hz', ?_⟩
        exact ⟨by rw [bodyS_cut e1] <;> rfl, rfl⟩
      · have e1 : ¬ (TL.tl z).take 1 = [45] := fun h => e (decide_eq_true h)
        walk_at "rd"
        exact ⟨by rw [← bodyS_same e1] <;> rfl, rfl⟩
    · rintro σ' H' ⟨rfl, rfl⟩
      have no : VT.shape (TL.tl z) = false → ∀ H1, Same H' H1 → Q (.bl false) H1 := fun e H1 s1 => by
        have := q H1 s1
        rw [isNum_eq, e] at this
        exact this
      walk_at "rd"
      refine ⟨hb', ?_⟩
      walk_at "rd"
      refine ite2 (fun e1 => ?_) (fun e1 => ?_)
      · have e1' := of_decide_eq_true e1
        walk_at "rd"
        refine ite2 (fun e2 => ?_) (fun e2 => ?_)
        · refine iteT (no ?_ _ (Same.refl _))
          simp at e2
          unfold VT.shape
          rw [decide_eq_false (by omega)]
          rfl
        · simp at e2
          walk_at "rd"
          refine fun D hD => lc_sel walk_strI (j := 2) (fun i => !VT.isDig ((TL.tl (bodyS z)).getD i 0)) (fun i => .str ⟨#[(TL.tl (bodyS z)).getD i 0]⟩) hD ?_ (fun _ _ => trivial) (fun _ => rfl) (fun i H1 hi s1 Q' q' => ?_) (fun i H1 hi _ s1 Q' q' => ?_) (fun H1 s1 h1 => ?_)
          · rw [tl_bodyS]
            omega
          · walk_at "rd"
            rw [in_digits]
            exact q' _ (Same.refl _)
          · walk_at "rd"
            exact q' _ (Same.refl _)
          · rw [range_sel (TL.tl (bodyS z)) 0 (fun c => !VT.isDig c) (fun c => V.str ⟨#[c]⟩), tl_bodyS] at h1
            have e3 : ((VT.body (TL.tl z)).filter fun c => !VT.isDig c).map (fun c => V.str ⟨#[c]⟩) = (((VT.body (TL.tl z)).filter fun c => !VT.isDig c).map fun c => (⟨#[c]⟩ : Str)).map V.str := by
              rw [List.map_map] <;> rfl
            rw [e3] at h1
            walk_at "rd"
            refine ⟨by decide, fun p hp => ?_⟩
            have s2 := s1.new (o := .lst []) hp
            refine neP_of (x := ((VT.body (TL.tl z)).filter fun c => !VT.isDig c).map fun c => (⟨#[c]⟩ : Str)) (y := []) (da_strs (SqL.of (by rw [upd_ne (ne_of_none h1 hp)]; exact h1))) (da_nil (SqL.of upd_same)) (by decide) ?_
            walk_at "rd"
            by_cases ha : (VT.body (TL.tl z)).all VT.isDig = true
            · have hs : VT.shape (TL.tl z) = true := by
                unfold VT.shape
                rw [ha, decide_eq_true (by omega)]
                rfl
              have ef : ((VT.body (TL.tl z)).filter fun c => !VT.isDig c) = [] := List.filter_eq_nil_iff.mpr fun c hc => by
                rw [List.all_eq_true.mp ha c hc]
                decide
              rw [ef]
              refine iteF ?_
              walk_at "rd"
              refine ⟨z, _, rfl, VT.int_of_shape hs, ?_, ?_⟩
              · have := VT.shape_len hs
                rw [TL.len_tl]
                omega
              walk_at "rd"
              refine ⟨log2_9 (val_small hs), ?_⟩
              walk_at "rd"
              have := q _ s2
              rw [isNum_eq, hs, Bool.true_and, ← VT.intL_val hs] at this
              have ed : decide (V.str (Str.ofString (toString (VT.val (TL.tl z)))) = V.str z) = decide (VT.intL (VT.val (TL.tl z)) = TL.tl z) :=
                decide_eq_decide.mpr ⟨fun e => congrArg TL.tl (V.str.inj e), fun e => congrArg V.str (TL.ext_tl e)⟩
              rw [ed]
              exact this
            · have ef : ¬ (((VT.body (TL.tl z)).filter fun c => !VT.isDig c).map fun c => (⟨#[c]⟩ : Str)) = [] := fun q => ha (by
                rw [List.map_eq_nil_iff, List.filter_eq_nil_iff] at q
                refine List.all_eq_true.mpr fun c hc => ?_
                have := q c hc
                simpa using this)
              rw [decide_eq_false ef]
              refine iteT (no ?_ _ s2)
              unfold VT.shape
              rw [Bool.eq_false_iff.mpr ha, Bool.and_false]
      · walk_at "rd"
        refine iteT (iteT (no ?_ _ (Same.refl _)))
        simp at e1
        unfold VT.shape
        rw [decide_eq_false (by omega)]
        rfl
/-! ### the law's own reader -/
def spPolyOf (K : PySem.W.Frag) : Sp := fun vs H Q _ => ∃ z : Str, vs = [.str z] ∧ z.length ≤ 90000 ∧ ∀ (v : V) (H' : Hp), Same H H' → DAt K H' v (polyOf (TL.tl z)) → Q v H'
theorem ok_law_polynomial_of (T : Txt K mg) : FnOk P w K mg base CX0 2 T.law_polynomial_of.f T.law_polynomial_of.fd ["wording"] (spPolyOf K) := by
  refine T.law_polynomial_of.F.ok sc_law_polynomial_of (fun vs H Q E h => ?_) (fun cdv A outer s H vs Q E hr h => ?_)
  · obtain ⟨z, rfl, _⟩ := h
    rfl
  · obtain ⟨z, rfl, hz, q⟩ := h
    refine ⟨_,
    (pss_cons (ps_set (i := 1) sc_law_polynomial_of.nd rfl (.inl rfl) (pe_split (pv 0) pe_str))
      (pss_cons (ps_if (pt_cmpR (op_neP hr.units) (pe_lc (own := [("piece", 2)]) (g := gName 2) rfl sc_law_polynomial_of.nd (pi_list (pv 1)) (blkOk_by (own := [("piece", 2)]) (N := ["wording", "pieces_now", "piece"]) (sc := defScope s_law_polynomial_of) (by decide +kernel)) (fun _ _ _ _ _ => (pg_name (i := 2) sc_law_polynomial_of.nd rfl (Or.inl rfl))) (fun _ _ _ _ _ => (pts_one (pt_not (pt_val (pe_call (ok_law_is_number T) (hr.mono (by decide)) (by rfl) T.law_is_number.m T.law_is_number.F.kp T.law_is_number.b .nil pass0 (pa_cons (pv 2) pa_nil)))))) (fun _ _ _ _ _ => (pv 2))) (pe_lst pa_nil) (nomark _)) (pss_one (ps_ret (pe_lst pa_nil))) pss_nil)
      (pss_cons (ps_if (pt_cmpR op_eq (pv 0) pe_str (nomark _)) (pss_one (ps_ret (pe_lst (pa_cons (pe_lst pa_nil) pa_nil)))) pss_nil)
      (pss_one (ps_ret (pe_ifExp (pt_cmpR op_eq (pe_ix ix_list (pv 1) (pe_un un_neg pe_int) (fun _ _ => rfl)) pe_str (nomark _)) (pe_lst pa_nil) (pe_lst (pa_cons (pe_lc (own := [("piece", 2)]) (g := gName 2) rfl sc_law_polynomial_of.nd (pi_list (pv 1)) (blkOk_by (own := [("piece", 2)]) (N := ["wording", "pieces_now", "piece"]) (sc := defScope s_law_polynomial_of) (by decide +kernel)) (fun _ _ _ _ _ => (pg_name (i := 2) sc_law_polynomial_of.nd rfl (Or.inl rfl))) (fun _ _ _ _ _ => pts_nil) (fun _ _ _ _ _ => (pe_callTy call_int_str (by rfl) T.z_int (by decide +kernel) (pa_cons (pv 2) pa_nil)))) pa_nil))))))))
    , ?_⟩
    walk_at "rd"
    refine ⟨Nat.le_trans (Nat.add_le_add_right hz 2) (by decide), fun p hp => ?_⟩
    have s1 : Same H (upd H p (.lst ((Txt.split z " ").map V.str))) := (Same.refl H).new hp
    have hm := split_many z
    walk_at "rd"
    refine ⟨⟨_, SqL.of upd_same⟩, fun D hD => lc_sel walk_listI (j := 2) (fun i => !isNum (TL.tl ((Txt.split z " ").getD i ""))) (fun i => .str ((Txt.split z " ").getD i "")) hD ?_ (fun H1 t1 => SqL.of (t1 _ _ upd_same)) (fun _ => rfl) (fun i H1 hi t1 Q' q' => ?_) (fun i H1 hi _ t1 Q' q' => ?_) (fun H1 t1 h1 => ?_)⟩
    · rw [List.length_map]
      omega
    · rw [List.length_map] at hi
      rw [getD_map (d := ("" : Str)) hi]
      walk_at "rd"
      refine ⟨Nat.le_trans (piece_len (getD_in hi)) (by omega), fun H2 t2 => ?_⟩
      walk_at "rd"
      exact q' _ t2
    · rw [List.length_map] at hi
      rw [getD_map (d := ("" : Str)) hi]
      walk_at "rd"
      exact q' _ (Same.refl _)
    · rw [List.length_map, range_sel (Txt.split z " ") ("" : Str) (fun p => !isNum (TL.tl p)) V.str] at h1
      have hp1 : H1 p = some (.lst ((Txt.split z " ").map V.str)) := t1 _ _ upd_same
      have u1 := s1.trans t1
      walk_at "rd"
      refine ⟨by decide, fun p2 hp2 => ?_⟩
      have u2 := u1.new (o := .lst []) hp2
      have hp3 : upd H1 p2 (.lst []) p = some (.lst ((Txt.split z " ").map V.str)) := by rw [upd_ne (ne_of_none hp1 hp2)]; exact hp1
      have h2 : upd H1 p2 (.lst []) D = some (.lst (((Txt.split z " ").filter fun p => !isNum (TL.tl p)).map V.str)) := by rw [upd_ne (ne_of_none h1 hp2)]; exact h1
      generalize hH2 : upd H1 p2 (.lst []) = H2 at u2 h2 hp3
      refine neP_of (x := (Txt.split z " ").filter fun p => !isNum (TL.tl p)) (y := []) (da_strs (SqL.of h2)) (da_nil (SqL.of (by rw [← hH2]; exact upd_same))) (by decide) ?_
      walk_at "rd"
      have hn : ((Txt.split z " ").filter fun p => !isNum (TL.tl p)) = [] ↔ none ∉ nums (TL.tl z) := by
        rw [List.filter_eq_nil_iff]
        unfold nums
        rw [← pieces_tl, List.map_map, List.mem_map]
        constructor
        · rintro h ⟨p, hp, e⟩
          have := h p hp
          unfold isNum at this
          rw [show VT.numIn (TL.tl p) = none from e] at this
          exact this rfl
        · intro h p hp e
          refine h ⟨p, hp, ?_⟩
          unfold isNum at e
          cases hc : VT.numIn (TL.tl p) with
          | none => exact hc
          | some n => rw [hc] at e; cases e
      by_cases h0 : none ∈ nums (TL.tl z)
      · have hf : ¬ ((Txt.split z " ").filter fun p => !isNum (TL.tl p)) = [] := fun e => hn.mp e h0
        rw [decide_eq_false hf]
        walk_at "rd"
        refine ⟨by decide, fun p3 hp3 => q _ _ (u2.new hp3) ?_⟩
        have : polyOf (TL.tl z) = [] := by
          unfold polyOf readPoly
          rw [if_pos h0]
        rw [this]
        exact da_nil (SqL.of upd_same)
      · rw [decide_eq_true (hn.mpr h0)]
        walk_at "rd"
        have ez : decide (V.str z = V.str "0") = decide (vals (TL.tl z) = [0]) := decide_eq_decide.mpr ⟨fun e => (vals_zero h0).mpr (by rw [V.str.inj e] <;> rfl), fun e => congrArg V.str (TL.ext_tl ((vals_zero h0).mp e))⟩
        rw [ez]
        by_cases hz0 : vals (TL.tl z) = [0]
        · rw [decide_eq_true hz0]
          walk_at "rd"
          refine ⟨by decide, fun p3 hp3 => ⟨(by show 1 ≤ sizeLine; decide), fun p4 hp4 => q _ _ ((u2.new hp3).new hp4) ?_⟩⟩
          have : polyOf (TL.tl z) = [[]] := by
            unfold polyOf readPoly
            rw [if_neg h0, if_pos hz0]
          rw [this]
          exact da_one (SqL.of upd_same) (da_nil (SqL.of (by rw [upd_ne (ne_of_none upd_same hp4)]; exact upd_same)))
        · rw [decide_eq_false hz0]
          walk_at "rd"
          have hne : Txt.split z " " ≠ [] := fun e => VT.pieces_ne [32] (TL.tl z) (by rw [← pieces_tl, e] <;> rfl)
          obtain ⟨lp, hl⟩ : ∃ l, (Txt.split z " ").getLast? = some l := ⟨_, List.getLast?_eq_some_getLast hne⟩
          refine ⟨p, _, -1, .str lp, rfl, rfl, SqL.of hp3, atI_end (by rw [List.getLast?_map, hl] <;> rfl), ?_⟩
          walk_at "rd"
          have el : decide (V.str lp = V.str "0") = decide ((vals (TL.tl z)).getLast? = some 0) := decide_eq_decide.mpr (by
            rw [last_zero h0, ← pieces_tl, List.getLast?_map, hl]
            exact ⟨fun e => by rw [V.str.inj e] <;> rfl, fun e => congrArg V.str (TL.ext_tl (Option.some.inj e))⟩)
          rw [el]
          by_cases hl0 : (vals (TL.tl z)).getLast? = some 0
          · rw [decide_eq_true hl0]
            walk_at "rd"
            refine ⟨by decide, fun p3 hp3 => q _ _ (u2.new hp3) ?_⟩
            have : polyOf (TL.tl z) = [] := by
              unfold polyOf readPoly
              rw [if_neg h0, if_neg hz0, if_pos hl0]
            rw [this]
            exact da_nil (SqL.of upd_same)
          · rw [decide_eq_false hl0]
            walk_at "rd"
            refine ⟨⟨_, SqL.of hp3⟩, fun D2 hD2 => lc_sel walk_listI (j := 2) (fun _ => true) (fun i => .int (VT.val (TL.tl ((Txt.split z " ").getD i "")))) hD2 ?_ (fun H3 t3 => SqL.of (t3 _ _ hp3)) (fun _ => rfl) (fun _ _ _ _ => yt_yes) (fun i H3 hi _ t3 Q' q' => ?_) (fun H3 t3 h3 => ?_)⟩
            · rw [List.length_map]
              omega
            · rw [List.length_map] at hi
              rw [getD_map (d := ("" : Str)) hi]
              walk_at "rd"
              have hs : VT.shape (TL.tl ((Txt.split z " ").getD i "")) = true := by
                cases e : VT.numIn (TL.tl ((Txt.split z " ").getD i "")) with
                | none =>
                  refine absurd (?_ : none ∈ nums (TL.tl z)) h0
                  unfold nums
                  rw [← pieces_tl, List.map_map]
                  exact List.mem_map.mpr ⟨_, getD_in hi, e⟩
                | some n => exact (VT.numIn_back e).2.2
              refine ⟨_, _, rfl, VT.int_of_shape hs, ?_, q' _ (Same.refl _)⟩
              have := VT.shape_len hs
              rw [TL.len_tl]
              omega
            · rw [List.length_map, sel_map (Txt.split z " ") ("" : Str) (fun p => V.int (VT.val (TL.tl p))), show (Txt.split z " ").map (fun p => V.int (VT.val (TL.tl p))) = (vals (TL.tl z)).map V.int by
                unfold vals
                rw [← pieces_tl, List.map_map, List.map_map] <;> rfl] at h3
              refine ⟨(by show 1 ≤ sizeLine; decide), fun p4 hp4 => q _ _ ((u2.trans t3).new hp4) ?_⟩
              have : polyOf (TL.tl z) = [vals (TL.tl z)] := by
                unfold polyOf readPoly
                rw [if_neg h0, if_neg hz0, if_neg hl0]
              rw [this]
              exact da_one (SqL.of upd_same) (da_ints (SqL.of (by rw [upd_ne (ne_of_none h3 hp4)]; exact h3)))
theorem read_small {l : List Nat} {ns : List Int} (h : readPoly l = some ns) : (∀ n ∈ ns, n.natAbs < 10 ^ 9) ∧ ns.length ≤ l.length + 1 := by
  unfold readPoly at h
  split at h
  · cases h
  · rename_i h0
    split at h
    · rw [← Option.some.inj h]
      exact ⟨fun n hn => absurd hn (by simp), Nat.zero_le _⟩
    · split at h
      · cases h
      · rw [← Option.some.inj h]
        refine ⟨vals_small h0, ?_⟩
        unfold vals
        rw [List.length_map]
        exact VT.spl_many [32] l 0 []
def spCaught (K : PySem.W.Frag) : Sp := fun vs H Q _ => ∃ (z : Str) (m : Int), vs = [.str z, .int m] ∧ z.length ≤ 90000 ∧ ∀ (v : V) (H' : Hp), Same H H' → DAt K H' v (polyOf (TL.tl z)) → Q v H'
theorem ok_law_caught_one (T : Txt K mg) : FnOk P w K mg base CX0 5 T.law_caught_one.f T.law_caught_one.fd ["wording", "way"] (spCaught K) := by
  refine T.law_caught_one.F.ok sc_law_caught_one (fun vs H Q E h => ?_) (fun cdv A outer s H vs Q E hr h => ?_)
  · obtain ⟨z, m, rfl, _⟩ := h
    rfl
  · obtain ⟨z, m, rfl, hz, q⟩ := h
    refine ⟨_,
    (pss_cons (ps_set (i := 2) sc_law_caught_one.nd rfl (.inl rfl) (pe_lst pa_nil))
      (pss_cons (ps_try_as (i := 3) rfl rfl sc_law_caught_one.nd rfl rfl ⟨rfl, by decide, Or.inl T.m_C0⟩ takes0 (fun W pn xe tk _ => (pss_cons (ps_set (i := 4) sc_law_caught_one.nd rfl (.inl rfl) (pe_ifExp (pt_cmpR op_eq (pv 1) pe_int (nomark _)) (pe_callS (ok_read_polynomial T) (hr.mono (by decide)) (by rfl) T.read_polynomial.m T.read_polynomial.F.kp T.read_polynomial.b (fun σ => passAt tk σ) (pa_cons (pv 0) pa_nil)) (pe_callKS0 (ok_read_polynomial T) (hr.mono (by decide)) (by rfl) T.read_polynomial.m T.read_polynomial.F.kp (T.read_polynomial.F.kb1 (fun _ _ _ _ _ _ _ => rfl) (fun _ _ _ _ _ _ _ => rfl)) (fun σ => passAt tk σ) (pk_cons (pv 0) pk_nil))))
      (pss_one (ps_set (i := 2) sc_law_caught_one.nd rfl (.inl rfl) (pe_ifExp (pt_cmpR op_eq (pe_call (ok_show_polynomial T) (hr.mono (by decide)) (by rfl) T.show_polynomial.m T.show_polynomial.F.kp T.show_polynomial.b .nil pass0 (pa_cons (pv 4) pa_nil)) (pv 0) (nomark _)) (pe_lst (pa_cons (pv 4) pa_nil)) (pe_lst (pa_cons pe_str pa_nil)))))))
      (fun a oe cls d pn hz hf => (pss_cons (ps_set (i := 5) sc_law_caught_one.nd rfl (.inl rfl) (pe_or (pe_callB (call_isV hz hf) (by rfl) T.z_isinstance (by decide +kernel) (pa_cons (pv 3) (pa_cons (pe_glob (v := .ref T.InvalidPolynomial.C) (by rfl) T.InvalidPolynomial.m rfl) pa_nil))) (pe_one (pe_not (pe_callB (call_isV hz hf) (by rfl) T.z_isinstance (by decide +kernel) (pa_cons (pv 3) (pa_cons (pe_glob (v := .ref T.Unreadable.C) (by rfl) T.Unreadable.m rfl) pa_nil)))))))
      (pss_one (ps_set (i := 2) sc_law_caught_one.nd rfl (.inl rfl) (pe_ifExp (PW.pt (pw_or (pt_val (pv 5)) (pw_or1 (pt_cmpR op_ne (pe_xv hz hf (pv 3)) (pv 0) (nomark _))))) (pe_lst (pa_cons pe_str pa_nil)) (pe_lst pa_nil)))))))
      (pss_one (ps_ret (pv 2)))))
    , ?_⟩
    refine ⟨by decide, fun p hp => ?_⟩
    have s1 := (Same.refl H).new (o := .lst []) hp
    walk_at "rd"
    refine ite2 (fun _ => ?_) (fun _ => ?_)
    all_goals
      walk_at "rd"
      refine ⟨hz, fun ns hns p2 H2 hp2 s2 h2 => ?_, fun hnone d H2 hd s2 h2 => ?_⟩
      · obtain ⟨r1, r2⟩ := read_small hns
        rw [← TL.len_tl] at r2
        walk_at "rd"
        refine ⟨p2, ns, rfl, SqL.of h2, by omega, r1, fun H3 s3 => ?_⟩
        walk_at "rd"
        rw [show showP ns = z from TL.ext_tl (show_back hns), decide_eq_true rfl]
        walk_at "rd"
        refine ⟨(by show 1 ≤ sizeLine; decide), fun p3 hp3 => ?_⟩
        walk_at "rd"
        refine q _ _ (((s1.trans s2).trans s3).new hp3) ?_
        have : polyOf (TL.tl z) = [ns] := by
          unfold polyOf
          rw [hns]
        rw [this]
        have h3 := s3 _ _ h2
        exact da_one (SqL.of upd_same) (da_ints (SqL.of (by rw [upd_ne (ne_of_none h3 hp3)]; exact h3)))
      · refine ⟨true, T.Unreadable.t, fun _ a ha => ?_, fun q => nomatch q⟩
        walk_at "rd"
        refine ⟨_, _, _, _, _, false, rfl, rfl, T.Unreadable.e, h2, rfl, fun u r => r, T.k_no, ?_⟩
        walk_at "rd"
        refine ⟨_, _, _, _, _, true, rfl, rfl, T.Unreadable.e, h2, rfl, fun u r => r, T.k_yes, ?_⟩
        walk_at "rd"
        refine ⟨_, _, _, _, rfl, T.Unreadable.e, T.Unreadable.v, rfl, h2, rfl, ?_⟩
        walk_at "rd"
        rw [decide_eq_true rfl]
        walk_at "rd"
        refine ⟨by decide, fun p3 hp3 => ?_⟩
        walk_at "rd"
        refine q _ _ ((s1.trans s2).new hp3) ?_
        have : polyOf (TL.tl z) = [] := by
          unfold polyOf
          rw [hnone]
        rw [this]
        exact da_nil (SqL.of upd_same)
end
end V55


set_option Elab.async false
set_option linter.all false
set_option maxRecDepth 100000
set_option maxHeartbeats 2000000
namespace V55
open PySem PySem.Spec PyProof.Rows L2
section
variable {P : Program} {w : World} {K : PySem.W.Frag} {mg : Str → Option Value} {base : Heap}
def spOdd : Sp := fun vs H Q _ => ∃ (a : Addr) (z : Str) (k : Int), vs = [.ref a, .str z] ∧ z.length ≤ 1000 ∧ PurseAt H a k ∧ k ≤ 900000 ∧ ∀ (r : Str) (H' : Hp), r.length ≤ 9000 → PurseAt H' a (k + 2) → KeepBut a H H' → Q (.str r) H'
/-- the menu so far -/
def Menu (H0 : Hp) (a l : Addr) (n : Nat) (k : Int) (H : Hp) : Prop := ∃ vs : List V, H l = some (.lst vs) ∧ Strs 9000 vs ∧ vs.length = n ∧ PurseAt H a k ∧ KeepBut a H0 H ∧ l ≠ a
theorem Menu.more {H0 H H1 : Hp} {a l : Addr} {n m : Nat} {k : Int} (M : Menu H0 a l n k H) {ws : List V} (s : Same H H1) (hw : Strs 9000 ws) (hl : ws.length = m) (hm : m ≤ 20) (hn : n ≤ 200) {σ : L2.St} {D : L2.St → Hp → Prop}
    (q : ∀ l' H', Menu H0 a l' (n + m) k H' → D (σ.set 2 (some (.ref l'))) H') :
    ws.length ≤ sizeLine ∧ ∀ p, H1 p = none → rCat (.ref l) (.ref p) (upd H1 p (.lst ws)) fun x H2 => gName 2 x σ H2 D := by
  obtain ⟨vs, h1, h2, h3, h4, h5, h6⟩ := M
  refine ⟨Nat.le_trans (hl ▸ hm) (by decide), fun p hp => ?_⟩
  have t1 : Same H (upd H1 p (.lst ws)) := s.new hp
  have hv : vs.length + ws.length ≤ 220 := by omega
  refine ⟨l, p, vs, ws, rfl, rfl, t1 _ _ h1, upd_same, Nat.le_trans hv (by decide), fun p2 hp2 => ?_⟩
  have t2 : Same H (upd (upd H1 p (.lst ws)) p2 (.lst (vs ++ ws))) := t1.new hp2
  refine q p2 _ ⟨_, upd_same, h2.app hw, by rw [List.length_append]; omega, h4.keep t2, h5.trans (KeepBut.of t2), fun e => ?_⟩
  obtain ⟨o, ho⟩ := h4.some
  have := t1 _ _ ho
  rw [← e, hp2] at this
  cases this
theorem Menu.coin {H0 H H1 : Hp} {a l : Addr} {n : Nat} {k : Int} (M : Menu H0 a l n k H) (h : KeepBut a H H1) (hp : PurseAt H1 a (k + 1)) : Menu H0 a l n (k + 1) H1 := by
  obtain ⟨vs, h1, h2, h3, h4, h5, h6⟩ := M
  exact ⟨vs, h _ _ h6 h1, h2, h3, hp, h5.trans h, h6⟩
theorem Menu.purse {H0 H : Hp} {a l : Addr} {n : Nat} {k : Int} (M : Menu H0 a l n k H) : PurseAt H a k := by
  obtain ⟨vs, h1, h2, h3, h4, h5, h6⟩ := M
  exact h4
local macro_rules | `(tactic| walk_at "lit") => `(tactic| first | exact .nil | (refine .cons (by decide +kernel) ?_; walk_at "lit"))
theorem rd_lst {t : TA} {σ : L2.St} {H : Hp} {Q : VK} (h : t σ H fun xs H1 => xs.length ≤ sizeLine ∧ ∀ p, H1 p = none → Q (.ref p) (upd H1 p (.lst xs))) : tLst t σ H Q := h
theorem rd_cons {ta : TE} {tr : TA} {σ : L2.St} {H : Hp} {Q : List V → Hp → Prop} (h : ta σ H fun x H1 => tr σ H1 fun xs H2 => Q (x :: xs) H2) : tCons ta tr σ H Q := h
theorem rd_op {r : R2} {ta tb : TE} {σ : L2.St} {H : Hp} {Q : VK} (h : ta σ H fun x H1 => tb σ H1 fun y H2 => r x y H2 Q) : tOp r ta tb σ H Q := h
/-- a join of a word many times, as it is read -/
theorem joinRep {K' : PySem.W.Frag} {sep wd : Str} {σ : L2.St} {H : Hp} {Q : VK} {m : Int} {R : V → List V → Hp → VK → Prop} (hR : R = fun x xs H_1 Q => ∃ a p ys, x = V.str a ∧ xs = [V.ref p] ∧ (SqL K' H_1 p (List.map V.str ys) ∨ SqT K' H_1 p (List.map V.str ys)) ∧
      (List.map (fun x => x.length) ys).sum + ys.length * a.length ≤ 16777216 ∧ Q (V.str (Txt.join a ys)) H_1) (h3 : σ[3]? = some (some (.int m))) (m0 : 0 ≤ m) (m1 : m ≤ 600) (hs : sep.length ≤ 1) (hw : wd.length ≤ 3)
    (q : ∀ (r : Str) H', Same H H' → r.length ≤ 2400 → Q (.str r) H') : tM1 R (tC (.str sep)) (tOp rRep (tLst (tCons (tC (.str wd)) tNil)) (tVar 3)) σ H Q := by
  subst hR
  refine ⟨⟨_, rfl⟩, (by show 1 ≤ sizeLine; decide), fun p hp => ?_⟩
  refine ⟨_, h3, ?_⟩
  have s1 : Same H (upd H p (.lst [.str wd])) := Same.new (fun _ _ h => h) hp
  refine ⟨p, m, [.str wd], rfl, rfl, upd_same, by omega, by omega, ?_, fun p2 hp2 => ?_⟩
  · show 1 * m.toNat ≤ sizeLine
    exact Nat.le_trans (by omega : 1 * m.toNat ≤ 600) (by decide)
  · have b : ∀ z ∈ List.replicate m.toNat wd, z.length ≤ 3 := fun z hz => by rw [List.eq_of_mem_replicate hz]; exact hw
    have e1 := sum_lens b
    have e2 := join_len (y := sep) b
    rw [List.length_replicate] at e1 e2
    have e3 : m.toNat * (3 + sep.length) ≤ 600 * 4 := Nat.mul_le_mul (by omega) (by omega)
    have e4 : m.toNat * sep.length ≤ 600 * 1 := Nat.mul_le_mul (by omega) hs
    refine ⟨sep, p2, List.replicate m.toNat wd, rfl, rfl, .inl (by rw [← rep_one]; exact SqL.of upd_same), ?_, q _ _ (s1.new hp2) (by omega)⟩
    rw [List.length_replicate]; omega
theorem ok_law_odd_one (T : Txt K mg) : FnOk P w K mg base CX0 2 T.law_odd_one.f T.law_odd_one.fd ["purse", "wording"] spOdd := by
  refine T.law_odd_one.F.okT sc_law_odd_one (by decide +kernel) (by decide) (fun vs H Q E h => ?_) (fun cdv A outer s H vs Q E hr h => ?_)
  · obtain ⟨a, z, k, rfl, _⟩ := h
    rfl
  · obtain ⟨a, z, k, rfl, hz, hp, hk, q⟩ := h
    refine ⟨_,
    (qss_cons (qs_of (ps_set (i := 2) sc_law_odd_one.nd rfl (.inl rfl) (pe_lst (pa_cons pe_str (pa_cons pe_str (pa_cons pe_str (pa_cons pe_str (pa_cons pe_str (pa_cons pe_str (pa_cons pe_str (pa_cons pe_str (pa_cons pe_str (pa_cons pe_str (pa_cons pe_str (pa_cons pe_str (pa_cons pe_str pa_nil))))))))))))))))
      (qss_cons (qs_of (ps_set (i := 2) sc_law_odd_one.nd rfl (.inl rfl) (pe_op op_cat (pv 2) (pe_lst (pa_cons pe_str (pa_cons pe_str (pa_cons pe_str (pa_cons pe_str (pa_cons pe_str (pa_cons pe_str (pa_cons pe_str (pa_cons pe_str (pa_cons pe_str (pa_cons pe_str pa_nil))))))))))))))
      (qss_cons (qs_of (ps_set (i := 2) sc_law_odd_one.nd rfl (.inl rfl) (pe_op op_cat (pv 2) (pe_lst (pa_cons pe_str (pa_cons pe_str (pa_cons pe_str (pa_cons pe_str (pa_cons pe_str (pa_cons pe_str (pa_cons pe_str (pa_cons pe_str (pa_cons pe_str pa_nil)))))))))))))
      (qss_cons (qs_of (ps_set (i := 2) sc_law_odd_one.nd rfl (.inl rfl) (pe_op op_cat (pv 2) (pe_lst (pa_cons pe_str (pa_cons pe_str (pa_cons pe_str (pa_cons pe_str (pa_cons pe_str (pa_cons pe_str pa_nil))))))))))
      (qss_cons (qs_of (ps_set (i := 3) sc_law_odd_one.nd rfl (.inl rfl) (pe_op op_add pe_int (pe_call (ok_law_coin T) (hr.mono (by decide)) (by rfl) T.law_coin.m T.law_coin.F.kp T.law_coin.b .nil pass0 (pa_cons (pv 0) (pa_cons pe_int pa_nil))))))
      (qss_cons (qs_of (ps_set (i := 2) sc_law_odd_one.nd rfl (.inl rfl) (pe_op op_cat (pv 2) (pe_lst (pa_cons (pe_join pe_str (pe_op op_rep (pe_lst (pa_cons pe_str pa_nil)) (pv 3))) (pa_cons (pe_op op_add_str (pe_join pe_str (pe_op op_rep (pe_lst (pa_cons pe_str pa_nil)) (pv 3))) pe_str) pa_nil))))))
      (qss_cons (qs_of (ps_set (i := 2) sc_law_odd_one.nd rfl (.inl rfl) (pe_op op_cat (pv 2) (pe_lst (pa_cons (pe_op op_add_str (pe_join pe_str (pe_op op_rep (pe_lst (pa_cons pe_str pa_nil)) (pv 3))) pe_str) (pa_cons (pe_op op_add_str (pe_join pe_str (pe_op op_rep (pe_lst (pa_cons pe_str pa_nil)) (pv 3))) pe_str) pa_nil))))))
      (qss_cons (qs_set (i := 2) sc_law_odd_one.nd rfl (.inl rfl) (qe_op op_cat (qe_of (pv 2)) (qe_lst (qa_cons (qe_of (pe_op op_add_str (pv 1) pe_str)) (qa_cons (qe_of (pe_op op_add_str (pv 1) pe_str)) (qa_cons (qe_of (pe_op op_add_str (pv 1) pe_str)) (qa_cons (qe_repl (pv 1)) qa_nil)))))))
      (qss_cons (qs_set (i := 2) sc_law_odd_one.nd rfl (.inl rfl) (qe_op op_cat (qe_of (pv 2)) (qe_lst (qa_cons (qe_repl (pv 1)) (qa_cons (qe_of (pe_revS (pv 1))) qa_nil)))))
      (qss_one (qs_of (ps_ret (pe_ix ix_list (pv 2) (pe_call (ok_law_coin T) (hr.mono (by decide)) (by rfl) T.law_coin.m T.law_coin.F.kp T.law_coin.b .nil pass0 (pa_cons (pv 0) (pa_cons (pe_callB call_len_seq (by rfl) T.z_len (by decide +kernel) (pa_cons (pv 2) pa_nil)) pa_nil))) (fun _ _ => rfl))))))))))))))
    , ?_⟩
    refine ⟨(by show 13 ≤ sizeLine; decide), fun p hp0 => ?_⟩
    obtain ⟨o, ho⟩ := hp.some
    have M0 : Menu H a p 13 k (upd H p (.lst [V.str "", V.str " ", V.str "0", V.str "00", V.str "-0", V.str "0 0", V.str "0 1", V.str "1 0", V.str "1 0 0", V.str "0 0 1", V.str "1", V.str "-1", V.str "+1"])) :=
      ⟨_, upd_same, by walk_at "lit", rfl, hp.keep (Same.new (fun _ _ h => h) hp0), (KeepBut.refl a H).new hp0, fun e => by rw [e, ho] at hp0; cases hp0⟩
    refine ⟨_, rfl, ?_⟩
    refine M0.more (m := 10) (fun _ _ h => h) (by walk_at "lit") rfl (by decide) (by decide) fun l1 H1 M1 => ?_
    refine ⟨_, rfl, ?_⟩
    refine M1.more (m := 9) (fun _ _ h => h) (by walk_at "lit") rfl (by decide) (by decide) fun l2 H2 M2 => ?_
    refine ⟨_, rfl, ?_⟩
    refine M2.more (m := 6) (fun _ _ h => h) (by walk_at "lit") rfl (by decide) (by decide) fun l3 H3 M3 => ?_
    clear M0 M1 M2
    refine ⟨_, rfl, ?_⟩
    refine ⟨a, 600, k, rfl, M3.purse, by omega, by decide, by decide, fun d H4 d0 d1 P4 B4 => ?_⟩
    refine ⟨_, _, rfl, rfl, ?_⟩
    have M4 := M3.coin B4 P4
    refine ⟨_, rfl, ?_⟩
    refine rd_lst (rd_cons ?_)
    refine joinRep rfl rfl (by omega) (by omega) (by decide) (by decide) fun r5 H5 s5 b5 => ?_
    refine rd_cons (rd_op ?_)
    refine joinRep rfl rfl (by omega) (by omega) (by decide) (by decide) fun r6 H6 s6 b6 => ?_
    refine ⟨_, _, rfl, rfl, ?_, ?_⟩
    · exact Nat.le_trans (Nat.add_le_add b6 (by decide : _ ≤ 2)) (by decide)
    refine M4.more (m := 2) (s5.trans s6) (.cons (by omega) (.cons (by rw [app_len]; exact Nat.le_trans (Nat.add_le_add b6 (by decide : _ ≤ 2)) (by decide)) .nil)) rfl (by decide) (by decide) fun l5 H7 M5 => ?_
    clear M3 M4
    have two : ∀ {x : Nat}, x ≤ 2 → ∀ {r : Str}, r.length ≤ 2400 → r.length + x ≤ sizeLine := fun hx _ hr => Nat.le_trans (Nat.add_le_add hr hx) (by decide)
    have two' : ∀ {y : Str}, y.length ≤ 2 → ∀ {r : Str}, r.length ≤ 2400 → (r ++ y).length ≤ 9000 := fun hx _ hr => by rw [app_len]; omega
    refine ⟨_, rfl, ?_⟩
    refine rd_lst (rd_cons (rd_op ?_))
    refine joinRep rfl rfl (by omega) (by omega) (by decide) (by decide) fun r8 H8 s8 b8 => ?_
    refine ⟨_, _, rfl, rfl, two (by decide) b8, ?_⟩
    refine rd_cons (rd_op ?_)
    refine joinRep rfl rfl (by omega) (by omega) (by decide) (by decide) fun r9 H9 s9 b9 => ?_
    refine ⟨_, _, rfl, rfl, two (by decide) b9, ?_⟩
    refine M5.more (m := 2) (s8.trans s9) (.cons (two' (by decide) b8) (.cons (two' (by decide) b9) .nil)) rfl (by decide) (by decide) fun l6 H10 M6 => ?_
    clear M5
    have z2 : z.length ≤ 2400 := by omega
    refine ⟨_, rfl, ?_⟩
    refine ⟨_, rfl, _, _, rfl, rfl, two (by decide) z2, ?_⟩
    refine ⟨_, rfl, _, _, rfl, rfl, two (by decide) z2, ?_⟩
    refine ⟨_, rfl, _, _, rfl, rfl, two (by decide) z2, ?_⟩
    refine ⟨_, rfl, _, rfl, ?_, ?_⟩
    · show z.length + (z.length + 1) * 2 ≤ 16777216
      omega
    have rp : ∀ y : Str, y.length ≤ 2 → (Txt.replace z " " y).length ≤ 9000 := fun y hy => Nat.le_trans (TK.replace_len ..) (by
      have := Nat.mul_le_mul (Nat.le_refl (z.length + 1)) hy
      omega)
    refine M6.more (m := 4) (Same.refl _) (.cons (two' (by decide) z2) (.cons (two' (by decide) z2) (.cons (two' (by decide) z2) (.cons (rp _ (by decide)) .nil)))) rfl (by decide) (by decide) fun l7 H11 M7 => ?_
    clear M6
    refine ⟨_, rfl, ?_⟩
    refine ⟨_, rfl, _, rfl, ?_, ?_⟩
    · show z.length + (z.length + 1) * 0 ≤ 16777216
      omega
    refine ⟨_, rfl, _, rfl, Nat.le_trans z2 (by decide), ?_⟩
    refine M7.more (m := 2) (Same.refl _) (.cons (Nat.le_trans (TK.replace_len ..) (by show z.length + (z.length + 1) * 0 ≤ 9000; omega)) (.cons (by rw [revS_len]; omega) .nil)) rfl (by decide) (by decide) fun l8 H12 M8 => ?_
    clear M7
    obtain ⟨vs, v1, v2, v3, v4, v5, v6⟩ := M8
    refine ⟨_, rfl, _, rfl, _, rfl, ?_⟩
    refine ⟨_, vs, rfl, .inl (SqL.of v1), ?_⟩
    refine ⟨a, vs.length, k + 1, rfl, v4, by omega, by omega, by omega, fun e H13 e0 e1 P13 B13 => ?_⟩
    obtain ⟨v, hv, hv'⟩ := atI_in (xs := vs) e0 e1
    obtain ⟨r, rfl, hr'⟩ := v2.get hv'
    have q' := q r H13 hr' (by rw [show k + 2 = k + 1 + 1 by omega]; exact P13) (v5.trans B13)
    exact ⟨_, _, _, _, rfl, rfl, SqL.of (B13 _ _ v6 v1), hv, q'⟩
end
end V55


set_option Elab.async false
set_option linter.all false
set_option maxRecDepth 100000
set_option maxHeartbeats 2000000
namespace V55
open PySem PySem.Spec PyProof.Rows L2
section
variable {P : Program} {w : World} {K : PySem.W.Frag} {mg : Str → Option Value} {base : Heap}
def spMarred : Sp := fun vs H Q _ => ∃ (a : Addr) (z : Str) (k : Int), vs = [.ref a, .str z] ∧ z.length ≤ 1000 ∧ PurseAt H a k ∧ k ≤ 800000 ∧ ∀ (r : Str) (H' : Hp), r.length ≤ 2000000 → PurseAt H' a (k + 6) → KeepBut a H H' → Q (.str r) H'
theorem cutting {z y : Str} {c : Nat} (e : TL.tl y = [c]) (hk : ¬ Builtin.Str.strKind z < Builtin.Str.strKind y) :
    (∀ p ∈ Txt.split z y, p.length ≤ z.length) ∧ 1 ≤ (Txt.split z y).length ∧ (Txt.split z y).length ≤ z.length + 1 := by
  have h0 := TL.split_spl z y (by rw [e]; simp) hk
  rw [e] at h0
  have e0 := congrArg List.length h0
  rw [List.length_map] at e0
  refine ⟨fun p hp => ?_, ?_, ?_⟩
  · have hm : TL.tl p ∈ VT.pieces [c] (TL.tl z) := by
      show _ ∈ TL.spl [c] 0 [] (TL.tl z)
      rw [← h0]
      exact List.mem_map.mpr ⟨p, hp, rfl⟩
    have h1 := VT.mem_total hm
    have h2 := VT.total_pieces (S := [c]) (by simp) (TL.tl z)
    rw [TL.len_tl, TL.len_tl z]
    omega
  · rw [e0]
    exact List.length_pos_iff.mpr (VT.pieces_ne [c] (TL.tl z))
  · rw [e0, TL.len_tl]
    exact VT.spl_many [c] (TL.tl z) 0 []
theorem ixN_of {n : Nat} {d : Int} (h0 : 0 ≤ d) (h1 : d < n) : ixN n d = some d.toNat := by
  unfold ixN
  rw [if_pos h0, if_pos h1]
theorem purse_put {H : Hp} {a p : Addr} {o : HO} {k : Int} (n : p ≠ a) (h : PurseAt H a k) : PurseAt (upd H p o) a k := by
  obtain ⟨p0, p1, p2, e, h⟩ := h
  exact ⟨p0, p1, p2, by rw [upd_ne (fun x => n x.symm)]; exact e, h⟩
/-- a sign out of a text -/
theorem sign_in {sg : Str} {d : Int} (h0 : 0 ≤ d) (h1 : d < sg.length) : ∃ c, atI sg.cps.toList d = some c := by
  obtain ⟨c, h, _⟩ := atI_in (xs := sg.cps.toList) h0 (by rw [Array.length_toList]; exact h1)
  exact ⟨c, h⟩
theorem ok_law_marred_one (T : Txt K mg) : FnOk P w K mg base CX0 3 T.law_marred_one.f T.law_marred_one.fd ["purse", "wording"] spMarred := by
  refine T.law_marred_one.F.ok sc_law_marred_one (fun vs H Q E h => ?_) (fun cdv A outer s H vs Q E hr h => ?_)
  · obtain ⟨a, z, k, rfl, _⟩ := h
    rfl
  · obtain ⟨a, z, k, rfl, hz, hp, hk, q⟩ := h
    refine ⟨_,
    (pss_cons (ps_par (i := 5) (j := 6) (by rfl) sc_law_marred_one.nd rfl rfl (by decide) rfl rfl (pa_cons (pe_call (ok_law_coin T) (hr.mono (by decide)) (by rfl) T.law_coin.m T.law_coin.F.kp T.law_coin.b .nil pass0 (pa_cons (pv 0) (pa_cons (pe_op op_add (pe_callB call_len_str (by rfl) T.z_len (by decide +kernel) (pa_cons (pv 1) pa_nil)) pe_int) pa_nil))) (pa_cons (pe_call (ok_law_coin T) (hr.mono (by decide)) (by rfl) T.law_coin.m T.law_coin.F.kp T.law_coin.b .nil pass0 (pa_cons (pv 0) (pa_cons pe_int pa_nil))) pa_nil)) (by rfl))
      (pss_cons (ps_set (i := 2) sc_law_marred_one.nd rfl (.inl rfl) pe_str)
      (pss_cons (ps_set (i := 3) sc_law_marred_one.nd rfl (.inl rfl) (pe_ix ix_list (pe_lst (pa_cons pe_str (pa_cons (pv 2) pa_nil))) (pe_call (ok_law_coin T) (hr.mono (by decide)) (by rfl) T.law_coin.m T.law_coin.F.kp T.law_coin.b .nil pass0 (pa_cons (pv 0) (pa_cons pe_int pa_nil))) (fun _ _ => rfl)))
      (pss_cons (ps_set (i := 4) sc_law_marred_one.nd rfl (.inl rfl) (pe_ix ix_str (pv 3) (pe_call (ok_law_coin T) (hr.mono (by decide)) (by rfl) T.law_coin.m T.law_coin.F.kp T.law_coin.b .nil pass0 (pa_cons (pv 0) (pa_cons (pe_callB call_len_str (by rfl) T.z_len (by decide +kernel) (pa_cons (pv 3) pa_nil)) pa_nil))) (fun _ _ => rfl)))
      (pss_cons (ps_if (pt_cmpR op_eq (pv 6) pe_int (nomark _)) (pss_one (ps_ret (pe_op op_add_str (pe_op op_add_str (pe_slice sl_str (pv 1) po_none (po_some (pv 5))) (pv 4)) (pe_slice sl_str (pv 1) (po_some (pv 5)) po_none)))) pss_nil)
      (pss_cons (ps_if (pt_cmpR op_eq (pv 6) pe_int (nomark _)) (pss_one (ps_ret (pe_op op_add_str (pe_slice sl_str (pv 1) po_none (po_some (pv 5))) (pe_slice sl_str (pv 1) (po_some (pe_op op_add (pv 5) pe_int)) po_none)))) pss_nil)
      (pss_cons (ps_if (pt_cmpR op_eq (pv 6) pe_int (nomark _)) (pss_one (ps_ret (pe_op op_add_str (pe_op op_add_str (pe_slice sl_str (pv 1) po_none (po_some (pv 5))) (pv 4)) (pe_slice sl_str (pv 1) (po_some (pe_op op_add (pv 5) pe_int)) po_none)))) pss_nil)
      (pss_cons (ps_if (pt_cmpR op_eq (pv 6) pe_int (nomark _)) (pss_one (ps_ret (pe_call (ok_law_odd_one T) (hr.mono (by decide)) (by rfl) T.law_odd_one.m T.law_odd_one.F.kp T.law_odd_one.b .nil pass0 (pa_cons (pv 0) (pa_cons (pv 1) pa_nil))))) pss_nil)
      (pss_cons (ps_if (pt_cmpR op_in_seq (pv 6) (pe_tup (pa_cons pe_int (pa_cons pe_int pa_nil))) (by rfl)) (pss_cons (ps_set (i := 7) sc_law_marred_one.nd rfl (.inl rfl) (pe_ix ix_list (pe_lst (pa_cons pe_str (pa_cons pe_str pa_nil))) (pe_op op_sub (pv 6) pe_int) (fun _ _ => rfl)))
      (pss_cons (ps_set (i := 8) sc_law_marred_one.nd rfl (.inl rfl) (pe_split (pv 1) (pv 7)))
      (pss_cons (ps_par (i := 10) (j := 11) (by rfl) sc_law_marred_one.nd rfl rfl (by decide) rfl rfl (pa_cons (pe_call (ok_law_coin T) (hr.mono (by decide)) (by rfl) T.law_coin.m T.law_coin.F.kp T.law_coin.b .nil pass0 (pa_cons (pv 0) (pa_cons (pe_callB call_len_seq (by rfl) T.z_len (by decide +kernel) (pa_cons (pv 8) pa_nil)) pa_nil))) (pa_cons (pe_call (ok_law_coin T) (hr.mono (by decide)) (by rfl) T.law_coin.m T.law_coin.F.kp T.law_coin.b .nil pass0 (pa_cons (pv 0) (pa_cons (pe_callB call_len_seq (by rfl) T.z_len (by decide +kernel) (pa_cons (pv 8) pa_nil)) pa_nil))) pa_nil)) (by rfl))
      (pss_cons (ps_set (i := 9) sc_law_marred_one.nd rfl (.inl rfl) (pe_ix ix_list (pv 8) (pv 10) (fun _ _ => rfl)))
      (pss_cons (ps_asg (pe_ix ix_list (pv 8) (pv 11) (fun _ _ => rfl)) (pg_sub (pv 8) (pv 10) set_list))
      (pss_cons (ps_asg (pv 9) (pg_sub (pv 8) (pv 11) set_list))
      (pss_one (ps_ret (pe_join (pv 7) (pv 8)))))))))) pss_nil)
      (pss_one (ps_ret (pv 1))))))))))))
    , ?_⟩
    refine ⟨_, rfl, _, rfl, z, rfl, Nat.le_trans hz (by decide), ?_⟩
    refine ⟨_, _, rfl, rfl, ?_⟩
    refine ⟨a, (z.length : Int) + 1, k, rfl, hp, by omega, by omega, by omega, fun spot H1 s0 s1 P1 B1 => ?_⟩
    refine ⟨_, rfl, ?_⟩
    refine ⟨a, 8, k + 1, rfl, P1, by omega, by decide, by decide, fun way H2 w0 w1 P2 B2 => ?_⟩
    refine ⟨_, _, rfl, ?_⟩
    refine ⟨_, rfl, (by show 2 ≤ sizeLine; decide), fun p hp0 => ?_⟩
    have s2 : Same H2 _ := (Same.refl H2).new (o := .lst [.str "10 2-3w+", .str "ABCDEFGHIJKLMNOPQRSTUVWXYZ0123456789abcdefghijklmnopqrstuvwxyz !#$&'()*+,-./:;<=>?\x40[]^_`{|}~\"\\"]) hp0
    refine ⟨_, rfl, ?_⟩
    refine ⟨a, 2, k + 1 + 1, rfl, P2.keep s2, by omega, by decide, by decide, fun t H3 t0 t1 P3 B3 => ?_⟩
    have hpa : p ≠ a := fun e => by
      obtain ⟨o, ho⟩ := P2.some
      rw [e, ho] at hp0
      cases hp0
    have hs : ∃ sg : Str, atI [V.str "10 2-3w+", V.str "ABCDEFGHIJKLMNOPQRSTUVWXYZ0123456789abcdefghijklmnopqrstuvwxyz !#$&'()*+,-./:;<=>?\x40[]^_`{|}~\"\\"] t = some (.str sg) ∧ 1 ≤ sg.length ∧ sg.length ≤ 100 := by
      rcases (by omega : t = 0 ∨ t = 1) with rfl | rfl
      · exact ⟨_, rfl, by decide +kernel, by decide +kernel⟩
      · exact ⟨_, rfl, by decide +kernel, by decide +kernel⟩
    obtain ⟨sg, hsg, g1, g2⟩ := hs
    refine ⟨p, _, t, .str sg, rfl, rfl, SqL.of (B3 _ _ hpa upd_same), hsg, ?_⟩
    refine ⟨_, rfl, _, rfl, _, rfl, sg, rfl, Nat.le_trans g2 (by decide), ?_⟩
    refine ⟨a, sg.length, k + 1 + 1 + 1, rfl, P3, by omega, by omega, by omega, fun u H4 u0 u1 P4 B4 => ?_⟩
    obtain ⟨c, hc⟩ := sign_in u0 u1
    refine ⟨sg, u, c, rfl, rfl, Nat.le_trans g2 (by decide), hc, ?_⟩
    have KB : KeepBut a H H4 := (((B1.trans B2).trans (KeepBut.of s2)).trans B3).trans B4
    have P4' : PurseAt H4 a (k + 4) := by rw [show k + 4 = k + 1 + 1 + 1 + 1 by omega]; exact P4
    clear hsg hc P1 P2 P3 P4 B1 B2 B3 B4 hp s2
    have hw : way = 0 ∨ way = 1 ∨ way = 2 ∨ way = 3 ∨ way = 4 ∨ way = 5 ∨ way = 6 ∨ way = 7 := by omega
    have zl : z.length ≤ sizeLine := Nat.le_trans hz (by decide)
    have P6 := P4'.mono (show k + 4 ≤ k + 6 by omega)
    have cat : ∀ {x y : Str}, x.length ≤ 3000 → y.length ≤ 3000 → x.length + y.length ≤ sizeLine := fun hx hy => Nat.le_trans (Nat.add_le_add hx hy) (by decide)
    have one : Str.length ⟨#[c]⟩ ≤ 1 := Nat.le_refl 1
    have ct : ∀ lo hi, (cutS z lo hi).length ≤ 1000 := fun lo hi => Nat.le_trans (cutS_length z lo hi) hz
    have ct3 : ∀ lo hi, (cutS z lo hi).length ≤ 3000 := fun lo hi => Nat.le_trans (ct lo hi) (by decide)
    have ct1 : ∀ lo hi, (cutS z lo hi ++ ⟨#[c]⟩).length ≤ 3000 := fun lo hi => by
      rw [app_len]
      have := ct lo hi
      omega
    rcases hw with rfl | rfl | rfl | rfl | rfl | rfl | rfl | rfl
    · walk_at "rd"
      refine ⟨zl, ⟨_, rfl, _, _, rfl, rfl, cat (ct3 ..) (by omega), ?_⟩⟩
      walk_at "rd"
      refine ⟨zl, ⟨_, _, rfl, rfl, cat (ct1 ..) (ct3 ..), q _ H4 ?_ P6 KB⟩⟩
      rw [app_len]
      exact Nat.le_trans (Nat.add_le_add (ct1 ..) (ct3 ..)) (by decide)
    · walk_at "rd"
      refine ⟨zl, ?_⟩
      walk_at "rd"
      refine ⟨zl, ⟨_, _, rfl, rfl, cat (ct3 ..) (ct3 ..), q _ H4 ?_ P6 KB⟩⟩
      rw [app_len]
      exact Nat.le_trans (Nat.add_le_add (ct3 ..) (ct3 ..)) (by decide)
    · walk_at "rd"
      refine ⟨zl, ⟨_, rfl, _, _, rfl, rfl, cat (ct3 ..) (by omega), ?_⟩⟩
      walk_at "rd"
      refine ⟨zl, ⟨_, _, rfl, rfl, cat (ct1 ..) (ct3 ..), q _ H4 ?_ P6 KB⟩⟩
      rw [app_len]
      exact Nat.le_trans (Nat.add_le_add (ct1 ..) (ct3 ..)) (by decide)
    · walk_at "rd"
      exact ⟨a, z, k + 4, rfl, hz, P4', by omega, fun r H5 r1 P5 B5 => q _ H5 (by omega) (by rw [show k + 6 = k + 4 + 2 by omega]; exact P5) (KB.trans B5)⟩
    · walk_at "rd"
      refine ⟨by show 2 ≤ sizeLine; decide, fun p1 hp1 => ?_⟩
      have u1' : Same H4 _ := (Same.refl H4).new (o := .tup [.int 4, .int 5]) hp1
      refine ⟨p1, _, rfl, .inr (SqT.of upd_same), rfl, rfl, ?_⟩
      refine ⟨_, rfl, ?_⟩
      refine ⟨by show 2 ≤ sizeLine; decide, fun p2 hp2 => ?_⟩
      have u2 : Same H4 _ := u1'.new (o := .lst [.str " ", .str "-"]) hp2
      walk_at "rd"
      refine ⟨Nat.le_trans (Nat.add_le_add_right hz 2) (by decide), fun p3 hp3 => ?_⟩
      have u3 : Same H4 _ := u2.new (o := .lst ((Txt.split z " ").map V.str)) hp3
      obtain ⟨c1, c2, c3⟩ := cutting (z := z) (y := " ") (c := 32) rfl (TL.kind_ok (by decide +kernel))
      have cl : ((Txt.split z " ").map V.str).length = (Txt.split z " ").length := List.length_map ..
      have n3 : p3 ≠ a := fun e => by
        obtain ⟨o, ho⟩ := P4'.some
        have := u2 _ _ ho
        rw [← e, hp3] at this
        cases this
      have n0 : H p3 = none := by
        obtain ⟨o, ho⟩ := P4'.some
        exact (KB.trans (KeepBut.of u2)).none (u2 _ _ ho) hp3
      refine ⟨_, rfl, _, rfl, p3, _, rfl, .inl (SqL.of upd_same), ?_⟩
      refine ⟨a, _, k + 4, rfl, P4'.keep u3, by omega, by omega, by omega, fun d5 H5 d5a d5b P5 B5 => ?_⟩
      refine ⟨_, rfl, _, rfl, p3, _, rfl, .inl (SqL.of (B5 _ _ n3 upd_same)), ?_⟩
      refine ⟨a, _, k + 4 + 1, rfl, P5, by omega, by omega, by omega, fun d6 H6 d6a d6b P6' B6 => ?_⟩
      have K6 : KeepBut a H H6 := ((KB.trans (KeepBut.of u3)).trans B5).trans B6
      have P6'' : PurseAt H6 a (k + 6) := by rw [show k + 6 = k + 4 + 1 + 1 by omega]; exact P6'
      have h3 : H6 p3 = some (.lst ((Txt.split z " ").map V.str)) := B6 _ _ n3 (B5 _ _ n3 upd_same)
      have hst : Strs 1000 ((Txt.split z " ").map V.str) := Strs.of fun y hy => Nat.le_trans (c1 y hy) hz
      clear u3 P6 P4' P5 P6' B5 B6 u2 u1' KB hp3
      refine ⟨_, _, rfl, ?_⟩
      generalize (Txt.split z " ").map V.str = vs at *
      obtain ⟨v5, a5, g5⟩ := atI_in (xs := vs) d5a d5b
      obtain ⟨v6, a6, g6⟩ := atI_in (xs := vs) d6a d6b
      obtain ⟨z5, rfl, l5⟩ := hst.get g5
      obtain ⟨z6, rfl, l6⟩ := hst.get g6
      refine ⟨_, rfl, ?_⟩
      refine ⟨_, rfl, p3, vs, d5, _, rfl, rfl, SqL.of h3, a5, ?_⟩
      refine ⟨_, rfl, ?_⟩
      refine ⟨_, rfl, p3, vs, d6, _, rfl, rfl, SqL.of h3, a6, ?_⟩
      refine ⟨_, rfl, _, rfl, p3, vs, d5, d5.toNat, rfl, rfl, h3, ixN_of d5a d5b, ?_⟩
      refine ⟨_, rfl, _, rfl, _, rfl, p3, _, d6, d6.toNat, rfl, rfl, upd_same, ixN_of d6a (by rw [List.length_set]; exact d6b), ?_⟩
      have hst' := (hst.set l6 d5.toNat).set l5 d6.toNat
      obtain ⟨zs, e, hzs⟩ := hst'.unmap
      have zn : zs.length ≤ 1001 := by
        have := congrArg List.length e
        rw [List.length_set, List.length_set, List.length_map] at this
        omega
      have j1 := join_len (y := " ") hzs
      have j2 := sum_lens hzs
      have j3 : zs.length * (1000 + 1) ≤ 1001 * 1001 := Nat.mul_le_mul_right _ zn
      refine ⟨_, rfl, ⟨_, rfl⟩, _, rfl, _, p3, zs, rfl, rfl, .inl (by rw [← e]; exact SqL.of upd_same), ?_, q _ _ (Nat.le_trans j1 (Nat.le_trans j3 (by decide))) (purse_put n3 (purse_put n3 P6'')) ((K6.mut n0).mut n0)⟩
      show _ + zs.length * 1 ≤ _
      omega
    · walk_at "rd"
      refine ⟨by show 2 ≤ sizeLine; decide, fun p1 hp1 => ?_⟩
      have u1' : Same H4 _ := (Same.refl H4).new (o := .tup [.int 4, .int 5]) hp1
      refine ⟨p1, _, rfl, .inr (SqT.of upd_same), rfl, rfl, ?_⟩
      refine ⟨_, rfl, ?_⟩
      refine ⟨by show 2 ≤ sizeLine; decide, fun p2 hp2 => ?_⟩
      have u2 : Same H4 _ := u1'.new (o := .lst [.str " ", .str "-"]) hp2
      walk_at "rd"
      refine ⟨Nat.le_trans (Nat.add_le_add_right hz 2) (by decide), fun p3 hp3 => ?_⟩
      have u3 : Same H4 _ := u2.new (o := .lst ((Txt.split z "-").map V.str)) hp3
      obtain ⟨c1, c2, c3⟩ := cutting (z := z) (y := "-") (c := 45) rfl (TL.kind_ok (by decide +kernel))
      have cl : ((Txt.split z "-").map V.str).length = (Txt.split z "-").length := List.length_map ..
      have n3 : p3 ≠ a := fun e => by
        obtain ⟨o, ho⟩ := P4'.some
        have := u2 _ _ ho
        rw [← e, hp3] at this
        cases this
      have n0 : H p3 = none := by
        obtain ⟨o, ho⟩ := P4'.some
        exact (KB.trans (KeepBut.of u2)).none (u2 _ _ ho) hp3
      refine ⟨_, rfl, _, rfl, p3, _, rfl, .inl (SqL.of upd_same), ?_⟩
      refine ⟨a, _, k + 4, rfl, P4'.keep u3, by omega, by omega, by omega, fun d5 H5 d5a d5b P5 B5 => ?_⟩
      refine ⟨_, rfl, _, rfl, p3, _, rfl, .inl (SqL.of (B5 _ _ n3 upd_same)), ?_⟩
      refine ⟨a, _, k + 4 + 1, rfl, P5, by omega, by omega, by omega, fun d6 H6 d6a d6b P6' B6 => ?_⟩
      have K6 : KeepBut a H H6 := ((KB.trans (KeepBut.of u3)).trans B5).trans B6
      have P6'' : PurseAt H6 a (k + 6) := by rw [show k + 6 = k + 4 + 1 + 1 by omega]; exact P6'
      have h3 : H6 p3 = some (.lst ((Txt.split z "-").map V.str)) := B6 _ _ n3 (B5 _ _ n3 upd_same)
      have hst : Strs 1000 ((Txt.split z "-").map V.str) := Strs.of fun y hy => Nat.le_trans (c1 y hy) hz
      clear u3 P6 P4' P5 P6' B5 B6 u2 u1' KB hp3
      refine ⟨_, _, rfl, ?_⟩
      generalize (Txt.split z "-").map V.str = vs at *
      obtain ⟨v5, a5, g5⟩ := atI_in (xs := vs) d5a d5b
      obtain ⟨v6, a6, g6⟩ := atI_in (xs := vs) d6a d6b
      obtain ⟨z5, rfl, l5⟩ := hst.get g5
      obtain ⟨z6, rfl, l6⟩ := hst.get g6
      refine ⟨_, rfl, ?_⟩
      refine ⟨_, rfl, p3, vs, d5, _, rfl, rfl, SqL.of h3, a5, ?_⟩
      refine ⟨_, rfl, ?_⟩
      refine ⟨_, rfl, p3, vs, d6, _, rfl, rfl, SqL.of h3, a6, ?_⟩
      refine ⟨_, rfl, _, rfl, p3, vs, d5, d5.toNat, rfl, rfl, h3, ixN_of d5a d5b, ?_⟩
      refine ⟨_, rfl, _, rfl, _, rfl, p3, _, d6, d6.toNat, rfl, rfl, upd_same, ixN_of d6a (by rw [List.length_set]; exact d6b), ?_⟩
      have hst' := (hst.set l6 d5.toNat).set l5 d6.toNat
      obtain ⟨zs, e, hzs⟩ := hst'.unmap
      have zn : zs.length ≤ 1001 := by
        have := congrArg List.length e
        rw [List.length_set, List.length_set, List.length_map] at this
        omega
      have j1 := join_len (y := "-") hzs
      have j2 := sum_lens hzs
      have j3 : zs.length * (1000 + 1) ≤ 1001 * 1001 := Nat.mul_le_mul_right _ zn
      refine ⟨_, rfl, ⟨_, rfl⟩, _, rfl, _, p3, zs, rfl, rfl, .inl (by rw [← e]; exact SqL.of upd_same), ?_, q _ _ (Nat.le_trans j1 (Nat.le_trans j3 (by decide))) (purse_put n3 (purse_put n3 P6'')) ((K6.mut n0).mut n0)⟩
      show _ + zs.length * 1 ≤ _
      omega
    · walk_at "rd"
      refine ⟨by show 2 ≤ sizeLine; decide, fun p1 hp1 => ?_⟩
      have u1' : Same H4 _ := (Same.refl H4).new (o := .tup [.int 4, .int 5]) hp1
      refine ⟨p1, _, rfl, .inr (SqT.of upd_same), rfl, rfl, ?_⟩
      refine ⟨_, rfl, ?_⟩
      refine ⟨_, rfl, ?_⟩
      exact q z _ (by omega) (P6.keep u1') (KB.trans (KeepBut.of u1'))
    · walk_at "rd"
      refine ⟨by show 2 ≤ sizeLine; decide, fun p1 hp1 => ?_⟩
      have u1' : Same H4 _ := (Same.refl H4).new (o := .tup [.int 4, .int 5]) hp1
      refine ⟨p1, _, rfl, .inr (SqT.of upd_same), rfl, rfl, ?_⟩
      refine ⟨_, rfl, ?_⟩
      refine ⟨_, rfl, ?_⟩
      exact q z _ (by omega) (P6.keep u1') (KB.trans (KeepBut.of u1'))
end
end V55


set_option Elab.async false
set_option linter.all false
set_option maxRecDepth 100000
set_option maxHeartbeats 2000000
namespace V55
open PySem PySem.Spec PyProof.Rows L2
section
variable {P : Program} {w : World} {K : PySem.W.Frag} {mg : Str → Option Value} {base : Heap}
def spRight : Sp := fun vs H Q _ => ∃ (a : Addr) (k : Int), vs = [.ref a] ∧ PurseAt H a k ∧ k ≤ 700000 ∧ ∀ (H' : Hp), PurseAt H' a (k + 100) → KeepBut a H H' → Q (.bl true) H'
theorem ok_law_right (T : Txt K mg) : FnOk P w K mg base CX0 6 T.law_right.f T.law_right.fd ["purse"] spRight := by
  refine T.law_right.F.ok sc_law_right (fun vs H Q E h => ?_) (fun cdv A outer s H vs Q E hr h => ?_)
  · obtain ⟨a, k, rfl, _⟩ := h
    rfl
  · obtain ⟨a, k, rfl, hp, hk, q⟩ := h
    refine ⟨_,
    (pss_cons (ps_set (i := 1) sc_law_right.nd rfl (.inr rfl) (pe_ix ix_list (pe_lst (pa_cons pe_int (pa_cons pe_int (pa_cons (pe_op op_powW pe_int pe_int) pa_nil)))) (pe_call (ok_law_coin T) (hr.mono (by decide)) (by rfl) T.law_coin.m T.law_coin.F.kp T.law_coin.b .nil pass0 (pa_cons (pv 0) (pa_cons pe_int pa_nil))) (fun _ _ => rfl)))
      (pss_cons (ps_setLc (i := 2) (own := [("turn", 4)]) (g := gName 4) rfl sc_law_right.nd rfl rfl (sw_true rfl rfl rfl (by decide +kernel)) (pi_range1 (by rfl) T.z_range (pa_cons (pe_op op_add pe_int (pe_call (ok_law_coin T) (hr.mono (by decide)) (by rfl) T.law_coin.m T.law_coin.F.kp T.law_coin.b .nil pass0 (pa_cons (pv 0) (pa_cons pe_int pa_nil)))) pa_nil)) (blkOk_by (own := [("turn", 4)]) (N := ["purse", "top", "numbers_here", "wording", "turn", "bent", "piece"]) (sc := defScope s_law_right) (by decide +kernel)) (fun _ _ _ _ _ => (pg_name (i := 4) sc_law_right.nd rfl (Or.inl rfl))) (fun _ _ _ _ _ => pts_nil) (fun _ _ _ _ _ => (pe_op op_sub (pe_call (ok_law_coin T) (hr.mono (by decide)) (by rfl) T.law_coin.m T.law_coin.F.kp T.law_coin.b .nil pass0 (pa_cons (pv 0) (pa_cons (pe_op op_add (pe_op op_mul pe_int (pv 1)) pe_int) pa_nil))) (pv 1))))
      (pss_cons (ps_set (i := 3) sc_law_right.nd rfl (.inl rfl) (pe_join pe_str (pe_lc (own := [("piece", 6)]) (g := gName 6) rfl sc_law_right.nd (pi_list (pv 2)) (blkOk_by (own := [("piece", 6)]) (N := ["purse", "top", "numbers_here", "wording", "turn", "bent", "piece"]) (sc := defScope s_law_right) (by decide +kernel)) (fun _ _ _ _ _ => (pg_name (i := 6) sc_law_right.nd rfl (Or.inl rfl))) (fun _ _ _ _ _ => pts_nil) (fun _ _ _ _ _ => (pe_callTy call_str_int (by rfl) T.z_str (by decide +kernel) (pa_cons (pv 6) pa_nil))))))
      (pss_cons (ps_for PassesOwn.never rfl (pi_range1 (by rfl) T.z_range (pa_cons pe_int pa_nil)) (pg_name (i := 4) sc_law_right.nd rfl (.inl rfl)) (pss_cons (ps_set (i := 5) sc_law_right.nd rfl (.inl rfl) (pe_call (ok_law_marred_one T) (hr.mono (by decide)) (by rfl) T.law_marred_one.m T.law_marred_one.F.kp T.law_marred_one.b .nil pass0 (pa_cons (pv 0) (pa_cons (pv 3) pa_nil))))
      (pss_one (ps_if (PW.pt (pw_and (pt_cmpR op_le (pe_callB call_len_str (by rfl) T.z_len (by decide +kernel) (pa_cons (pv 5) pa_nil)) pe_int (nomark _)) (pw_and1 (pt_cmpR (op_neP hr.units) (pe_call (ok_law_caught_one T) (hr.mono (by decide)) (by rfl) T.law_caught_one.m T.law_caught_one.F.kp T.law_caught_one.b .nil pass0 (pa_cons (pv 5) (pa_cons (pe_op op_fdiv (pv 4) pe_int) pa_nil))) (pe_call (ok_law_polynomial_of T) (hr.mono (by decide)) (by rfl) T.law_polynomial_of.m T.law_polynomial_of.F.kp T.law_polynomial_of.b .nil pass0 (pa_cons (pv 5) pa_nil)) (nomark _))))) (pss_one (ps_ret pe_bl)) pss_nil))))
      (pss_one (ps_ret pe_bl))))))
    , ?_⟩
    refine ⟨_, _, rfl, rfl, ⟨by decide, by decide, by decide +kernel⟩, (by show 3 ≤ sizeLine; decide), fun p hp0 => ?_⟩
    have s1 : Same H _ := (Same.refl H).new (o := .lst [.int 3, .int 12, .int (10 ^ (6 : Int).toNat)]) hp0
    have hpa : p ≠ a := fun e => by
      obtain ⟨o, ho⟩ := hp.some
      rw [e, ho] at hp0
      cases hp0
    refine ⟨_, rfl, ?_⟩
    refine ⟨a, 3, k, rfl, hp.keep s1, by omega, by decide, by decide, fun t H1 t0 t1 P1 B1 => ?_⟩
    have hs : ∃ top : Int, atI [V.int 3, V.int 12, V.int (10 ^ (6 : Int).toNat)] t = some (.int top) ∧ 0 ≤ top ∧ top ≤ 1000000 := by
      rcases (by omega : t = 0 ∨ t = 1 ∨ t = 2) with rfl | rfl | rfl
      · exact ⟨3, rfl, by decide, by decide⟩
      · exact ⟨12, rfl, by decide, by decide⟩
      · exact ⟨10 ^ (6 : Int).toNat, rfl, by decide, by decide⟩
    obtain ⟨top, ht, u0, u1⟩ := hs
    refine ⟨p, _, t, .int top, rfl, rfl, SqL.of (B1 _ _ hpa upd_same), ht, ?_⟩
    have K1 : KeepBut a H H1 := (KeepBut.of s1).trans B1
    clear ht B1 s1 hp0 hp hpa t0 t1
    refine ⟨_, rfl, ?_⟩
    refine ⟨a, 8, k + 1, rfl, P1, by omega, by decide, by decide, fun m H2 m0 m1 P2 B2 => ?_⟩
    have K2 : KeepBut a H H2 := K1.trans B2
    clear K1 P1 B2
    walk_at "rd"
    refine ⟨by omega, by omega, fun D hD => ?_⟩
    obtain ⟨oa, hoa⟩ := P2.some
    have hDa : D ≠ a := fun e => by rw [e, hoa] at hD; cases hD
    have hD0 : H D = none := K2.none hoa hD
    refine lc_it (walk_rangeI (lo := 0) (n := (1 + m).toNat)) (fun i H' => ∃ ns : List Int, H' D = some (.lst (ns.map V.int)) ∧ ns.length = i ∧ (∀ n ∈ ns, n.natAbs < 10 ^ 9) ∧ PurseAt H' a (k + 2 + i) ∧ KeepBut a H H') ?_ (fun _ _ _ _ => trivial) ?_ ?_
    · refine ⟨[], upd_same, rfl, fun n h => absurd h (by simp), ?_, K2.mut hD0⟩
      have := purse_put (o := .lst []) hDa P2
      rw [show k + 2 + ((0 : Nat) : Int) = k + 1 + 1 by omega]
      exact this
    · rintro i x H' H'' hi ⟨ns, n1, n2, n3, n4, n5⟩ ⟨rfl, rfl⟩
      refine ⟨rfl, ?_⟩
      walk_at "rd"
      refine ⟨.inl ⟨by decide, by decide⟩, _, _, rfl, rfl, ?_⟩
      refine ⟨a, _, k + 2 + i, rfl, n4, by omega, ?_, ?_, fun d H4 d0 d1 P4 B4 => ?_⟩
      · show (1 : Int) ≤ 2 * top + 1
        omega
      · show (2 * top + 1 : Int) < 2 ^ 64
        omega
      have d1' : d < 2 * top + 1 := d1
      walk_at "rd"
      refine ⟨_, B4 _ _ hDa n1, ?_, ns ++ [d - top], by rw [List.map_append]; exact upd_same, by rw [List.length_append, n2] <;> rfl, fun n hn => ?_, ?_, (n5.trans B4).mut hD0⟩
      · rw [List.length_map, n2]
        exact Nat.lt_of_lt_of_le hi (Nat.le_trans (by omega : _ ≤ 8) (by decide))
      · rcases List.mem_append.mp hn with hn | hn
        · exact n3 n hn
        · rw [List.mem_singleton] at hn
          omega
      · have := purse_put (o := .lst (ns.map V.int ++ [.int (d - top)])) hDa P4
        rw [show k + 2 + ((i + 1 : Nat) : Int) = k + 2 + i + 1 by omega]
        exact this
    clear hD K2 P2 hoa
    rintro H3 ⟨ns, n1, n2, n3, P3, K3⟩
    have P3 : PurseAt H3 a (k + 10) := P3.mono (by omega)
    walk_at "rd"
    refine ⟨⟨_, SqL.of n1⟩, fun D1 hD1 => lc_sel walk_listI (j := 6) (fun _ => true) (fun i => .str (strI (ns.getD i 0))) hD1 ?_ (fun H4 t1 => (t1.seq (SqL.of n1))) (fun _ => rfl) (fun _ _ _ _ => yt_yes) (fun i H4 hi _ t1 Q' q' => ?_) (fun H4 t1 h1 => ?_)⟩
    · rw [List.length_map, n2]
      omega
    · rw [List.length_map] at hi
      have e : (ns.map V.int).getD i .non = .int (ns.getD i 0) := getD_map hi
      rw [e]
      walk_at "rd"
      exact ⟨log2_9 (n3 _ (getD_in hi)), q' _ (Same.refl _)⟩
    rw [List.length_map, sel_map ns 0 (fun n => V.str (strI n)), show ns.map (fun n => V.str (strI n)) = (ns.map strI).map V.str by rw [List.map_map] <;> rfl] at h1
    have hb : ∀ z ∈ ns.map strI, z.length ≤ 10 := fun z hz => by
      obtain ⟨n, hn', rfl⟩ := List.mem_map.mp hz
      exact strI_len (n3 n hn')
    have j1 := join_len (y := " ") hb
    have j2 := sum_lens hb
    rw [List.length_map, show (Str.ofString " ").length = 1 from rfl] at j1
    rw [List.length_map] at j2
    refine ⟨" ", D1, ns.map strI, rfl, rfl, .inl (SqL.of h1), ?_, ?_⟩
    · rw [List.length_map, show (Str.ofString " ").length = 1 from rfl]
      omega
    have zl : (Txt.join " " (ns.map strI)).length ≤ 1000 := by omega
    generalize Txt.join " " (ns.map strI) = z at zl
    have P4 := P3.keep t1
    have K4 := K3.trans (KeepBut.of t1)
    clear h1 hb j1 j2 t1 hD1 n1 n2 n3 P3 K3
    walk_at "rd"
    refine ⟨by decide, by decide, ?_⟩
    refine for_it (walk_rangeI (lo := 0) (n := 8)) (fun i σ H' => ∃ x4 x5 : Option V, σ = [some (.ref a), some (.int top), some (.ref D), some (.str z), x4, x5, none] ∧ PurseAt H' a (k + 10 + 6 * i) ∧ KeepBut a H H') ⟨none, none, rfl, P4.mono (by omega), K4⟩ (fun _ _ _ _ _ => trivial) ?_ ?_
    · rintro i x σ H5 H6 hi ⟨x4, x5, rfl, P5, K5⟩ ⟨rfl, rfl⟩
      walk_at "rd"
      refine ⟨a, z, _, rfl, zl, P5, by omega, fun r H7 r1 P7 B7 => ?_⟩
      have K7 := K5.trans B7
      have P7 : PurseAt H7 a (k + 10 + 6 * (i + 1 : Nat)) := P7.mono (by omega)
      walk_at "rd"
      refine ⟨Nat.le_trans r1 (by decide), ?_⟩
      walk_at "rd"
      refine ite2 (fun e => ?_) (fun e => ?_)
      · have rl : r.length ≤ 3000 := by
          have := of_decide_eq_true e
          omega
        walk_at "rd"
        refine ⟨⟨by decide, by omega⟩, ?_⟩
        refine ⟨r, _, rfl, by omega, fun v H8 s8 d8 => ?_⟩
        refine ⟨_, rfl, ?_⟩
        refine ⟨r, rfl, by omega, fun v9 H9 s9 d9 => ?_⟩
        refine neP_of (x := polyOf (TL.tl r)) (y := polyOf (TL.tl r)) (d8.keep s9) d9 (by decide) ?_
        rw [decide_eq_true rfl]
        refine ⟨_, rfl, ?_⟩
        exact ⟨_, _, rfl, P7.keep (s8.trans s9), K7.trans (KeepBut.of (s8.trans s9))⟩
      · exact ⟨_, _, rfl, P7, K7⟩
    · rintro σ H5 ⟨x4, x5, rfl, P5, K5⟩
      exact q H5 (P5.mono (by omega)) K5
def spLaw (K : PySem.W.Frag) : Sp := fun vs H Q _ => ∃ (a : Addr) (ns : List Int), vs = [.ref a] ∧ SqL K H a (ns.map V.int) ∧ ns.length ≤ 100000 ∧ ∀ H', Q (.bl true) H'
theorem ok_law (T : Txt K mg) : FnOk P w K mg base CX0 7 T.law.f T.law.fd ["script"] (spLaw K) := by
  refine T.law.F.ok sc_law (fun vs H Q E h => ?_) (fun cdv A outer s H vs Q E hr h => ?_)
  · obtain ⟨a, k, rfl, _⟩ := h
    rfl
  · obtain ⟨a, ns, rfl, hs, hn, q⟩ := h
    refine ⟨_,
    (pss_cons (ps_for PassesOwn.never rfl (pi_range1 (by rfl) T.z_range (pa_cons (pe_callB (call_max2 rfl) (by rfl) T.z_max (by decide +kernel) (pa_cons pe_int (pa_cons (pe_callB (call_min2 rfl) (by rfl) T.z_min (by decide +kernel) (pa_cons pe_int (pa_cons (pe_callB call_len_seq (by rfl) T.z_len (by decide +kernel) (pa_cons (pv 0) pa_nil)) pa_nil))) pa_nil))) pa_nil)) (pg_name (i := 1) sc_law.nd rfl (.inl rfl)) (pss_cons (ps_set (i := 2) sc_law.nd rfl (.inl rfl) (pe_call (ok_law_purse T) (hr.mono (by decide)) (by rfl) T.law_purse.m T.law_purse.F.kp T.law_purse.b .nil pass0 (pa_cons (pv 0) (pa_cons (pv 1) pa_nil))))
      (pss_one (ps_for PassesOwn.never rfl (pi_range1 (by rfl) T.z_range (pa_cons pe_int pa_nil)) (pg_name (i := 3) sc_law.nd rfl (.inl rfl)) (pss_one (ps_if (pt_not (pt_val (pe_call (ok_law_right T) (hr.mono (by decide)) (by rfl) T.law_right.m T.law_right.F.kp T.law_right.b .nil pass0 (pa_cons (pv 2) pa_nil)))) (pss_one (ps_ret pe_bl)) pss_nil))))))
      (pss_one (ps_ret pe_bl)))
    , ?_⟩
    walk_at "rd"
    refine ⟨a, _, rfl, .inl hs, ?_⟩
    walk_at "rd"
    have hb : ∀ n : Int, 0 ≤ n → n ≤ 100000 → 0 ≤ (if (if n < 6 then n else 6) > 1 then (if n < 6 then n else 6) else 1) ∧ (if (if n < 6 then n else 6) > 1 then (if n < 6 then n else 6) else 1) ≤ 6 := fun n h0 h1 => by
      split <;> split <;> omega
    have hb := hb (ns.map V.int).length (by omega) (by rw [List.length_map]; omega)
    generalize (if (if ((ns.map V.int).length : Int) < 6 then ((ns.map V.int).length : Int) else 6) > 1 then (if ((ns.map V.int).length : Int) < 6 then ((ns.map V.int).length : Int) else 6) else 1) = m at hb ⊢
    refine ⟨by omega, by omega, ?_⟩
    refine for_it (walk_rangeI (lo := 0) (n := m.toNat)) (fun i σ H' => ∃ x1 x2 x3 : Option V, σ = [some (.ref a), x1, x2, x3] ∧ SqL K H' a (ns.map V.int)) ⟨none, none, none, rfl, hs⟩ (fun _ _ _ _ _ => trivial) ?_ ?_
    · rintro i x σ H1 H2 hi ⟨x1, x2, x3, rfl, h1⟩ ⟨rfl, rfl⟩
      walk_at "rd"
      refine ⟨a, ns, i, by show [V.ref a, V.int (0 + (i : Int))] = _; rw [Int.zero_add], h1, fun p H3 hp P3 s3 => ?_⟩
      walk_at "rd"
      refine ⟨by decide, by decide, ?_⟩
      refine for_it (walk_rangeI (lo := 0) (n := 2)) (fun j σ H' => ∃ x3 : Option V, σ = [some (.ref a), some (.int (0 + i)), some (.ref p), x3] ∧ PurseAt H' p (100 * j) ∧ KeepBut p H2 H') ⟨x3, rfl, P3.mono (by omega), KeepBut.of s3⟩ (fun _ _ _ _ _ => trivial) ?_ ?_
      · rintro j x σ H4 H5 hj ⟨x3, rfl, P4, K4⟩ ⟨rfl, rfl⟩
        walk_at "rd"
        refine ⟨p, _, rfl, P4, by omega, fun H6 P6 K6 => ?_⟩
        refine ⟨_, rfl, ?_⟩
        exact ⟨_, rfl, P6.mono (by omega), K4.trans K6⟩
      · rintro σ H4 ⟨x3, rfl, P4, K4⟩
        refine ⟨_, _, _, rfl, sq_keep (fun b o hb => K4 b o (fun e => ?_) hb) h1⟩
        rw [e, hp] at hb
        cases hb
    · rintro σ H4 ⟨x1, x2, x3, rfl, h4⟩
      exact q H4
end
end V55


set_option Elab.async false
set_option linter.all false
set_option maxRecDepth 100000
set_option maxHeartbeats 2000000
namespace V55
open PySem PySem.Spec PyProof.Rows L2
theorem all_mk {l : PySem.W.OpenLaw} {w : World} {K : PySem.W.Frag} {h : Heap} {mg : Str → Option Value} {fa : Addr} (X : K.In h) (G : h.Ns mainGlobals mg) (hfa : mg "law" = some (.ref fa))
    {f0 : Addr} {od0 an0 : Option Addr} {sl0 : Array (Option Value)} {oc0 kV0 dc0 pm0 cd0 ct0 : Value}
    {f1 : Addr} {od1 an1 : Option Addr} {sl1 : Array (Option Value)} {oc1 kV1 dc1 pm1 cd1 ct1 : Value}
    {f2 : Addr} {od2 an2 : Option Addr} {sl2 : Array (Option Value)} {oc2 kV2 dc2 pm2 cd2 ct2 : Value}
    {f3 : Addr} {od3 an3 : Option Addr} {sl3 : Array (Option Value)} {oc3 kV3 dc3 pm3 cd3 ct3 : Value}
    {f4 : Addr} {od4 an4 : Option Addr} {sl4 : Array (Option Value)} {oc4 kV4 dc4 pm4 cd4 ct4 : Value}
    {f5 : Addr} {od5 an5 : Option Addr} {sl5 : Array (Option Value)} {oc5 kV5 dc5 pm5 cd5 ct5 : Value}
    {f6 : Addr} {od6 an6 : Option Addr} {sl6 : Array (Option Value)} {oc6 kV6 dc6 pm6 cd6 ct6 : Value}
    {f7 : Addr} {od7 an7 : Option Addr} {sl7 : Array (Option Value)} {oc7 kV7 dc7 pm7 cd7 ct7 : Value}
    {f8 : Addr} {od8 an8 : Option Addr} {sl8 : Array (Option Value)} {oc8 kV8 dc8 pm8 cd8 ct8 : Value}
    {f9 : Addr} {od9 an9 : Option Addr} {sl9 : Array (Option Value)} {oc9 kV9 dc9 pm9 cd9 ct9 : Value}
    {f10 : Addr} {od10 an10 : Option Addr} {sl10 : Array (Option Value)} {oc10 kV10 dc10 pm10 cd10 ct10 : Value}
    {f11 : Addr} {od11 an11 : Option Addr} {sl11 : Array (Option Value)} {oc11 kV11 dc11 pm11 cd11 ct11 : Value}
    {fI C0 : Addr} {odI anI : Option Addr} {slI : Array (Option Value)} {ocI kVI dcI pmI cdI ctI : Value}
    {CUnreadable NUnreadable : Addr} {nmUnreadable qUnreadable : Str} {bsUnreadable : List Value} {snUnreadable : List Str} {subUnreadable : List Value} {abUnreadable : Bool} {colUnreadable : Option Bool} {ddUnreadable : Option Addr} {m0Unreadable m1Unreadable m2Unreadable m3Unreadable m5Unreadable : Option Value}
    {CInvalidPolynomial NInvalidPolynomial : Addr} {nmInvalidPolynomial qInvalidPolynomial : Str} {bsInvalidPolynomial : List Value} {snInvalidPolynomial : List Str} {subInvalidPolynomial : List Value} {abInvalidPolynomial : Bool} {colInvalidPolynomial : Option Bool} {ddInvalidPolynomial : Option Addr} {m0InvalidPolynomial m1InvalidPolynomial m2InvalidPolynomial m3InvalidPolynomial m5InvalidPolynomial : Option Value}
    {tDIGITS : Tok}
    {tMOST_DIGITS : Tok}
    (a0 : PySem.W.nsIn K mainGlobals "show_polynomial" = some (some (.ref f0)))
    (l0 : K.lookup f0 = some ⟨oc0, od0, .func (PySem.W.fnOf "show_polynomial" "show_polynomial" (defArgs s_show_polynomial) (defBody s_show_polynomial) (defScope s_show_polynomial) .none kV0 dc0 pm0 an0 cd0 ct0), sl0⟩)
    (c0 : PySem.W.codeIn K cd0 "show_polynomial" = true)
    (k0 : PySem.W.keepIn K (.ref f0) = true)
    (a1 : PySem.W.nsIn K mainGlobals "number_in" = some (some (.ref f1)))
    (l1 : K.lookup f1 = some ⟨oc1, od1, .func (PySem.W.fnOf "number_in" "number_in" (defArgs s_number_in) (defBody s_number_in) (defScope s_number_in) .none kV1 dc1 pm1 an1 cd1 ct1), sl1⟩)
    (c1 : PySem.W.codeIn K cd1 "number_in" = true)
    (k1 : PySem.W.keepIn K (.ref f1) = true)
    (a2 : PySem.W.nsIn K mainGlobals "read_polynomial" = some (some (.ref f2)))
    (l2 : K.lookup f2 = some ⟨oc2, od2, .func (PySem.W.fnOf "read_polynomial" "read_polynomial" (defArgs s_read_polynomial) (defBody s_read_polynomial) (defScope s_read_polynomial) .none kV2 dc2 pm2 an2 cd2 ct2), sl2⟩)
    (c2 : PySem.W.codeIn K cd2 "read_polynomial" = true)
    (k2 : PySem.W.keepIn K (.ref f2) = true)
    (a3 : PySem.W.nsIn K mainGlobals "_law_purse" = some (some (.ref f3)))
    (l3 : K.lookup f3 = some ⟨oc3, od3, .func (PySem.W.fnOf "_law_purse" "_law_purse" (defArgs s_law_purse) (defBody s_law_purse) (defScope s_law_purse) .none kV3 dc3 pm3 an3 cd3 ct3), sl3⟩)
    (c3 : PySem.W.codeIn K cd3 "_law_purse" = true)
    (k3 : PySem.W.keepIn K (.ref f3) = true)
    (a4 : PySem.W.nsIn K mainGlobals "_law_coin" = some (some (.ref f4)))
    (l4 : K.lookup f4 = some ⟨oc4, od4, .func (PySem.W.fnOf "_law_coin" "_law_coin" (defArgs s_law_coin) (defBody s_law_coin) (defScope s_law_coin) .none kV4 dc4 pm4 an4 cd4 ct4), sl4⟩)
    (c4 : PySem.W.codeIn K cd4 "_law_coin" = true)
    (k4 : PySem.W.keepIn K (.ref f4) = true)
    (a5 : PySem.W.nsIn K mainGlobals "_law_is_number" = some (some (.ref f5)))
    (l5 : K.lookup f5 = some ⟨oc5, od5, .func (PySem.W.fnOf "_law_is_number" "_law_is_number" (defArgs s_law_is_number) (defBody s_law_is_number) (defScope s_law_is_number) .none kV5 dc5 pm5 an5 cd5 ct5), sl5⟩)
    (c5 : PySem.W.codeIn K cd5 "_law_is_number" = true)
    (k5 : PySem.W.keepIn K (.ref f5) = true)
    (a6 : PySem.W.nsIn K mainGlobals "_law_polynomial_of" = some (some (.ref f6)))
    (l6 : K.lookup f6 = some ⟨oc6, od6, .func (PySem.W.fnOf "_law_polynomial_of" "_law_polynomial_of" (defArgs s_law_polynomial_of) (defBody s_law_polynomial_of) (defScope s_law_polynomial_of) .none kV6 dc6 pm6 an6 cd6 ct6), sl6⟩)
    (c6 : PySem.W.codeIn K cd6 "_law_polynomial_of" = true)
    (k6 : PySem.W.keepIn K (.ref f6) = true)
    (a7 : PySem.W.nsIn K mainGlobals "_law_caught_one" = some (some (.ref f7)))
    (l7 : K.lookup f7 = some ⟨oc7, od7, .func (PySem.W.fnOf "_law_caught_one" "_law_caught_one" (defArgs s_law_caught_one) (defBody s_law_caught_one) (defScope s_law_caught_one) .none kV7 dc7 pm7 an7 cd7 ct7), sl7⟩)
    (c7 : PySem.W.codeIn K cd7 "_law_caught_one" = true)
    (k7 : PySem.W.keepIn K (.ref f7) = true)
    (a8 : PySem.W.nsIn K mainGlobals "_law_odd_one" = some (some (.ref f8)))
    (l8 : K.lookup f8 = some ⟨oc8, od8, .func (PySem.W.fnOf "_law_odd_one" "_law_odd_one" (defArgs s_law_odd_one) (defBody s_law_odd_one) (defScope s_law_odd_one) .none kV8 dc8 pm8 an8 cd8 ct8), sl8⟩)
    (c8 : PySem.W.codeIn K cd8 "_law_odd_one" = true)
    (k8 : PySem.W.keepIn K (.ref f8) = true)
    (a9 : PySem.W.nsIn K mainGlobals "_law_marred_one" = some (some (.ref f9)))
    (l9 : K.lookup f9 = some ⟨oc9, od9, .func (PySem.W.fnOf "_law_marred_one" "_law_marred_one" (defArgs s_law_marred_one) (defBody s_law_marred_one) (defScope s_law_marred_one) .none kV9 dc9 pm9 an9 cd9 ct9), sl9⟩)
    (c9 : PySem.W.codeIn K cd9 "_law_marred_one" = true)
    (k9 : PySem.W.keepIn K (.ref f9) = true)
    (a10 : PySem.W.nsIn K mainGlobals "_law_right" = some (some (.ref f10)))
    (l10 : K.lookup f10 = some ⟨oc10, od10, .func (PySem.W.fnOf "_law_right" "_law_right" (defArgs s_law_right) (defBody s_law_right) (defScope s_law_right) .none kV10 dc10 pm10 an10 cd10 ct10), sl10⟩)
    (c10 : PySem.W.codeIn K cd10 "_law_right" = true)
    (k10 : PySem.W.keepIn K (.ref f10) = true)
    (a11 : PySem.W.nsIn K mainGlobals "law" = some (some (.ref f11)))
    (l11 : K.lookup f11 = some ⟨oc11, od11, .func (PySem.W.fnOf "law" "law" (defArgs s_law) (defBody s_law) (defScope s_law) .none kV11 dc11 pm11 an11 cd11 ct11), sl11⟩)
    (c11 : PySem.W.codeIn K cd11 "law" = true)
    (k11 : PySem.W.keepIn K (.ref f11) = true)
    (aB : PySem.W.nsIn K mainGlobals "TankError" = some (some (.ref C0)))
    (iB : PySem.W.findIn K (.ref C0) "__init__" = some (some (.ref fI)))
    (lI : K.lookup fI = some ⟨ocI, odI, .func (PySem.W.fnOf "__init__" "TankError.__init__" (defArgs s_TankError_init) (defBody s_TankError_init) (defScope s_TankError_init) .none kVI dcI pmI anI cdI ctI), slI⟩)
    (cI : PySem.W.codeIn K cdI "TankError.__init__" = true)
    (kI : PySem.W.keepIn K (.ref fI) = true)
    (tI : PySem.W.typeIn K (.ref fI) = some (.type "function"))
    (eB : PySem.W.subIn K (.ref C0) (.type "BaseException") = some true)
    (hB : PySem.W.hasDictIn K C0 = true)
    (tB : PySem.W.typeIn K (.ref C0) = some (.type "type"))
    (sC : PySem.W.specialIn K (.builtin "object.__class__") "__get__" = some (some (.builtin "getset_descriptor.__get__")))
    (tC : PySem.W.takesIn K (.builtin "object.__class__") = some true)
    (aUnreadable : PySem.W.nsIn K mainGlobals "Unreadable" = some (some (.ref CUnreadable)))
    (xUnreadable : K.lookup CUnreadable = some (excClassObj nmUnreadable qUnreadable CUnreadable NUnreadable bsUnreadable [.ref C0, .type "ValueError", .type "Exception", .type "BaseException", .type "object"] true snUnreadable subUnreadable abUnreadable colUnreadable ddUnreadable m0Unreadable m1Unreadable m2Unreadable m3Unreadable m5Unreadable "ValueError.__new__"))
    (saUnreadable : PySem.W.findIn K (.ref CUnreadable) "__setattr__" = some (some (.builtin "object.__setattr__")))
    (eUnreadable : PySem.W.subIn K (.ref CUnreadable) (.type "BaseException") = some true)
    (tUnreadable : PySem.W.typeIn K (.ref CUnreadable) = some (.type "type"))
    (kUnreadable : PySem.W.keepIn K (.ref CUnreadable) = true)
    (iUnreadable : PySem.W.findIn K (.ref CUnreadable) "__init__" = some (some (.ref fI)))
    (vUnreadable : PySem.W.findIn K (.ref CUnreadable) "value" = some none)
    (gaUnreadable : PySem.W.findIn K (.ref CUnreadable) "__getattribute__" = some (some (.builtin "BaseException.__getattribute__")))
    (ggUnreadable : PySem.W.findIn K (.ref CUnreadable) "__getattr__" = some none)
    (hUnreadable : PySem.W.hasDictIn K CUnreadable = true)
    (clUnreadable : PySem.W.findIn K (.ref CUnreadable) "__class__" = some (some (.builtin "object.__class__")))
    (oUnreadable : PySem.W.mroIn K CUnreadable (.type "object") = some true)
    (sUnreadable : PySem.W.subIn K (.ref CUnreadable) (.ref C0) = some true)
    (aInvalidPolynomial : PySem.W.nsIn K mainGlobals "InvalidPolynomial" = some (some (.ref CInvalidPolynomial)))
    (xInvalidPolynomial : K.lookup CInvalidPolynomial = some (excClassObj nmInvalidPolynomial qInvalidPolynomial CInvalidPolynomial NInvalidPolynomial bsInvalidPolynomial [.ref C0, .type "ValueError", .type "Exception", .type "BaseException", .type "object"] true snInvalidPolynomial subInvalidPolynomial abInvalidPolynomial colInvalidPolynomial ddInvalidPolynomial m0InvalidPolynomial m1InvalidPolynomial m2InvalidPolynomial m3InvalidPolynomial m5InvalidPolynomial "ValueError.__new__"))
    (saInvalidPolynomial : PySem.W.findIn K (.ref CInvalidPolynomial) "__setattr__" = some (some (.builtin "object.__setattr__")))
    (eInvalidPolynomial : PySem.W.subIn K (.ref CInvalidPolynomial) (.type "BaseException") = some true)
    (tInvalidPolynomial : PySem.W.typeIn K (.ref CInvalidPolynomial) = some (.type "type"))
    (kInvalidPolynomial : PySem.W.keepIn K (.ref CInvalidPolynomial) = true)
    (iInvalidPolynomial : PySem.W.findIn K (.ref CInvalidPolynomial) "__init__" = some (some (.ref fI)))
    (vInvalidPolynomial : PySem.W.findIn K (.ref CInvalidPolynomial) "value" = some none)
    (gaInvalidPolynomial : PySem.W.findIn K (.ref CInvalidPolynomial) "__getattribute__" = some (some (.builtin "BaseException.__getattribute__")))
    (ggInvalidPolynomial : PySem.W.findIn K (.ref CInvalidPolynomial) "__getattr__" = some none)
    (hInvalidPolynomial : PySem.W.hasDictIn K CInvalidPolynomial = true)
    (clInvalidPolynomial : PySem.W.findIn K (.ref CInvalidPolynomial) "__class__" = some (some (.builtin "object.__class__")))
    (oInvalidPolynomial : PySem.W.mroIn K CInvalidPolynomial (.type "object") = some true)
    (sInvalidPolynomial : PySem.W.subIn K (.ref CInvalidPolynomial) (.ref C0) = some true)
    (k_no : PySem.W.kitOne K (.ref CUnreadable) (.ref CInvalidPolynomial) = some false)
    (k_yes : PySem.W.kitOne K (.ref CUnreadable) (.ref CUnreadable) = some true)
    (v_ValueError : PySem.W.findCls K (.type "ValueError") (.type "type") "__init__" = some (.val (.builtin "ValueError.__init__")))
    (zValueError : PySem.W.nsIn K mainGlobals "ValueError" = some none)
    (zisinstance : PySem.W.nsIn K mainGlobals "isinstance" = some none)
    (zlen : PySem.W.nsIn K mainGlobals "len" = some none)
    (zabs : PySem.W.nsIn K mainGlobals "abs" = some none)
    (zmax : PySem.W.nsIn K mainGlobals "max" = some none)
    (zmin : PySem.W.nsIn K mainGlobals "min" = some none)
    (zint : PySem.W.nsIn K mainGlobals "int" = some none)
    (zstr : PySem.W.nsIn K mainGlobals "str" = some none)
    (zall : PySem.W.nsIn K mainGlobals "all" = some none)
    (zrange : PySem.W.nsIn K mainGlobals "range" = some none)
    (gDIGITS : PySem.W.nsIn K mainGlobals "DIGITS" = some (some (.str "0123456789" tDIGITS)))
    (gMOST_DIGITS : PySem.W.nsIn K mainGlobals "MOST_DIGITS" = some (some (.int 9 tMOST_DIGITS))) :
    ∃ fd : FuncData, (∀ (s : Shared) (v : Value), BindsTo s fd ⟨[v], []⟩ [("script", v)]) ∧ ∀ base : Heap, K.In base → base.Ns mainGlobals mg → FnOk l.prog w K mg base CX0 7 fa fd ["script"] (spLaw K) := by
  have e := hfa.symm.trans (PySem.W.mg_of X G a11)
  cases e
  have T : { T : Txt K mg // T.law.f = fa ∧ T.law.fd = PySem.W.fnOf "law" "law" (defArgs s_law) (defBody s_law) (defScope s_law) .none kV11 dc11 pm11 an11 cd11 ct11 } := ⟨{
    show_polynomial := ⟨f0, _, fun_mk (st := s_show_polynomial) l0 c0 k0, PySem.W.mg_of X G a0, (fun_mk (st := s_show_polynomial) l0 c0 k0).binds (ps := ["one"]) fun _ _ _ _ _ _ us hl => match us, hl with | [_], _ => rfl⟩
    number_in := ⟨f1, _, fun_mk (st := s_number_in) l1 c1 k1, PySem.W.mg_of X G a1, (fun_mk (st := s_number_in) l1 c1 k1).binds (ps := ["text"]) fun _ _ _ _ _ _ us hl => match us, hl with | [_], _ => rfl⟩
    read_polynomial := ⟨f2, _, fun_mk (st := s_read_polynomial) l2 c2 k2, PySem.W.mg_of X G a2, (fun_mk (st := s_read_polynomial) l2 c2 k2).binds (ps := ["text"]) fun _ _ _ _ _ _ us hl => match us, hl with | [_], _ => rfl⟩
    law_purse := ⟨f3, _, fun_mk (st := s_law_purse) l3 c3 k3, PySem.W.mg_of X G a3, (fun_mk (st := s_law_purse) l3 c3 k3).binds (ps := ["script", "place"]) fun _ _ _ _ _ _ us hl => match us, hl with | [_, _], _ => rfl⟩
    law_coin := ⟨f4, _, fun_mk (st := s_law_coin) l4 c4 k4, PySem.W.mg_of X G a4, (fun_mk (st := s_law_coin) l4 c4 k4).binds (ps := ["purse", "many"]) fun _ _ _ _ _ _ us hl => match us, hl with | [_, _], _ => rfl⟩
    law_is_number := ⟨f5, _, fun_mk (st := s_law_is_number) l5 c5 k5, PySem.W.mg_of X G a5, (fun_mk (st := s_law_is_number) l5 c5 k5).binds (ps := ["piece"]) fun _ _ _ _ _ _ us hl => match us, hl with | [_], _ => rfl⟩
    law_polynomial_of := ⟨f6, _, fun_mk (st := s_law_polynomial_of) l6 c6 k6, PySem.W.mg_of X G a6, (fun_mk (st := s_law_polynomial_of) l6 c6 k6).binds (ps := ["wording"]) fun _ _ _ _ _ _ us hl => match us, hl with | [_], _ => rfl⟩
    law_caught_one := ⟨f7, _, fun_mk (st := s_law_caught_one) l7 c7 k7, PySem.W.mg_of X G a7, (fun_mk (st := s_law_caught_one) l7 c7 k7).binds (ps := ["wording", "way"]) fun _ _ _ _ _ _ us hl => match us, hl with | [_, _], _ => rfl⟩
    law_odd_one := ⟨f8, _, fun_mk (st := s_law_odd_one) l8 c8 k8, PySem.W.mg_of X G a8, (fun_mk (st := s_law_odd_one) l8 c8 k8).binds (ps := ["purse", "wording"]) fun _ _ _ _ _ _ us hl => match us, hl with | [_, _], _ => rfl⟩
    law_marred_one := ⟨f9, _, fun_mk (st := s_law_marred_one) l9 c9 k9, PySem.W.mg_of X G a9, (fun_mk (st := s_law_marred_one) l9 c9 k9).binds (ps := ["purse", "wording"]) fun _ _ _ _ _ _ us hl => match us, hl with | [_, _], _ => rfl⟩
    law_right := ⟨f10, _, fun_mk (st := s_law_right) l10 c10 k10, PySem.W.mg_of X G a10, (fun_mk (st := s_law_right) l10 c10 k10).binds (ps := ["purse"]) fun _ _ _ _ _ _ us hl => match us, hl with | [_], _ => rfl⟩
    law := ⟨fa, _, fun_mk (st := s_law) l11 c11 k11, PySem.W.mg_of X G a11, (fun_mk (st := s_law) l11 c11 k11).binds (ps := ["script"]) fun _ _ _ _ _ _ us hl => match us, hl with | [_], _ => rfl⟩
    f_init := fI
    fd_init := _
    F_init := fun_mk (st := s_TankError_init) lI cI kI
    b_init := (fun_mk (st := s_TankError_init) lI cI kI).binds (ps := ["self", "value"]) fun _ _ _ _ _ _ us hl => match us, hl with | [_, _], _ => rfl
    t_init := tI
    C0 := C0
    m_C0 := PySem.W.mg_of X G aB
    Unreadable := ⟨CUnreadable, PySem.W.mg_of X G aUnreadable, ⟨⟨nmUnreadable, qUnreadable, NUnreadable, bsUnreadable, _, snUnreadable, subUnreadable, abUnreadable, colUnreadable, ddUnreadable, m0Unreadable, m1Unreadable, m2Unreadable, m3Unreadable, m5Unreadable, xUnreadable, by rfl⟩, saUnreadable, eUnreadable, tUnreadable, kUnreadable⟩, iUnreadable, vUnreadable, ⟨gaUnreadable, ggUnreadable, eUnreadable, hUnreadable, clUnreadable, sC, tC, oUnreadable⟩, PySem.W.exm_ref eB hB tB sUnreadable⟩
    InvalidPolynomial := ⟨CInvalidPolynomial, PySem.W.mg_of X G aInvalidPolynomial, ⟨⟨nmInvalidPolynomial, qInvalidPolynomial, NInvalidPolynomial, bsInvalidPolynomial, _, snInvalidPolynomial, subInvalidPolynomial, abInvalidPolynomial, colInvalidPolynomial, ddInvalidPolynomial, m0InvalidPolynomial, m1InvalidPolynomial, m2InvalidPolynomial, m3InvalidPolynomial, m5InvalidPolynomial, xInvalidPolynomial, by rfl⟩, saInvalidPolynomial, eInvalidPolynomial, tInvalidPolynomial, kInvalidPolynomial⟩, iInvalidPolynomial, vInvalidPolynomial, ⟨gaInvalidPolynomial, ggInvalidPolynomial, eInvalidPolynomial, hInvalidPolynomial, clInvalidPolynomial, sC, tC, oInvalidPolynomial⟩, PySem.W.exm_ref eB hB tB sInvalidPolynomial⟩
    k_no := k_no
    k_yes := k_yes
    v_ValueError := v_ValueError
    z_ValueError := PySem.W.mg_none_of X G zValueError
    z_isinstance := PySem.W.mg_none_of X G zisinstance
    z_len := PySem.W.mg_none_of X G zlen
    z_abs := PySem.W.mg_none_of X G zabs
    z_max := PySem.W.mg_none_of X G zmax
    z_min := PySem.W.mg_none_of X G zmin
    z_int := PySem.W.mg_none_of X G zint
    z_str := PySem.W.mg_none_of X G zstr
    z_all := PySem.W.mg_none_of X G zall
    z_range := PySem.W.mg_none_of X G zrange
    t_DIGITS := tDIGITS
    g_DIGITS := PySem.W.mg_of X G gDIGITS
    t_MOST_DIGITS := tMOST_DIGITS
    g_MOST_DIGITS := PySem.W.mg_of X G gMOST_DIGITS
  }, rfl, rfl⟩
  obtain ⟨T, e1, e2⟩ := T
  refine ⟨PySem.W.fnOf "law" "law" (defArgs s_law) (defBody s_law) (defScope s_law) .none kV11 dc11 pm11 an11 cd11 ct11, fun s v => .of_eq rfl, fun base _ _ => ?_⟩
  rw [← e1, ← e2]
  exact ok_law T
end V55
open PySem PySem.W PyProof.Rows
set_option maxRecDepth 100000 in
set_option maxHeartbeats 0 in
theorem PySem.Challenge.cw_valvelevels_k55_polynomials_that_are_non_holds : PySem.Challenge.rw_valvelevels_k55_polynomials_that_are_non.Holds := by
  w_on; o_law; k_head; (case hw => w_witness2)
  k_fill
  refine L2.walk_of (l := PySem.Challenge.rw_valvelevels_k55_polynomials_that_are_non) (n := 63) (k := 7) (x := "script") (CX := fun _ => L2.CX0) (sp := fun w => V55.spLaw _) rfl (by decide) rfl ⟨rfl, by decide, by decide⟩ (fun w h Y => PySem.W.kIn_of Y) ?F (fun _ _ a ns hl _ hS => ⟨a, ns, rfl, hS, Nat.le_trans hl (by decide), fun _ => rfl⟩) (fun _ _ _ _ _ h => h)
  case F =>
    intro w mg fa h KX G hmg
    refine' V55.all_mk KX G hmg ?a0 ?l0 ?c0 ?k0 ?a1 ?l1 ?c1 ?k1 ?a2 ?l2 ?c2 ?k2 ?a3 ?l3 ?c3 ?k3 ?a4 ?l4 ?c4 ?k4 ?a5 ?l5 ?c5 ?k5 ?a6 ?l6 ?c6 ?k6 ?a7 ?l7 ?c7 ?k7 ?a8 ?l8 ?c8 ?k8 ?a9 ?l9 ?c9 ?k9 ?a10 ?l10 ?c10 ?k10 ?a11 ?l11 ?c11 ?k11 ?aB ?iB ?lI ?cI ?kI ?tI ?eB ?hB ?tB ?sC ?tC ?aUnreadable ?xUnreadable ?saUnreadable ?eUnreadable ?tUnreadable ?kUnreadable ?iUnreadable ?vUnreadable ?gaUnreadable ?ggUnreadable ?hUnreadable ?clUnreadable ?oUnreadable ?sUnreadable ?aInvalidPolynomial ?xInvalidPolynomial ?saInvalidPolynomial ?eInvalidPolynomial ?tInvalidPolynomial ?kInvalidPolynomial ?iInvalidPolynomial ?vInvalidPolynomial ?gaInvalidPolynomial ?ggInvalidPolynomial ?hInvalidPolynomial ?clInvalidPolynomial ?oInvalidPolynomial ?sInvalidPolynomial ?k_no ?k_yes ?v_ValueError ?zValueError ?zisinstance ?zlen ?zabs ?zmax ?zmin ?zint ?zstr ?zall ?zrange ?gDIGITS ?gMOST_DIGITS
    (case a0 => k_is)
    (case l0 => k_is)
    (case c0 => k_is)
    (case k0 => k_is)
    (case a1 => k_is)
    (case l1 => k_is)
    (case c1 => k_is)
    (case k1 => k_is)
    (case a2 => k_is)
    (case l2 => k_is)
    (case c2 => k_is)
    (case k2 => k_is)
    (case a3 => k_is)
    (case l3 => k_is)
    (case c3 => k_is)
    (case k3 => k_is)
    (case a4 => k_is)
    (case l4 => k_is)
    (case c4 => k_is)
    (case k4 => k_is)
    (case a5 => k_is)
    (case l5 => k_is)
    (case c5 => k_is)
    (case k5 => k_is)
    (case a6 => k_is)
    (case l6 => k_is)
    (case c6 => k_is)
    (case k6 => k_is)
    (case a7 => k_is)
    (case l7 => k_is)
    (case c7 => k_is)
    (case k7 => k_is)
    (case a8 => k_is)
    (case l8 => k_is)
    (case c8 => k_is)
    (case k8 => k_is)
    (case a9 => k_is)
    (case l9 => k_is)
    (case c9 => k_is)
    (case k9 => k_is)
    (case a10 => k_is)
    (case l10 => k_is)
    (case c10 => k_is)
    (case k10 => k_is)
    (case a11 => k_is)
    (case l11 => k_is)
    (case c11 => k_is)
    (case k11 => k_is)
    (case aB => k_is)
    (case iB => k_is)
    (case lI => k_is)
    (case cI => k_is)
    (case kI => k_is)
    (case tI => k_is)
    (case eB => k_is)
    (case hB => k_is)
    (case tB => k_is)
    (case sC => k_is)
    (case tC => k_is)
    (case aUnreadable => k_is)
    (case xUnreadable => k_is)
    (case saUnreadable => k_is)
    (case eUnreadable => k_is)
    (case tUnreadable => k_is)
    (case kUnreadable => k_is)
    (case iUnreadable => k_is)
    (case vUnreadable => k_is)
    (case gaUnreadable => k_is)
    (case ggUnreadable => k_is)
    (case hUnreadable => k_is)
    (case clUnreadable => k_is)
    (case oUnreadable => k_is)
    (case sUnreadable => k_is)
    (case aInvalidPolynomial => k_is)
    (case xInvalidPolynomial => k_is)
    (case saInvalidPolynomial => k_is)
    (case eInvalidPolynomial => k_is)
    (case tInvalidPolynomial => k_is)
    (case kInvalidPolynomial => k_is)
    (case iInvalidPolynomial => k_is)
    (case vInvalidPolynomial => k_is)
    (case gaInvalidPolynomial => k_is)
    (case ggInvalidPolynomial => k_is)
    (case hInvalidPolynomial => k_is)
    (case clInvalidPolynomial => k_is)
    (case oInvalidPolynomial => k_is)
    (case sInvalidPolynomial => k_is)
    (case k_no => kit_is)
    (case k_yes => kit_is)
    (case v_ValueError => k_is)
    (case zValueError => k_is)
    (case zisinstance => k_is)
    (case zlen => k_is)
    (case zabs => k_is)
    (case zmax => k_is)
    (case zmin => k_is)
    (case zint => k_is)
    (case zstr => k_is)
    (case zall => k_is)
    (case zrange => k_is)
    (case gDIGITS => k_is)
    (case gMOST_DIGITS => k_is)


