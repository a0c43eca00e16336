import PyProof.Rows.All
import Wide.All
import OpenK.AllK
import Wide.FinOn
import HandS.ForMost
import HandS.Exc
import HandS.ExcInit
import HandS.ExcValue
import HandS.ExcIs
import HandS.ExcField
import HandS.ExcOwn
import HandS.ClsMeth
import HandS.IsInst
import HandS.MakeKwOnly
import HandS.WordsExc
import KE.KExcIs
import HandS.HeadHook1
import HandS.HeadHook2
import KE.KStateDown
import Lean
import HandS.Base
import HandS.Call
import HandS.Ends
import HandS.More
import HandS.Words
import HandS.Defaults
import HandS.Head0
import HandS.Head1
import HandS.Head2
import HandS.HeadEnd
import HandS.HeadHook3
import HandS.HeadHook4
import HandS.Codes
import PySem.Challenge.RW_chancepoints_k78_errors_made
import HandS.Walk
import HandS.Style
import HandS.Dict
import HandS.FStr
set_option Elab.async false
set_option linter.all false
set_option maxRecDepth 100000
set_option maxHeartbeats 0
/-! Xc: exceptions as values: made, asked for their class, their fields read. -/
namespace Xc
open PySem PySem.Spec PyProof.Rows L2 PySem.HandSPX
section
variable {X : Cx} {e : Expr} {es : List Expr} {ta : TA} {p pos : Pos}
/-- C(e, ..), C an exception class with an own __init__, as a value -/
def tVal (C : Addr) (sp : Sp) (ta : TA) : TE := fun σ H Q => ta σ H fun vs H1 => vs.length ≤ 1000 ∧ ∀ a, H1 a = none → sp (.ref a :: vs) (upd H1 a (exo a C none)) (fun v H2 => v = .non ∧ Q (.ref a) H2) (fun _ _ _ => False)
theorem pe_val {CX : CXT} {x : Str} {C m : Addr} {k : Nat} {fd : FuncData} {ps : List Str} {sp : Sp} (T : OexC X.K C)
    (hi : PySem.W.findIn X.K (.ref C) "__init__" = some (some (.ref m))) (hf : PySem.W.typeIn X.K (.ref m) = some (.type "function"))
    (G : FnOk X.prog X.w X.K X.mg X.base CX k m fd ps sp) (room : Room (k + 1) X.A) (hb : Binds X.K fd ps []) (out : Passes CX X (fun _ _ _ => False)) (gl : Gl X x) (at_ : X.mg x = some (.ref C)) (args : PA X (e :: es) ta)
    (nd : (x == ("__debug__" : Str)) = false := by decide) (st : starEach (e :: es) X.env = (false, eval e X.env) :: starEach es X.env := by rfl) (pl : (backTo pos (starEach es X.env)).any (·.1) = false := by rfl) :
    PE X (.Call (.Name x p) (e :: es) [] pos) (tVal C sp ta) := by
  constructor
  intro pins s σ H Q I h
  obtain ⟨nm, q, N, bs, bm, sn, sub, ab, col, dd, k0, k1, k2, k3, k5, cls, refs⟩ := T.cls
  refine wpAny_Call_Name_kw (ld_glob I gl at_ ?_ nd)
  refine PySem.W.callWith_K (h₀ := X.base) I.ok.mod.kin T.kC ?_ st pl
  refine thn (args.run pos pins s σ H _ I h) fun us s1 q1 => ?_
  obtain ⟨vs, H1, J, rel, len, wish⟩ := q1
  refine ⟨J.kIn, ?_⟩
  show wpAny _ _ (call (.ref C) us) _ _ _
  obtain ⟨hp, g, dr, tk, os⟩ := s1
  have big : hp.objs.size ≤ hp.objs.size + 1 := by omega
  have fresh := J.hok.fresh big
  have sp1 := wish _ fresh
  have stay : ∀ b o, hp.get? b = some o → ((hp.push (PySem.W.kdv_tup us)).push (excO C hp.objs.size)).get? b = some o :=
    fun b o z => Heap.get?_push_of_some _ (Heap.get?_push_of_some _ z)
  have there : ((hp.push (PySem.W.kdv_tup us)).push (excO C hp.objs.size)).get? (hp.objs.size + 1) = some (excO C hp.objs.size) := by heap_get
  have J2 := J.laid (t' := tk) (o := exo (hp.objs.size + 1) C none) stay big (exo_ok there)
  have rel2 : Vals (V.ref (hp.objs.size + 1) :: vs) (Value.ref (hp.objs.size + 1) :: us) := .cons rfl rel
  have len2 : us.length ≤ sizeLine := by
    have := rel.length
    rw [sizeLine_eq]; omega
  have l3 : (Value.ref (hp.objs.size + 1) :: us ++ ([] : List Value)).length = ps.length := by
    rw [List.append_nil, ← rel2.length]
    exact G.len _ _ _ _ sp1
  have bnd := hb _ (Value.ref (hp.objs.size + 1) :: us) J2.kIn l3
  rw [List.append_nil] at bnd
  refine wpAny_call (call_own F.excBase_ValueError (fun Y => refsVE_contains Y bm refs) (J.kIn _ _ cls) (PySem.W.looks_findIn J.kIn hi) (fun self => PySem.W.bind_fn J.kIn self hf) len2 ?_)
  refine codeAny_mono (G.run _ X.stack _ _ _ _ _ _ (fun _ _ _ => False) (room.make C us []) (J2.env0.make C us []) bnd rel2 sp1) fun r s' back => ?_
  match r, back with
  | .error er, back => exact out pins σ _ _ er s' J2 back
  | .ok (.ret u), back =>
    obtain ⟨v, H2, I3, rv, ev, fin⟩ := J2.after back
    subst ev
    exact ⟨rv, V.ref (hp.objs.size + 1), H2, I3, rfl, fin⟩
end
/-- an exception object of the class at C: without own fields | with these -/
def XV (H : Hp) (C a : Addr) : Prop := H a = some (ExO (.ref C) a) ∨ ∃ d fs, H a = some (exo a C (some d)) ∧ H d = some (exd d fs)
/-- what isinstance asks of the class -/
structure XC (K : PySem.W.Frag) (C : Addr) : Prop where
  is : (PySem.W.clsIn K C).isSome = true
  ex : ExcC K C
section
variable {X : Cx} {pins : List (Addr × Obj)} {σ : L2.St} {H : Hp} {s : Shared} {C a : Addr}
theorem xv_inst (I : Inv X pins σ H s) (h : XV H C a) : ∃ ox od, PySem.W.InstAt s.heap a ox C od := by
  rcases h with h | ⟨d, fs, h, hd⟩
  · have x : ObjOk X.prog X.w H s.heap a (ExO (.ref C) a) := I.hok a _ h
    obtain ⟨⟨oe, vs, hg, hz, hf, _⟩, _⟩ := x
    obtain ⟨oc, od, oda, osl⟩ := oe
    obtain ⟨z1, z2⟩ := hz
    dsimp only at z1 z2 hf
    subst z1 z2 hf
    exact ⟨_, none, hg, rfl, rfl, trivial⟩
  · obtain ⟨t1, hg⟩ := exo_at I.hok h
    obtain ⟨mA, hns, _⟩ := exd_at I.hok hd
    obtain ⟨od, ho, _⟩ := lookIn_ns hns
    exact ⟨_, some od, hg, rfl, rfl, ho⟩
/-- isinstance(x, c), x such an exception -/
def rIsX (K : PySem.W.Frag) : List V → Hp → VK → Prop := fun xs H Q => ∃ (a C : Addr) (c : V) (u : Value) (b : Bool), xs = [.ref a, c] ∧ XV H C a ∧ XC K C ∧ ClsV c u ∧ PySem.W.kitOne K (.ref C) u = some b ∧ Q (.bl b) H
theorem call_isX {X : Cx} : CallR X (.builtin "isinstance") (rIsX X.K) := by
  intro pins s σ H xs us Q I r h
  obtain ⟨a, C, c, u, b, rfl, hv, hx, k, e, q⟩ := h
  obtain ⟨u1, u2, rfl, r1, r2⟩ := vals2 r
  cases (show u1 = Value.ref a from r1)
  have e2 := k.eq r2
  subst e2
  obtain ⟨ox, od, J⟩ := xv_inst I hv
  have y := hx.ex
  exact PySem.W.kia_one (PySem.W.kitx_exc hx.is y.hg y.hk y.hs y.ha y.hn y.ht y.hm) I.kIn J e (fun z => nomatch z) fun tk => ⟨.bl b, H, I.tok tk, rfl, q⟩
/-- x.f, x such an exception with own fields -/
def tFld (K : PySem.W.Frag) (f : Str) (te : TE) : TE := fun σ H Q => te σ H fun x H1 => ∃ (a C d : Addr) (fs : List (Str × V)) (v : V), x = .ref a ∧ H1 a = some (exo a C (some d)) ∧ H1 d = some (exd d fs) ∧ fs.lookup f = some v ∧ XfC K C ∧ PySem.W.findIn K (.ref C) f = some none ∧ Q v H1
theorem pe_fld {X : Cx} {e : Expr} {te : TE} {pos : Pos} {f : Str} (he : PE X e te) (hb : attributeBase e f X.env (eval e X.env) = eval e X.env := by rfl) : PE X (.Attribute e f pos) (tFld X.K f te) := by
  constructor
  intro pins s σ H Q I h
  refine attr_of hb (thn (he.run pins s σ H _ I h) fun u s1 hh => ?_)
  obtain ⟨x, H1, J, rx, a, C, d, fs, v, rfl, ha, hd, l, T, no, q⟩ := hh
  cases (show u = Value.ref a from rx)
  obtain ⟨t1, hg⟩ := exo_at J.hok ha
  obtain ⟨mA, hns, rel⟩ := exd_at J.hok hd
  obtain ⟨od, ho, hl⟩ := lookIn_ns hns
  obtain ⟨u, hu, ru⟩ := RelO.some_of (v := v) (o := mA f) (by rw [← l]; exact rel f)
  have inst : PySem.W.InstAt s1.heap a _ C (some od) := ⟨hg, rfl, rfl, ho⟩
  exact exc_get J.kIn inst T.ga T.gg T.exC (PySem.W.findObj_own T.hdC no rfl (by rw [hl, hu])) (handed_of ru) ⟨v, H1, J.tok _, ru, q⟩
end
section
variable {X : Cx} {e : Expr} {es : List Expr} {ta : TA} {p1 p2 pos : Pos}
/-- what of the class D is asked: D.__init__ is ValueError's -/
structure DI (K : PySem.W.Frag) (D : Addr) : Prop where
  rd : PySem.W.readsIn K D (.type "type") = true
  ga : PySem.W.specialIn K (.ref D) "__getattribute__" = some (some (.builtin "type.__getattribute__"))
  at_ : PySem.W.findCls K (.ref D) (.type "type") "__init__" = some (.val (.builtin "ValueError.__init__"))
/-- D.__init__(self, ..), D over ValueError without an own __init__ -/
theorem pe_dinit {pl : Sem Bool} {x : Str} {D : Addr} (hg : Gl X x) (hm : X.mg x = some (.ref D)) (k : DI X.K D) (ha : PA X (e :: es) ta)
    (hc : eval (.Call (.Attribute (.Name x p1) "__init__" p2) (e :: es) [] pos) X.env = (do
      let ov ← eval (.Name x p1) X.env
      standAt p2.atName
      let (f, first) ← holding [ov] (getMethod ov "__init__" pl)
      callWith pos f first (backTo pos (starEach (e :: es) X.env)) (backToKw pos (keywordEach [] X.env))) := by rfl)
    (nd : (x == ("__debug__" : Str)) = false := by decide) (st : starEach (e :: es) X.env = (false, eval e X.env) :: starEach es X.env := by rfl) (hp : (backTo pos (starEach es X.env)).any (·.1) = false := by rfl) :
    PE X (.Call (.Attribute (.Name x p1) "__init__" p2) (e :: es) [] pos) (tVeI X.K ta) := by
  constructor
  intro pins s σ H Q I h
  refine PySem.W.methodCall_KW (ld_glob I hg hm ?_ nd) hc
  refine PySem.W.method_cls I.kIn k.ga ?_
  refine PySem.W.cls_value I.kIn k.rd k.at_ (by decide +kernel) ?_
  show wpAny _ _ (callWith pos (Value.builtin "ValueError.__init__") [] (backTo pos (starEach (e :: es) X.env)) []) _ _ _
  refine PyProof.Rows.callWith_method1 (thn (ha.run pos pins _ σ H _ (I.tok _) h) fun us s1 q1 => ?_) st hp
  obtain ⟨vs, H1, J, rel, a, C, ws, rfl, len, T, at1, q⟩ := q1
  match us, rel with
  | u0 :: ur, .cons r0 rr =>
    cases (show u0 = Value.ref a from r0)
    have l2 : ur.length ≤ sizeLine := by
      have := rr.length
      rw [sizeLine_eq]; omega
    exact oinit_ok T J at1 l2 fun s' J' => ⟨.non, H1, J', rfl, q⟩
/-- {x}: None too -/
theorem pe_fmtN {e : Expr} {te : TE} {pos : Pos} (he : PE X e te) : PE X (.FormattedValue e (-1) none pos) (fun σ H Q => te σ H fun x H1 => (x = .non ∧ Q (.str "None") H1) ∨ (∃ y : Str, x = .str y ∧ y.length ≤ sizeLine ∧ Q (.str y) H1) ∨ ∃ i : Int, x = .int i ∧ i.natAbs.log2 < 1920 ∧ Q (.str (toString i)) H1) := by
  constructor
  intro pins s σ H Q I h
  refine wpAny_FormattedValue_plain (thn (he.run pins s σ H _ I h) fun v s1 hv => ?_)
  obtain ⟨x, H1, J, rel, q⟩ := hv
  rcases q with ⟨rfl, q⟩ | ⟨y, rfl, len, q⟩ | ⟨i, rfl, len, q⟩
  · cases (show v = Value.none from rel)
    exact wpAny_formatField_none ⟨.str "None", H1, J.tok _, ⟨_, rfl⟩, q⟩
  · obtain ⟨t, rfl⟩ := rel
    exact wpAny_formatField_str ⟨.str y, H1, J, ⟨t, rfl⟩, q⟩ ⟨.str y, H1, J.tok _, ⟨_, rfl⟩, q⟩ len
  · obtain ⟨t, rfl⟩ := rel
    exact wpAny_formatField_int len ⟨.str (toString i), H1, J.tok _, ⟨_, rfl⟩, q⟩
end
end Xc

/-! Xk: such an exception made with a keyword. -/
namespace Xc
open PySem PySem.Spec PyProof.Rows L2 PySem.HandSPX
section
variable {prog : Program} {w : World} {A : Around} {E : Value → Shared → Prop} {R : Result → Shared → Prop} {h : Heap} {g : Array GenState} {d : Drawn} {t : Nat} {os : OsState}
variable {nm q : Str} {C N : Addr} {bs bm : List Value} {hdct : Bool} {sn : List Str} {sub : List Value} {ab : Bool} {col : Option Bool} {dd : Option Addr} {k0 k1 k2 k3 k5 : Option Value} {kn : Str} {kv : Value}
abbrev VEo (nm q : Str) (C N : Addr) (bs bm : List Value) (hdct : Bool) (sn : List Str) (sub : List Value) (ab : Bool) (col : Option Bool) (dd : Option Addr) (k0 k1 k2 k3 k5 : Option Value) : Obj := excClassObj nm q C N bs bm hdct sn sub ab col dd k0 k1 k2 k3 k5 "ValueError.__new__"
theorem ck_new (hT : ∀ X : String, bm.contains (.type X) = veTail.contains (.type X)) {Q : Unit → Shared → Prop} (hC : h.get? C = some (VEo nm q C N bs bm hdct sn sub ab col dd k0 k1 k2 k3 k5)) (hq : Q () ⟨h, g, d, t, os⟩) :
    wpAny (model prog w) A (checkBuiltinCall "ValueError.__new__" ⟨[.ref C], [(kn, kv)]⟩) Q E ⟨h, g, d, t, os⟩ := by
  have Fb := F.excBase_ValueError
  have has : (Value.ref C :: bm).contains (.type "ValueError") = true := by
    rw [List.contains_cons, hT, Fb.hasB]
    exact Bool.or_true _
  have st := Fb.noStar
  simp only [checkBuiltinCall, Fb.newKind, Fb.newSplit, Fb.newRow]
  repeat (first
    | refine wpAny_loadPart_at hC ?_
    | (refine wpAny_isSubtype_exc hC ?_; rw [has])
    | refine wpAny_staticBase_exc hC ?_
    | refine wpAny_madeBy_exc hC ?_
    | simp only [bne_self_eq_false, Bool.false_eq_true, if_false]
    | wp_step)
  exact hq
theorem mk_new (hT : ∀ X : String, bm.contains (.type X) = veTail.contains (.type X)) (hC : h.get? C = some (VEo nm q C N bs bm hdct sn sub ab col dd k0 k1 k2 k3 k5))
    (hq : R (.ok (.ret (.ref (h.objs.size + 1)))) ⟨(h.push (W.kdv_tup [])).push (excO C h.objs.size), g, d, t, os⟩) :
    codeAny (model prog w) A (.builtin "ValueError.__new__" ⟨[.ref C], [(kn, kv)]⟩) R ⟨h, g, d, t, os⟩ := by
  have Fb := F.excBase_ValueError
  have en := Fb.ends
  have has : (Value.ref C :: bm).contains (.type "ValueError") = true := by
    rw [List.contains_cons, hT, Fb.hasB]
    exact Bool.or_true _
  have no1 : (Value.ref C :: bm).contains (.type "AttributeError") = false := by
    rw [List.contains_cons, hT, Fb.noAttr] <;> rfl
  have no2 : (Value.ref C :: bm).contains (.type "NameError") = false := by
    rw [List.contains_cons, hT, Fb.noName] <;> rfl
  refine codeAny_builtinAt Fb.entry ?_
  unfold Builtin.«BaseException.__new__»
  refine PySem.wpAt_bind ?_
  show PySem.wpAt _ _ _ (stack >>= _) _ _ _
  refine PySem.wpAt_bind (PySem.wpAt_stack fun p below => PySem.wpAt_of_wpAny ?_)
  wp_walk
  refine PySem.wpAt_of_wpAny ?_
  rw [Fb.owner]
  repeat (first
    | with_reducible refine wpAny_madeHere_exc Fb.canon hC ?_
    | with_reducible refine wpAny_loadPart_at hC ?_
    | (with_reducible refine wpAny_isSubtype_exc hC ?_; first | rw [has] | rw [no1] | rw [no2])
    | wp_step)
  show R _ _
  rw [Heap.size_push]
  exact hq
theorem ty_call {fI : Addr} {Q : Fin → Shared → Prop} (hT : ∀ X : String, bm.contains (.type X) = veTail.contains (.type X)) (hC : h.get? C = some (VEo nm q C N bs bm hdct sn sub ab col dd k0 k1 k2 k3 k5))
    (hi : W.Looks (model prog w) h (typeLookup (.ref C) "__init__") (some (.ref fI))) (hb : ∀ self, W.Looks (model prog w) h (bindSpecial (.ref fI) self) (.ref fI, [self]))
    (hq : codeAny (model prog w) A (.call (.ref fI) ⟨[.ref (h.objs.size + 1)], [(kn, kv)]⟩)
      (fun r s' => match r with
        | .ok (.ret v) => v = .none ∧ Q (.done (.ret (.ref (h.objs.size + 1)))) s'
        | .ok _ => False
        | .error e => E e s')
      ⟨(h.push (W.kdv_tup [])).push (excO C h.objs.size), g, d, t, os⟩) :
    wpAny (model prog w) A (Builtin.«type.__call__» ⟨[.ref C], [(kn, kv)]⟩) Q E ⟨h, g, d, t, os⟩ := by
  have Fb := F.excBase_ValueError
  repeat (first
    | with_reducible refine wpAny_loadPart_at hC ?_
    | with_reducible refine wpAny_madeBy_exc hC ?_
    | wp_step)
  refine codeAny_call_builtin_code (Code.quiet_builtin _ Fb.quiet) (ck_new hT hC ?_)
  refine mk_new hT hC ?_
  show wpAny _ _ _ _ _ _
  have kp : ∀ b o, h.get? b = some o → ((h.push (W.kdv_tup [])).push (excO C h.objs.size)).get? b = some o :=
    fun b o z => Heap.get?_push_of_some _ (Heap.get?_push_of_some _ z)
  have c2 := kp _ _ hC
  have new : ((h.push (W.kdv_tup [])).push (excO C h.objs.size)).get? (h.objs.size + 1) = some (excO C h.objs.size) := by heap_get
  have self : (Value.ref C :: bm).contains (.ref C) = true := by simp
  have i2 := hi.keeps kp
  have b2 := (hb (.ref (h.objs.size + 1))).keeps kp
  unfold isInstance
  repeat (first
    | with_reducible refine wpAny_loadPart_at new ?_
    | (with_reducible refine wpAny_isSubtype_exc c2 ?_; rw [self])
    | wp_step)
  show wpAny _ _ (typeLookup (.ref C) _) _ _ _
  refine i2.at ?_
  refine wpAny_holding (wpAny_bind (b2.at ?_))
  refine wpAny_bind (wpAny_call (codeAny_mono hq fun r s' z => ?_))
  match r, z with
  | .error e, z => exact z
  | .ok (.ret v), z =>
    obtain ⟨rfl, z⟩ := z
    first
      | exact wpAny_pure (wpAny_pure z)
      | (wp_walk; exact z)
theorem ck_call {M : Model} {Q : Unit → Shared → Prop} (hC : h.get? C = some (VEo nm q C N bs bm hdct sn sub ab col dd k0 k1 k2 k3 k5)) (hq : Q () ⟨h, g, d, t, os⟩) :
    wpAny M A (checkBuiltinCall "type.__call__" ⟨[.ref C], [(kn, kv)]⟩) Q E ⟨h, g, d, t, os⟩ := by
  have f3 := tc_sub
  have ty : (⟨h, g, d, t, os⟩ : Shared).TypeIs (.ref C) "type" := ⟨_, hC, rfl⟩
  simp only [checkBuiltinCall, tc_kind, tc_split]
  repeat (any_goals (first
    | assumption
    | with_reducible refine wpAny_loadPart_at hC ?_
    | with_reducible refine wpAny_onRaise ?_
    | with_reducible refine wpAny_map ?_
    | wp_step))
theorem call_kw {fI : Addr} (hT : ∀ X : String, bm.contains (.type X) = veTail.contains (.type X)) (hC : h.get? C = some (VEo nm q C N bs bm hdct sn sub ab col dd k0 k1 k2 k3 k5))
    (hi : W.Looks (model prog w) h (typeLookup (.ref C) "__init__") (some (.ref fI))) (hb : ∀ self, W.Looks (model prog w) h (bindSpecial (.ref fI) self) (.ref fI, [self]))
    (hq : codeAny (model prog w) (A.under (.builtin "type.__call__" ⟨[.ref C], [(kn, kv)]⟩)) (.call (.ref fI) ⟨[.ref (h.objs.size + 1)], [(kn, kv)]⟩) (W.InitBack (h.objs.size + 1) R)
      ⟨(h.push (W.kdv_tup [])).push (excO C h.objs.size), g, d, t, os⟩) :
    codeAny (model prog w) A (.call (.ref C) ⟨[], [(kn, kv)]⟩) R ⟨h, g, d, t, os⟩ := by
  have f1 := tc_lookup
  have f2 := tc_bind (.ref C)
  have ty : (⟨h, g, d, t, os⟩ : Shared).TypeIs (.ref C) "type" := ⟨_, hC, rfl⟩
  refine codeAny_of_tree ?_
  show wpAny _ _ (callAny (.ref C) _) _ _ _
  repeat (any_goals (first
    | assumption
    | with_reducible refine wpAny_loadPart_at hC ?_
    | wp_step))
  refine ⟨rfl, ?_⟩
  refine codeAny_call_builtin_at (Code.quiet_builtin _ (by decide +kernel)) entry_typeCall (ck_call hC (ty_call hT hC hi hb ?_))
  refine codeAny_mono hq fun r s' z => ?_
  match r, z with
  | .error e, z => exact z
  | .ok (.ret v), z => exact z
end
section
variable {X : Cx} {p pos : Pos} {kws : List Keyword} {tk : TA} {kn : Str}
/-- C(k = e), as a value -/
def tValK (C : Addr) (sp : Sp) (tk : TA) : TE := fun σ H Q => tk σ H fun zs H1 => ∃ z, zs = [z] ∧ ∀ a, H1 a = none → sp [.ref a, z] (upd H1 a (exo a C none)) (fun v H2 => v = .non ∧ Q (.ref a) H2) (fun _ _ _ => False)
theorem pe_valK {CX : CXT} {x : Str} {C m : Addr} {k : Nat} {fd : FuncData} {ps : List Str} {sp : Sp} (T : OexC X.K C)
    (hi : PySem.W.findIn X.K (.ref C) "__init__" = some (some (.ref m))) (hf : PySem.W.typeIn X.K (.ref m) = some (.type "function"))
    (G : FnOk X.prog X.w X.K X.mg X.base CX k m fd ps sp) (room : Room (k + 1) X.A) (hb : ∀ (s : Shared) (u v : Value), BindsTo s fd ⟨[u], [(kn, v)]⟩ (ps.zip [u, v])) (out : Passes CX X (fun _ _ _ => False)) (gl : Gl X x) (at_ : X.mg x = some (.ref C)) (args : PK X kws tk)
    (hall : (backToKw pos (keywordEach kws X.env)).all (·.1.isSome) = true := by rfl) (hks : (backToKw pos (keywordEach kws X.env)).filterMap (·.1) = [kn] := by rfl)
    (nd : (x == ("__debug__" : Str)) = false := by decide) (hpl : ((backTo pos (starEach [] X.env)).any (·.1) || (backToKw pos (keywordEach kws X.env)).any (·.1.isNone)) = false := by rfl) :
    PE X (.Call (.Name x p) [] kws pos) (tValK C sp tk) := by
  constructor
  intro pins s σ H Q I h
  obtain ⟨nm, q, N, bs, bm, sn, sub, ab, col, dd, k0, k1, k2, k3, k5, cls, refs⟩ := T.cls
  refine wpAny_Call_Name_kw (ld_glob I gl at_ ?_ nd)
  refine PySem.W.callWith_KW0 (h₀ := X.base) I.ok.mod.kin T.kC hall ?_ hpl
  refine thn (args.run pos pins s σ H _ I h) fun us s1 q1 => ?_
  obtain ⟨zs, H1, J, rel, z, rfl, wish⟩ := q1
  refine ⟨J.kIn, ?_⟩
  rw [hks]
  match us, rel with
  | [u], .cons ru .nil =>
    show wpAny _ _ (call (.ref C) [] [(kn, u)]) _ _ _
    obtain ⟨hp, g, dr, tk, os⟩ := s1
    have big : hp.objs.size ≤ hp.objs.size + 1 := by omega
    have sp1 := wish _ (J.hok.fresh big)
    have stay : ∀ b o, hp.get? b = some o → ((hp.push (PySem.W.kdv_tup [])).push (excO C hp.objs.size)).get? b = some o :=
      fun b o z => Heap.get?_push_of_some _ (Heap.get?_push_of_some _ z)
    have there : ((hp.push (PySem.W.kdv_tup [])).push (excO C hp.objs.size)).get? (hp.objs.size + 1) = some (excO C hp.objs.size) := by heap_get
    have J2 := J.laid (t' := tk) (o := exo (hp.objs.size + 1) C none) stay big (exo_ok there)
    have rel2 : Vals [V.ref (hp.objs.size + 1), z] [Value.ref (hp.objs.size + 1), u] := .cons rfl (.cons ru .nil)
    refine wpAny_call (call_kw (fun Y => refsVE_contains Y bm refs) (J.kIn _ _ cls) (PySem.W.looks_findIn J.kIn hi) (fun self => PySem.W.bind_fn J.kIn self hf) ?_)
    refine codeAny_mono (G.run _ X.stack _ _ _ _ _ _ (fun _ _ _ => False) (room.make C [] [(kn, u)]) (J2.env0.make C [] [(kn, u)]) (hb _ _ _) rel2 sp1) fun r s' back => ?_
    match r, back with
    | .error er, back => exact out pins σ _ _ er s' J2 back
    | .ok (.ret w), back =>
      obtain ⟨v, H2, I3, rv, ev, fin⟩ := J2.after back
      subst ev
      exact ⟨rv, V.ref (hp.objs.size + 1), H2, I3, rfl, fin⟩
end
end Xc

/-! Xb: what of the classes is seen by the kernel. -/
namespace Xc
open PySem PySem.Spec PyProof.Rows L2 PySem.HandSPX
def isB (K : PySem.W.Frag) (C : Addr) : Bool := (PySem.W.clsIn K C).isSome && (He.eqO (PySem.W.findIn K (.ref C) "__getattribute__") (some (some (.builtin "BaseException.__getattribute__"))) && (He.eqO (PySem.W.findIn K (.ref C) "__getattr__") (some none)
  && (decide (PySem.W.subIn K (.ref C) (.type "BaseException") = some true) && (PySem.W.hasDictIn K C && (He.eqO (PySem.W.findIn K (.ref C) "__class__") (some (some (.builtin "object.__class__")))
  && (He.eqO (PySem.W.specialIn K (.builtin "object.__class__") "__get__") (some (some (.builtin "getset_descriptor.__get__"))) && (decide (PySem.W.takesIn K (.builtin "object.__class__") = some true) && decide (PySem.W.mroIn K C (.type "object") = some true))))))))
theorem isB_ok {K : PySem.W.Frag} {C : Addr} (h : isB K C = true) : XC K C ∧ XfC K C := by
  obtain ⟨h1, h⟩ := Bool.and_eq_true_iff.mp h
  obtain ⟨h2, h⟩ := Bool.and_eq_true_iff.mp h
  obtain ⟨h3, h⟩ := Bool.and_eq_true_iff.mp h
  obtain ⟨h4, h⟩ := Bool.and_eq_true_iff.mp h
  obtain ⟨h5, h⟩ := Bool.and_eq_true_iff.mp h
  obtain ⟨h6, h⟩ := Bool.and_eq_true_iff.mp h
  obtain ⟨h7, h⟩ := Bool.and_eq_true_iff.mp h
  obtain ⟨h8, h9⟩ := Bool.and_eq_true_iff.mp h
  exact ⟨⟨h1, He.eqO_ok h2, He.eqO_ok h3, of_decide_eq_true h4, h5, He.eqO_ok h6, He.eqO_ok h7, of_decide_eq_true h8, of_decide_eq_true h9⟩, He.eqO_ok h2, He.eqO_ok h3, of_decide_eq_true h4, h5⟩
def oexB (K : PySem.W.Frag) (C : Addr) : Bool := (match K.lookup C with
  | some ⟨.type t, _, .cls cd, sl⟩ => (match cd.mro, sl.toList with
    | .ref c :: bm, [_, _, _, _, some (.builtin n), _] => decide (t = "type") && (decide (c = C) && (decide (n = "ValueError.__new__") && (!cd.hasDel && (cd.hasDict && refsVE bm))))
    | _, _ => false)
  | _ => false) && (He.eqO (PySem.W.findIn K (.ref C) "__setattr__") (some (some (.builtin "object.__setattr__"))) && (decide (PySem.W.subIn K (.ref C) (.type "BaseException") = some true) && (decide (PySem.W.typeIn K (.ref C) = some (.type "type")) && PySem.W.keepIn K (.ref C))))
theorem oexB_ok {K : PySem.W.Frag} {C : Addr} (h : oexB K C = true) : OexC K C := by
  obtain ⟨h1, h⟩ := Bool.and_eq_true_iff.mp h
  obtain ⟨h2, h⟩ := Bool.and_eq_true_iff.mp h
  obtain ⟨h3, h⟩ := Bool.and_eq_true_iff.mp h
  obtain ⟨h4, h5⟩ := Bool.and_eq_true_iff.mp h
  refine ⟨?_, He.eqO_ok h2, of_decide_eq_true h3, of_decide_eq_true h4, h5⟩
  split at h1
  · rename_i t dd cd sl ho
    split at h1
    · rename_i c bm k0 k1 k2 k3 n k5 hm hs
      obtain ⟨e1, h1⟩ := Bool.and_eq_true_iff.mp h1
      obtain ⟨e2, h1⟩ := Bool.and_eq_true_iff.mp h1
      obtain ⟨e3, h1⟩ := Bool.and_eq_true_iff.mp h1
      obtain ⟨e4, h1⟩ := Bool.and_eq_true_iff.mp h1
      obtain ⟨e5, e6⟩ := Bool.and_eq_true_iff.mp h1
      have e1 := of_decide_eq_true e1
      have e2 := of_decide_eq_true e2
      have e3 := of_decide_eq_true e3
      subst e1 e2 e3
      obtain ⟨nm, bs, mro, ns, qn, hd, sn, sub, ab, col, del⟩ := cd
      dsimp only at hm e4 e5
      subst hm e5
      have e4 : del = false := by simpa using e4
      subst e4
      have hsl : sl = #[k0, k1, k2, k3, some (.builtin "ValueError.__new__"), k5] := by
        obtain ⟨l⟩ := sl
        simp only at hs
        rw [hs]
      subst hsl
      exact ⟨nm, qn, ns, bs, bm, sn, sub, ab, col, dd, k0, k1, k2, k3, k5, ho, e6⟩
    · cases h1
  · cases h1
def diB (K : PySem.W.Frag) (D : Addr) : Bool := PySem.W.readsIn K D (.type "type") && (He.eqO (PySem.W.specialIn K (.ref D) "__getattribute__") (some (some (.builtin "type.__getattribute__"))) && (match PySem.W.findCls K (.ref D) (.type "type") "__init__" with
  | some (.val (.builtin n)) => decide (n = "ValueError.__init__")
  | _ => false))
theorem diB_ok {K : PySem.W.Frag} {D : Addr} (h : diB K D = true) : DI K D := by
  obtain ⟨h1, h⟩ := Bool.and_eq_true_iff.mp h
  obtain ⟨h2, h3⟩ := Bool.and_eq_true_iff.mp h
  refine ⟨h1, He.eqO_ok h2, ?_⟩
  split at h3
  · rename_i n e
    rw [e, of_decide_eq_true h3]
  · cases h3
/-- a class with an own __init__ that stores f -/
def inB (K : PySem.W.Frag) (x f : Str) : Bool := He.eqO (PySem.W.findIn K (.ref (He.ga K x)) "__init__") (some (some (.ref (He.ma K (He.ga K x) "__init__")))) && (decide (PySem.W.typeIn K (.ref (He.ma K (He.ga K x) "__init__")) = some (.type "function")) && He.eqO (PySem.W.findIn K (.ref (He.ga K x)) f) (some none))
/-- is an instance of x one of y | of the built-in n -/
def kyB (K : PySem.W.Frag) (x y : Str) (b : Bool) : Bool := decide (PySem.W.kitOne K (.ref (He.ga K x)) (.ref (He.ga K y)) = some b)
def ktB (K : PySem.W.Frag) (x : Str) (n : String) (b : Bool) : Bool := decide (PySem.W.kitOne K (.ref (He.ga K x)) (.type n) = some b)
/-! ### the Hook: the written part with the statics -/
def asY (g : Addr → Option Obj) : Nat → List Addr
  | 0 => [mainGlobals, cStatics]
  | n + 1 => He.growD g (asY g n)
abbrev AlY : Type := He.AlD × Bool
def obsY (n : Nat) (fa : List He.Fa) (fn : List He.DefD) (ex : PySem.W.Frag → Bool) (g : Addr → Option Obj) : AlY := (He.obsD fa fn (He.frG g (asY g n)), ex (He.frG g (asY g n)))
def hookY (n : Nat) (fa : List He.Fa) (fn : List He.DefD) (ex : PySem.W.Frag → Bool) : PySem.W.Hook where
  α := AlY
  obs := fun s => obsY n fa fn ex s.heap.get?
  val := fun _ => (He.valD fn, true)
  says := fun _ h => ∃ K : PySem.W.Frag, K.In h ∧ He.SaysD fa fn K ∧ ex K = true
  of := fun _ _ e => ⟨_, He.frG_in, congrArg (fun z : AlY => z.1) e, congrArg (fun z : AlY => z.2) e⟩
  keeps := fun _ _ _ ⟨K, hK, c⟩ k => ⟨K, PySem.W.Frag.In.keeps hK k, c⟩
theorem obsY_eq {n : Nat} {fa : List He.Fa} {fn : List He.DefD} {ex : PySem.W.Frag → Bool} {g : Addr → Option Obj} {s : Shared} (h : ∀ a, g a = s.heap.get? a) : obsY n fa fn ex g = (hookY n fa fn ex).obs s := by
  have e : g = s.heap.get? := funext h
  rw [e] <;> rfl
end Xc

namespace Hd
open PySem PySem.Spec PyProof.Rows L2 C8
def top (i : Nat) : Stmt := PySem.Challenge.pw_chancepoints_k78_errors_made.main.body.getD i (.Pass ⟨0, 0, 0, 0⟩)
def nm0 : List PySem.Str := ["ChanceError", "BadBook", "BadBottom", "BadChances", "BadCoins", "BadExpression", "BadForm", "BadGrid", "BadKind", "BadKinds", "BadLength", "BadLine", "BadManner", "BadMany", "BadMost", "BadName", "BadNames", "BadNumber", "BadNumbers", "BadPass", "BadPath", "BadPaths", "BadProgram", "BadSure", "BadSurrounding", "BadTable", "BadTables", "BadTake", "BadTalk", "BadTalks"]
def nm1 : List PySem.Str := ["BadTape", "BadText", "BadThing", "BadThings", "BadWeight", "BadWeights", "NoChance", "NoMaker", "NoName", "Taken", "TooMany", "Used", "_law_begun", "_law_blended", "_law_draw", "_law_pick", "_law_plain", "_law_beneath"]
def names : List PySem.Str := nm0 ++ (nm1)
abbrev s__law_begun : Stmt := top 44
abbrev s__law_blended : Stmt := top 45
abbrev s__law_draw : Stmt := top 46
abbrev s__law_pick : Stmt := top 47
abbrev s__law_plain : Stmt := top 48
abbrev s__law_beneath : Stmt := top 49
abbrev s_law : Stmt := top 50
def d__law_begun : He.DefD := ⟨("_law_begun", none), "_law_begun", "_law_begun", defArgs s__law_begun, defBody s__law_begun, defScope s__law_begun, [], []⟩
def d__law_blended : He.DefD := ⟨("_law_blended", none), "_law_blended", "_law_blended", defArgs s__law_blended, defBody s__law_blended, defScope s__law_blended, [], []⟩
def d__law_draw : He.DefD := ⟨("_law_draw", none), "_law_draw", "_law_draw", defArgs s__law_draw, defBody s__law_draw, defScope s__law_draw, [], []⟩
def d__law_pick : He.DefD := ⟨("_law_pick", none), "_law_pick", "_law_pick", defArgs s__law_pick, defBody s__law_pick, defScope s__law_pick, [], []⟩
def d__law_plain : He.DefD := ⟨("_law_plain", none), "_law_plain", "_law_plain", defArgs s__law_plain, defBody s__law_plain, defScope s__law_plain, [], []⟩
def d__law_beneath : He.DefD := ⟨("_law_beneath", none), "_law_beneath", "_law_beneath", defArgs s__law_beneath, defBody s__law_beneath, defScope s__law_beneath, [], []⟩
def d_law : He.DefD := ⟨("law", none), "law", "law", defArgs s_law, defBody s_law, defScope s_law, [], []⟩
abbrev i_BadText : Stmt := (clsBody (top 32)).getD 0 (.Pass ⟨0, 0, 0, 0⟩)
def di_BadText : He.DefD := ⟨("BadText", some "__init__"), "__init__", "BadText.__init__", defArgs i_BadText, defBody i_BadText, defScope i_BadText, [], []⟩
abbrev i_NoName : Stmt := (clsBody (top 39)).getD 0 (.Pass ⟨0, 0, 0, 0⟩)
def di_NoName : He.DefD := ⟨("NoName", some "__init__"), "__init__", "NoName.__init__", defArgs i_NoName, defBody i_NoName, defScope i_NoName, [], []⟩
abbrev i_Taken : Stmt := (clsBody (top 40)).getD 0 (.Pass ⟨0, 0, 0, 0⟩)
def di_Taken : He.DefD := ⟨("Taken", some "__init__"), "__init__", "Taken.__init__", defArgs i_Taken, defBody i_Taken, defScope i_Taken, [], []⟩
abbrev i_TooMany : Stmt := (clsBody (top 41)).getD 0 (.Pass ⟨0, 0, 0, 0⟩)
def di_TooMany : He.DefD := ⟨("TooMany", some "__init__"), "__init__", "TooMany.__init__", defArgs i_TooMany, defBody i_TooMany, defScope i_TooMany, [], []⟩
abbrev i_Used : Stmt := (clsBody (top 42)).getD 0 (.Pass ⟨0, 0, 0, 0⟩)
def di_Used : He.DefD := ⟨("Used", some "__init__"), "__init__", "Used.__init__", defArgs i_Used, defBody i_Used, defScope i_Used, [], []⟩
def fn : List He.DefD := [d__law_begun, d__law_blended, d__law_draw, d__law_pick, d__law_plain, d__law_beneath, d_law, di_BadText, di_NoName, di_Taken, di_TooMany, di_Used]
def plain0 : List PySem.Str := ["BadBook", "BadBottom", "BadChances", "BadCoins", "BadExpression", "BadForm", "BadGrid", "BadKind", "BadKinds", "BadLength", "BadLine", "BadManner", "BadMany", "BadMost", "BadName", "BadNames", "BadNumber", "BadNumbers"]
def plain1 : List PySem.Str := ["BadPass", "BadPath", "BadPaths", "BadProgram", "BadSure", "BadSurrounding", "BadTable", "BadTables", "BadTake", "BadTalk", "BadTalks", "BadTape", "BadThing", "BadThings", "BadWeight", "BadWeights", "NoChance", "NoMaker"]
def plain : List PySem.Str := plain0 ++ plain1
def withF : List (PySem.Str × PySem.Str) := [("BadText", "at"), ("NoName", "name"), ("Taken", "name"), ("TooMany", "most"), ("Used", "name")]
def pairs : List (PySem.Str × PySem.Str) := [("BadKinds", "BadKind"), ("BadKind", "BadKinds"), ("BadNames", "BadName"), ("BadName", "BadNames"), ("BadNumbers", "BadNumber"), ("BadNumber", "BadNumbers"), ("BadPaths", "BadPath"), ("BadPath", "BadPaths"), ("BadTables", "BadTable"), ("BadTable", "BadTables"), ("BadTalks", "BadTalk"), ("BadTalk", "BadTalks"), ("BadThings", "BadThing"), ("BadThing", "BadThings"), ("BadWeights", "BadWeight"), ("BadWeight", "BadWeights"), ("BadProgram", "BadExpression"), ("BadExpression", "BadProgram"), ("NoName", "BadName"), ("Taken", "BadName"), ("Used", "Taken"), ("NoName", "TooMany"), ("Taken", "TooMany"), ("Used", "TooMany"), ("TooMany", "BadText")]
def defsN : List PySem.Str := ["_law_begun", "_law_blended", "_law_draw", "_law_pick", "_law_plain", "_law_beneath", "law"]
def freeN : List PySem.Str := ["abs", "int", "isinstance", "len", "ValueError"]
def fa : List He.Fa := (defsN ++ (("ChanceError" : PySem.Str) :: (plain ++ withF.map (·.1)))).map He.Fa.glo ++ (freeN.map He.Fa.free ++ plain.map He.Fa.exc)
def ex (K : PySem.W.Frag) : Bool := Xc.diB K (He.ga K "ChanceError") && ((plain.all fun x => Xc.isB K (He.ga K x) && (Xc.ktB K x "ValueError" true && (Xc.kyB K x "ChanceError" true && Xc.kyB K x "TooMany" false)))
  && ((withF.all fun p => Xc.isB K (He.ga K p.1) && (Xc.oexB K (He.ga K p.1) && (Xc.inB K p.1 p.2 && Xc.kyB K p.1 "ChanceError" true))) && (pairs.all fun p => Xc.kyB K p.1 p.2 false)))
abbrev R : PySem.W.OpenRow := PySem.W.OpenLaw.row PySem.Challenge.rw_chancepoints_k78_errors_made
abbrev hk : PySem.W.Hook := Xc.hookY 5 fa fn ex
def ob (s : PySem.W.SharedT) : Xc.AlY := Xc.obsY 5 fa fn ex (HandSHeadRun.getT s)
theorem ob_eq (s : PySem.W.SharedT) : ob s = hk.obs s.abs := Xc.obsY_eq (HandSHeadRun.getT_eq s)
theorem run (w : World) : HandSHeadRun.RunEq R (PySem.W.view R.prog [50]) hk ob 12000 names w := by
  intro os
  kernel_rfl
end Hd

/-! Y1: data without addresses, what stands for them in a heap, runs without a heap. -/
namespace Y
open PySem PySem.Spec PyProof.Rows L2

/-- data: what a value is, without addresses -/
inductive D where
  | non
  | bl (b : Bool)
  | int (i : Int)
  | str (x : Str)
  | tup (l : List D)
  | lst (l : List D)
  | obj (a : Addr)

/-- how a run ends: stuck, an end, an own exception, a draw -/
inductive T (α : Type) where
  | no
  | ok (a : α)
  | ex (c : Str) (vs : List D)
  | dr (n : Nat) (k : Nat → T α)
namespace T
variable {α β : Type}
def bind : T α → (α → T β) → T β
  | .no, _ => .no
  | .ok a, f => f a
  | .ex c vs, _ => .ex c vs
  | .dr n k, f => .dr n fun i => (k i).bind f
/-- what is to hold of each end; at most so many draws -/
def wp : T α → Nat → (α → Nat → Prop) → (Str → List D → Nat → Prop) → Prop
  | .no, _, _, _ => False
  | .ok a, ν, Q, _ => Q a ν
  | .ex c vs, ν, _, E => E c vs ν
  | .dr n k, ν, Q, E => 0 < n ∧ n < 1073741824 ∧ ∃ μ, ν = μ + 1 ∧ ∀ i, i < n → (k i).wp μ Q E
theorem wp_bind {f : α → T β} {Q : β → Nat → Prop} {E : Str → List D → Nat → Prop} : ∀ {t : T α} {ν : Nat}, (t.bind f).wp ν Q E ↔ t.wp ν (fun a ν => (f a).wp ν Q E) E
  | .no, _ => Iff.rfl
  | .ok _, _ => Iff.rfl
  | .ex _ _, _ => Iff.rfl
  | .dr n k, ν => by
    show (0 < n ∧ n < 1073741824 ∧ ∃ μ, ν = μ + 1 ∧ ∀ i, i < n → ((k i).bind f).wp μ Q E) ↔ (0 < n ∧ n < 1073741824 ∧ ∃ μ, ν = μ + 1 ∧ ∀ i, i < n → (k i).wp μ (fun a ν => (f a).wp ν Q E) E)
    constructor
    · rintro ⟨h1, h2, μ, e, h3⟩
      exact ⟨h1, h2, μ, e, fun i hi => wp_bind.mp (h3 i hi)⟩
    · rintro ⟨h1, h2, μ, e, h3⟩
      exact ⟨h1, h2, μ, e, fun i hi => wp_bind.mpr (h3 i hi)⟩
theorem wp_mono {Q Q' : α → Nat → Prop} {E E' : Str → List D → Nat → Prop} (hq : ∀ {ν} a, Q a ν → Q' a ν) (he : ∀ {ν} c vs, E c vs ν → E' c vs ν) : ∀ {t : T α} {ν : Nat}, t.wp ν Q E → t.wp ν Q' E'
  | .no, _, h => h
  | .ok a, _, h => hq a h
  | .ex c vs, _, h => he c vs h
  | .dr _ _, _, ⟨h1, h2, μ, e, h3⟩ => ⟨h1, h2, μ, e, fun i hi => wp_mono hq he (h3 i hi)⟩
theorem wp_le {Q : α → Nat → Prop} {E : Str → List D → Nat → Prop} : ∀ {t : T α} {ν : Nat}, t.wp ν Q E → t.wp ν (fun a μ => μ ≤ ν ∧ Q a μ) fun c vs μ => μ ≤ ν ∧ E c vs μ
  | .no, _, h => h
  | .ok a, _, h => ⟨Nat.le_refl _, h⟩
  | .ex c vs, _, h => ⟨Nat.le_refl _, h⟩
  | .dr _ _, _, ⟨h1, h2, μ, e, h3⟩ => ⟨h1, h2, μ, e, fun i hi => wp_mono (fun _ q => ⟨by have := q.1; omega, q.2⟩) (fun _ _ q => ⟨by have := q.1; omega, q.2⟩) (wp_le (h3 i hi))⟩
def map (f : α → β) (t : T α) : T β := t.bind fun a => .ok (f a)
@[inline] def ofO : Option α → T α
  | none => .no
  | some a => .ok a
end T

/-! ### the heap: what is known, what stands -/
abbrev Sub (G H : Hp) : Prop := ∀ b o, G b = some o → H b = some o
theorem Sub.refl (H : Hp) : Sub H H := fun _ _ h => h
theorem Sub.trans {G H I : Hp} (a : Sub G H) (b : Sub H I) : Sub G I := fun c o h => b c o (a c o h)
theorem Sub.none {G H : Hp} (s : Sub G H) {p : Addr} (h : H p = none) : G p = none := by
  cases e : G p with
  | none => rfl
  | some o => rw [s p o e] at h; cases h

/-- the law's state of draws: a dict, its two lists -/
structure StA where
  d : Addr
  g : Addr
  c : Addr
structure StaOk (a : StA) (ν : Nat) (H : Hp) : Prop where
  d : ∃ r t : Int, H a.d = some (.dK [(.inr "great", .ref a.g), (.inr "cells", .ref a.c), (.inr "rest", .int r), (.inr "turn", .int t)]) ∧ 0 ≤ t ∧ t + (ν : Int) ≤ 1099511627776
  g : ∃ ns : List Int, H a.g = some (.lst (ns.map V.int))
  c : ∃ ns : List Int, H a.c = some (.lst (ns.map V.int))
abbrev StO := Option StA
def StO.mem (s : StO) (b : Addr) : Prop := match s with
  | none => False
  | some a => b = a.d ∨ b = a.g ∨ b = a.c
def StO.ok (s : StO) (ν : Nat) (H : Hp) : Prop := ∀ a, s = some a → StaOk a ν H
theorem StO.le {s : StO} {ν μ : Nat} {H : Hp} (h : s.ok ν H) (l : μ ≤ ν) : s.ok μ H := fun a e => by
  have q := h a e
  refine ⟨?_, q.g, q.c⟩
  obtain ⟨r, t, e, h0, hl⟩ := q.d
  exact ⟨r, t, e, h0, by omega⟩
theorem StO.there {s : StO} {ν : Nat} {H : Hp} (h : s.ok ν H) {b : Addr} (m : s.mem b) : ∃ o, H b = some o ∧ ∀ xs, o ≠ .tup xs := by
  cases s with
  | none => exact m.elim
  | some a =>
    have q := h a rfl
    rcases m with rfl | rfl | rfl
    · obtain ⟨r, t, e, _⟩ := q.d
      exact ⟨_, e, fun xs z => nomatch z⟩
    · obtain ⟨ns, e⟩ := q.g
      exact ⟨_, e, fun xs z => nomatch z⟩
    · obtain ⟨ns, e⟩ := q.c
      exact ⟨_, e, fun xs z => nomatch z⟩

/-- from (G, H) on to (G', H') -/
structure Grow (s : StO) (ν : Nat) (G H G' H' : Hp) : Prop where
  gg : Sub G G'
  gh : Sub G' H'
  hh : ∀ b o, H b = some o → ¬ s.mem b → H' b = some o
  nw : ∀ b o, G' b = some o → G b = some o ∨ H b = none ∨ ∃ xs, o = .tup xs
  st : s.ok ν H'
theorem Grow.refl {s : StO} {ν : Nat} {G H : Hp} (h : Sub G H) (st : s.ok ν H) : Grow s ν G H G H := ⟨Sub.refl _, h, fun _ _ e _ => e, fun _ _ e => .inl e, st⟩
theorem Grow.trans {s : StO} {G H G1 H1 G2 H2 : Hp} (a : Grow s ν G H G1 H1) (b : Grow s ν' G1 H1 G2 H2) : Grow s ν' G H G2 H2 where
  gg := a.gg.trans b.gg
  gh := b.gh
  hh := fun c o e m => b.hh c o (a.hh c o e m) m
  nw := fun c o e => by
    rcases b.nw c o e with h | h | h
    · exact a.nw c o h
    · by_cases m : s.mem c
      · obtain ⟨o', e', _⟩ := StO.there a.st m
        rw [h] at e'; cases e'
      · cases q : H c with
        | none => exact .inr (.inl rfl)
        | some u => rw [a.hh c u q m] at h; cases h
    · exact .inr (.inr h)
  st := b.st
theorem upd_sub {G H : Hp} {p : Addr} {o : HO} (h : Sub G H) (hp : H p = none) : Sub G (upd H p o) := fun b u e => by
  rw [upd_ne (ne_of_none (h b u e) hp)]
  exact h b u e
theorem upd_sub2 {G H : Hp} {p : Addr} {o : HO} (h : Sub G H) : Sub (upd G p o) (upd H p o) := fun b u e => by
  by_cases hb : b = p
  · subst hb; rw [upd_same] at e ⊢; exact e
  · rw [upd_ne hb] at e ⊢; exact h b u e
theorem StO.upd {s : StO} {ν : Nat} {H : Hp} {p : Addr} {o : HO} (h : s.ok ν H) (hp : ¬ s.mem p) : s.ok ν (upd H p o) := fun a e => by
  subst e
  have q := h a rfl
  have nd : a.d ≠ p := fun z => hp (.inl z.symm)
  have ng : a.g ≠ p := fun z => hp (.inr (.inl z.symm))
  have nc : a.c ≠ p := fun z => hp (.inr (.inr z.symm))
  refine ⟨?_, ?_, ?_⟩
  · obtain ⟨r, t, e, b⟩ := q.d
    exact ⟨r, t, by rw [upd_ne nd]; exact e, b⟩
  · obtain ⟨ns, e⟩ := q.g
    exact ⟨ns, by rw [upd_ne ng]; exact e⟩
  · obtain ⟨ns, e⟩ := q.c
    exact ⟨ns, by rw [upd_ne nc]; exact e⟩
theorem StO.nomem {s : StO} {ν : Nat} {H : Hp} {p : Addr} (h : s.ok ν H) (hp : H p = none) : ¬ s.mem p := fun m => by
  obtain ⟨o, e, _⟩ := StO.there h m
  rw [hp] at e; cases e
/-- a new object, known from now on -/
theorem Grow.newG {s : StO} {G H : Hp} {p : Addr} {o : HO} (h : Sub G H) (st : s.ok ν H) (hp : H p = none) : Grow s ν G H (upd G p o) (upd H p o) where
  gg := upd_sub (Sub.refl G) (h.none hp)
  gh := upd_sub2 h
  hh := fun b u e _ => by rw [upd_ne (ne_of_none e hp)]; exact e
  nw := fun b u e => by
    by_cases hb : b = p
    · subst hb; exact .inr (.inl hp)
    · rw [upd_ne hb] at e; exact .inl e
  st := StO.upd st (StO.nomem st hp)
/-- a new object, not among the known ones -/
theorem Grow.newH {s : StO} {G H : Hp} {p : Addr} {o : HO} (h : Sub G H) (st : s.ok ν H) (hp : H p = none) : Grow s ν G H G (upd H p o) where
  gg := Sub.refl G
  gh := upd_sub h hp
  hh := fun b u e _ => by rw [upd_ne (ne_of_none e hp)]; exact e
  nw := fun b u e => .inl e
  st := StO.upd st (StO.nomem st hp)

/-! ### data in a heap -/
/-- a tuple: tracked, or of the module -/
def TupAt (K : PySem.W.Frag) (G : Hp) (a : Addr) (xs : List V) : Prop :=
  G a = some (.tup xs) ∨ ∃ (o : Obj) (its : Array Value) (n : Nat), K.lookup a = some o ∧ o.cls = .type "tuple" ∧ o.data = .seq its n ∧ its.size ≤ sizeLine ∧ Vals xs its.toList
theorem TupAt.sq {K : PySem.W.Frag} {G : Hp} {a : Addr} {xs : List V} (h : TupAt K G a xs) : SqT K G a xs := by
  rcases h with h | h
  · exact .inl (.inl h)
  · exact .inr h
section
variable (K : PySem.W.Frag)
mutual
inductive Dy (G : Hp) : V → D → Prop
  | non : Dy G .non .non
  | bl (b : Bool) : Dy G (.bl b) (.bl b)
  | int (i : Int) : Dy G (.int i) (.int i)
  | str (x : Str) : Dy G (.str x) (.str x)
  | tup {a : Addr} {vs : List V} {ds : List D} : TupAt K G a vs → DyL G vs ds → Dy G (.ref a) (.tup ds)
  | lst {a : Addr} {vs : List V} {ds : List D} : G a = some (.lst vs) → DyL G vs ds → Dy G (.ref a) (.lst ds)
  | obj (a : Addr) : Dy G (.ref a) (.obj a)
inductive DyL (G : Hp) : List V → List D → Prop
  | nil : DyL G [] []
  | cons {v : V} {vs : List V} {d : D} {ds : List D} : Dy G v d → DyL G vs ds → DyL G (v :: vs) (d :: ds)
end
end
section
variable {K : PySem.W.Frag} {G H : Hp}
theorem TupAt.mono {a : Addr} {xs : List V} (e : Sub G H) (h : TupAt K G a xs) : TupAt K H a xs := by
  rcases h with h | h
  · exact .inl (e _ _ h)
  · exact .inr h
mutual
theorem Dy.mono (e : Sub G H) : ∀ {d : D} {v : V}, Dy K G v d → Dy K H v d
  | _, _, .non => .non
  | _, _, .bl b => .bl b
  | _, _, .int i => .int i
  | _, _, .str x => .str x
  | .tup _, _, .tup h t => .tup (h.mono e) (DyL.mono e t)
  | .lst _, _, .lst h t => .lst (e _ _ h) (DyL.mono e t)
  | _, _, .obj a => .obj a
theorem DyL.mono (e : Sub G H) : ∀ {ds : List D} {vs : List V}, DyL K G vs ds → DyL K H vs ds
  | _, _, .nil => .nil
  | _ :: _, _, .cons h t => .cons (Dy.mono e h) (DyL.mono e t)
end
theorem DyL.length : ∀ {ds : List D} {vs : List V}, DyL K G vs ds → vs.length = ds.length
  | _, _, .nil => rfl
  | _ :: _, _, .cons _ t => by rw [List.length_cons, List.length_cons, DyL.length t]
theorem DyL.get : ∀ {ds : List D} {vs : List V} {i : Nat} {d : D}, DyL K G vs ds → ds[i]? = some d → ∃ v, vs[i]? = some v ∧ Dy K G v d
  | _, _, _, _, .nil, e => by cases e
  | _ :: _, _, 0, _, .cons h _, e => by cases e; exact ⟨_, rfl, h⟩
  | _ :: _, _, i + 1, _, .cons _ t, e => DyL.get (i := i) t e
theorem DyL.getV : ∀ {ds : List D} {vs : List V} {i : Nat} {v : V}, DyL K G vs ds → vs[i]? = some v → ∃ d, ds[i]? = some d ∧ Dy K G v d
  | _, _, _, _, .nil, e => by cases e
  | _ :: _, _, 0, _, .cons h _, e => by cases e; exact ⟨_, rfl, h⟩
  | _ :: _, _, i + 1, _, .cons _ t, e => DyL.getV (i := i) t e
theorem DyL.append : ∀ {ds es : List D} {vs us : List V}, DyL K G vs ds → DyL K G us es → DyL K G (vs ++ us) (ds ++ es)
  | _, _, _, _, .nil, s => s
  | _ :: _, _, _, _, .cons h t, s => .cons h (DyL.append t s)
theorem DyL.take : ∀ {ds : List D} {vs : List V} (n : Nat), DyL K G vs ds → DyL K G (vs.take n) (ds.take n)
  | _, _, 0, _ => by simpa using DyL.nil
  | _, _, _ + 1, .nil => by simpa using DyL.nil
  | _ :: _, _, n + 1, .cons h t => .cons h (DyL.take n t)
theorem DyL.drop : ∀ {ds : List D} {vs : List V} (n : Nat), DyL K G vs ds → DyL K G (vs.drop n) (ds.drop n)
  | _, _, 0, r => r
  | _, _, _ + 1, .nil => by simpa using DyL.nil
  | _ :: _, _, n + 1, .cons _ t => DyL.drop n t
theorem DyL.set : ∀ {ds : List D} {vs : List V} (i : Nat) {v : V} {d : D}, DyL K G vs ds → Dy K G v d → DyL K G (vs.set i v) (ds.set i d)
  | _, _, _, _, _, .nil, _ => .nil
  | _ :: _, _, 0, _, _, .cons _ t, h => .cons h t
  | _ :: _, _, i + 1, _, _, .cons h t, q => .cons h (DyL.set i t q)
theorem DyL.reverse : ∀ {ds : List D} {vs : List V}, DyL K G vs ds → DyL K G vs.reverse ds.reverse
  | _, _, .nil => .nil
  | _ :: _, _, .cons h t => by
    rw [List.reverse_cons, List.reverse_cons]
    exact DyL.append (DyL.reverse t) (.cons h .nil)
theorem DyL.replicate {v : V} {d : D} (h : Dy K G v d) : ∀ n : Nat, DyL K G (List.replicate n v) (List.replicate n d)
  | 0 => .nil
  | n + 1 => .cons h (DyL.replicate h n)
theorem DyL.ints : ∀ {vs : List V} (ns : List Int), DyL K G vs (ns.map D.int) → vs = ns.map V.int
  | _, [], h => by cases h; rfl
  | _, n :: ns, h => by
    cases h with
    | cons h t =>
      cases h
      rw [DyL.ints ns t, List.map_cons]
theorem DyL.ofInts : ∀ ns : List Int, DyL K G (ns.map V.int) (ns.map D.int)
  | [] => .nil
  | n :: ns => .cons (.int n) (DyL.ofInts ns)
end
end Y

/-! Z5: data as the library's data. -/
namespace Y
open PySem PySem.Spec PyProof.Rows L2
theorem _root_.L2.PE.le {X : Cx} {e : Expr} {t u : TE} (h : PE X e t) (k : ∀ σ H Q, u σ H Q → t σ H Q) : PE X e u := ⟨fun pins s σ H Q I q => h.run pins s σ H Q I (k σ H Q q)⟩
theorem _root_.L2.PT.le {X : Cx} {e : Expr} {t u : TT} (h : PT X e t) (k : ∀ σ H Q, u σ H Q → t σ H Q) : PT X e u := ⟨fun pins s σ H Q I q => h.run pins s σ H Q I (k σ H Q q)⟩
theorem _root_.L2.PA.le {X : Cx} {e : List Expr} {t u : TA} (h : PA X e t) (k : ∀ σ H Q, u σ H Q → t σ H Q) : PA X e u := ⟨fun pos pins s σ H Q I q => h.run pos pins s σ H Q I (k σ H Q q)⟩
theorem _root_.L2.PS.le {X : Cx} {e : Stmt} {t u : TS} (h : PS X e t) (k : ∀ D σ H, u D σ H → t D σ H) : PS X e u := ⟨fun pins s σ H D I q => h.run pins s σ H D I (k D σ H q)⟩
theorem _root_.L2.PSs.le {X : Cx} {e : List Stmt} {t u : TS} (h : PSs X e t) (k : ∀ D σ H, u D σ H → t D σ H) : PSs X e u := ⟨fun pins s σ H D I q => h.run pins s σ H D I (k D σ H q)⟩
mutual
def D.py : D → PyData
  | .non => .none
  | .bl b => .bool b
  | .int i => .int i
  | .str x => .str x
  | .tup l => .tuple (D.pyL l)
  | .lst l => .list (D.pyL l)
  | .obj _ => .none
def D.pyL : List D → List PyData
  | [] => []
  | d :: ds => d.py :: D.pyL ds
end
/-! ### data as the library's data -/
mutual
/-- no opaque object, texts in order, nested at most so deep -/
def D.fit : Nat → D → Bool
  | n + 1, .tup l => D.fitL n l
  | n + 1, .lst l => D.fitL n l
  | 0, .tup _ => false
  | 0, .lst _ => false
  | _, .obj _ => false
  | _, .str x => PyData.strOk x
  | _, .non => true
  | _, .bl _ => true
  | _, .int _ => true
def D.fitL : Nat → List D → Bool
  | _, [] => true
  | n, d :: ds => D.fit n d && D.fitL n ds
end
section
variable {K : PySem.W.Frag} {G : Hp}
mutual
theorem fit_lay : ∀ {n : Nat} {d : D}, D.fit n d = true → d.py.canLay0 = true ∧ d.py.depth ≤ n
  | _, .non, _ => ⟨rfl, Nat.zero_le _⟩
  | _, .bl _, _ => ⟨rfl, Nat.zero_le _⟩
  | _, .int _, _ => ⟨rfl, Nat.zero_le _⟩
  | 0, .str x, h => ⟨h, Nat.zero_le _⟩
  | _ + 1, .str x, h => ⟨h, Nat.zero_le _⟩
  | n + 1, .tup l, h => by
    obtain ⟨h1, h2⟩ := fit_layL (show D.fitL n l = true from h)
    exact ⟨h1, Nat.succ_le_succ h2⟩
  | n + 1, .lst l, h => by
    obtain ⟨h1, h2⟩ := fit_layL (show D.fitL n l = true from h)
    exact ⟨h1, Nat.succ_le_succ h2⟩
  | 0, .tup l, h => nomatch h
  | 0, .lst l, h => nomatch h
  | 0, .obj _, h => nomatch h
  | _ + 1, .obj _, h => nomatch h
theorem fit_layL : ∀ {n : Nat} {ds : List D}, D.fitL n ds = true → PyData.canLayAll0 (D.pyL ds) = true ∧ PyData.depthAll (D.pyL ds) ≤ n
  | _, [], _ => ⟨rfl, Nat.zero_le _⟩
  | n, d :: ds, h => by
    have h' : (D.fit n d && D.fitL n ds) = true := h
    obtain ⟨h1, h2⟩ := Bool.and_eq_true_iff.mp h'
    obtain ⟨a1, a2⟩ := fit_lay h1
    obtain ⟨b1, b2⟩ := fit_layL h2
    exact ⟨Bool.and_eq_true_iff.mpr ⟨a1, b1⟩, Nat.max_le.mpr ⟨a2, b2⟩⟩
end
theorem fit_shaped {d : D} (h : D.fit 60 d = true) : SeqAt.shaped d.py = true := by
  obtain ⟨h1, h2⟩ := fit_lay h
  exact Bool.and_eq_true_iff.mpr ⟨h1, decide_eq_true (by omega)⟩
mutual
theorem fit_dp : ∀ {n : Nat} {d : D} {v : V}, D.fit n d = true → Dy K G v d → Dp K G v d.py
  | _, _, _, _, .non => .non
  | _, _, _, _, .bl b => .bl b
  | _, _, _, _, .int i => .int i
  | _, _, _, _, .str x => .str x
  | n + 1, .tup l, _, h, .tup e t => .tup e.sq (fit_dpL (show D.fitL n l = true from h) t)
  | n + 1, .lst l, _, h, .lst e t => .lst (.inl (.inl e)) (fit_dpL (show D.fitL n l = true from h) t)
  | 0, .tup _, _, h, _ => nomatch h
  | 0, .lst _, _, h, _ => nomatch h
  | 0, .obj _, _, h, _ => nomatch h
  | _ + 1, .obj _, _, h, _ => nomatch h
theorem fit_dpL : ∀ {n : Nat} {ds : List D} {vs : List V}, D.fitL n ds = true → DyL K G vs ds → DpAll K G vs (D.pyL ds)
  | _, _, _, _, .nil => .nil
  | n, d :: ds, _, h, .cons e t => by
    have h' : (D.fit n d && D.fitL n ds) = true := h
    obtain ⟨h1, h2⟩ := Bool.and_eq_true_iff.mp h'
    exact .cons (fit_dp h1 e) (fit_dpL h2 t)
end
end
end Y

/-! Y9: what the text's forms ask on the side. -/
namespace Y
open PySem PySem.Spec PyProof.Rows L2

def nonStar : Expr → Bool
  | .Starred _ _ => false
  | _ => true
theorem star1 {e : Expr} {es : List Expr} {env : PySem.Env} : nonStar e = true → starEach (e :: es) env = (false, eval e env) :: starEach es env := by
  cases e <;> intro h <;> first | rfl | cases h
theorem stars {es : List Expr} {env : PySem.Env} {pos : Pos} (h : es.all nonStar = true) : (backTo pos (starEach es env)).any (·.1) = false := by
  induction es with
  | nil => rfl
  | cons e es ih =>
    rw [List.all_cons, Bool.and_eq_true] at h
    rw [star1 h.1]
    show (false || (backTo pos (starEach es env)).any (·.1)) = false
    rw [ih h.2]
    rfl
def notComp : Expr → Bool
  | .ListComp _ _ _ _ => false
  | .SetComp _ _ _ _ => false
  | .DictComp _ _ _ _ _ => false
  | _ => true
theorem swaps {e : Expr} {t : Option Expr} {l : Nat} {env : PySem.Env} : notComp e = true → swapsWith e t l env = pure false := by
  cases e <;> intro h <;> first | rfl | cases h
def notSlice : Expr → Bool
  | .Slice _ _ _ _ => false
  | _ => true
theorem plainIx {e : Expr} : notSlice e = true → PlainIx e := by
  cases e <;> intro h <;> first | (intro o i; rfl) | cases h
def notSet : Expr → Bool
  | .Set _ _ _ => false
  | _ => true
theorem setIt {e : Expr} {env : PySem.Env} : notSet e = true → ∀ x, foldedSetIterable e env x = pure x := by
  cases e <;> intro h <;> first | (intro x; rfl) | cases h
/-- a test by its value -/
def plainTest : Expr → Bool
  | .BoolOp _ _ _ => false
  | .UnaryOp .Not _ _ => false
  | .Compare _ _ _ _ => false
  | .IfExp _ _ _ _ => false
  | .NamedExpr _ _ _ => false
  | .Constant _ _ _ => false
  | _ => true
theorem tests {e : Expr} {env : PySem.Env} : plainTest e = true → ∀ whole, isTrue e env whole = (do let v ← whole; standAt e.pos; holding [v] (truthy v)) := by
  cases e with
  | UnaryOp op a p => cases op <;> intro h <;> first | (intro x; rfl) | cases h
  | _ => intro h; first | (intro x; rfl) | cases h
theorem marks {b : Expr} {op : CmpOp} (h : notSet b = true) : behindInMarks op b = false := by
  cases b <;> first | rfl | cases h
theorem lmarks {b c : Expr} {o o' : CmpOp} (h : notSet c = true) : lastMarks [o, o'] [b, c] = false := by
  show behindInMarks o' c = false
  exact marks h
def notTup : Expr → Bool
  | .Tuple _ _ _ => false
  | _ => true
theorem swapT0 {ts : List Expr} {k : Nat} {p : Pos} {e : Expr} {env : PySem.Env} (h : notTup e = true) : swappedStores [.Tuple ts k p] e env = pure none := by
  cases e <;> first | rfl | cases h
theorem swapN {x : Str} {p : Pos} {e : Expr} {env : PySem.Env} : swappedStores [.Name x p] e env = pure none := rfl
theorem swapT1 {ts vs : List Expr} {k k' : Nat} {p p' : Pos} {env : PySem.Env} (h : vs.all (foldedForSure 8) = true) : swappedStores [.Tuple ts k p] (.Tuple vs k' p') env = pure none := by
  simp only [swappedStores, h, ↓reduceIte]
  repeat' split
  all_goals first | rfl | simp
theorem swap2 {x y : Str} {px py pt pt2 : Pos} {a b : Expr} {k k' : Nat} {env : PySem.Env} (hk : env.scope.kind = .function) (hx : env.scope.names.lookup x = some .local) (hy : env.scope.names.lookup y = some .local) (hxy : x ≠ y) (hl : py.line = px.line)
    (ha : nonStar a = true) (hb : nonStar b = true) (h1 : [a, b].all (foldedForSure 8) = false) (h2 : [a, b].all (constantsAlone 8) = false) :
    swappedStores [.Tuple [.Name x px, .Name y py] k pt] (.Tuple [a, b] k' pt2) env = pure (some [x, y]) := by
  have e1 : env.kindOf x = some .local := hx
  have e2 : env.kindOf y = some .local := hy
  have e3 : env.blockKind = .function := by unfold Env.blockKind; rw [hk]; rfl
  have e4 : ([a, b].any fun e => match e with | .Starred .. => true | _ => false) = false := by
    have s1 : ∀ (e : Expr) (r : Bool), nonStar e = true → ((match e with | .Starred .. => true | _ => false) || r) = r := by
      intro e r h
      cases e <;> first | rfl | (cases h; done)
    show (_ || (_ || false)) = false
    exact (s1 a _ ha).trans (s1 b _ hb)
  have e5 : [x, y].eraseDups.length = 2 := by
    have : (y == x) = false := by simpa using fun e => hxy e.symm
    simp [List.eraseDups, List.eraseDupsBy, List.eraseDupsBy.loop, this]
  simp only [swappedStores, List.length_cons, List.length_nil, e3, h1, h2, List.filterMap_cons, List.filterMap_nil, e1, e2, hl, Expr.pos, List.head?_cons, Option.map_some, Option.getD_some]
  have s0 : ∀ (e : Expr), nonStar e = true → (match e with | .Starred .. => true | _ => false) = false := by
    intro e h
    cases e <;> first | rfl | (cases h; done)
  simp [e5]
  rintro (h | h)
  · exact Bool.noConfusion ((s0 a ha).symm.trans h)
  · exact Bool.noConfusion ((s0 b hb).symm.trans h)
theorem assignN {t : Expr} {env : PySem.Env} (h : nonStar t = true) : (assignEach [t] env).map (·.2) = [assign t env] := by
  cases t <;> first | rfl | cases h
end Y

/-! Dr: the law's draws. -/
namespace Dr
open PySem PySem.Spec PyProof.Rows L2 Y Hd

/-- the state's dict -/
abbrev stD (a : StA) (r t : Int) : HO := .dK [(.inr "great", .ref a.g), (.inr "cells", .ref a.c), (.inr "rest", .int r), (.inr "turn", .int t)]
theorem g_great {a : StA} {r t : Int} {H : Hp} (e : H a.d = some (stD a r t)) : DGet H a.d (.str "great") (some (.ref a.g)) := .inl ⟨_, .inr "great", .inl e, rfl, rfl⟩
theorem g_cells {a : StA} {r t : Int} {H : Hp} (e : H a.d = some (stD a r t)) : DGet H a.d (.str "cells") (some (.ref a.c)) := .inl ⟨_, .inr "cells", .inl e, rfl, rfl⟩
theorem g_rest {a : StA} {r t : Int} {H : Hp} (e : H a.d = some (stD a r t)) : DGet H a.d (.str "rest") (some (.int r)) := .inl ⟨_, .inr "rest", .inl e, rfl, rfl⟩
theorem g_turn {a : StA} {r t : Int} {H : Hp} (e : H a.d = some (stD a r t)) : DGet H a.d (.str "turn") (some (.int t)) := .inl ⟨_, .inr "turn", .inl e, rfl, rfl⟩
theorem p_rest {a : StA} {r t r' : Int} {H : Hp} (e : H a.d = some (stD a r t)) : DPut H a.d (.str "rest") (.int r') (upd H a.d (stD a r' t)) := .inl ⟨_, .inr "rest", e, rfl, by rw [sizeLine_eq]; show 4 < _; omega, by rfl⟩
theorem p_turn {a : StA} {r t t' : Int} {H : Hp} (e : H a.d = some (stD a r t)) : DPut H a.d (.str "turn") (.int t') (upd H a.d (stD a r t')) := .inl ⟨_, .inr "turn", e, rfl, by rw [sizeLine_eq]; show 4 < _; omega, by rfl⟩
/-- behind a draw -/
structure Chg (a : StA) (ν : Nat) (H H' : Hp) : Prop where
  st : StaOk a ν H'
  kp : ∀ b o, H b = some o → ¬ StO.mem (some a) b → H' b = some o
theorem Chg.sta {a : StA} {r t : Int} {ν : Nat} {H : Hp} {gs cs : List Int} (h1 : H a.d = some (stD a r t)) (h2 : H a.g = some (.lst (gs.map V.int))) (h3 : H a.c = some (.lst (cs.map V.int))) (h4 : 0 ≤ t) (h5 : t + (ν : Int) ≤ 1099511627776) : StaOk a ν H := ⟨⟨r, t, h1, h4, h5⟩, ⟨gs, h2⟩, ⟨cs, h3⟩⟩
theorem seq_mid {t u : TS} {D : Ends} {σ : L2.St} {H : Hp} (R : Hp → Prop) (h : ∀ D' : Ends, (∀ H1, R H1 → D'.nx σ H1) → t D' σ H) (k : ∀ H1, R H1 → u D σ H1) : tSeq t u D σ H := h { D with nx := u D } k
/-- _law_blended -/
def spBlend : Sp := fun vs H Q _ => ∃ (a : StA) (r t : Int) (cs : List Int), vs = [.ref a.d] ∧ H a.d = some (stD a r t) ∧ H a.c = some (.lst (cs.map V.int)) ∧ a.d ≠ a.c ∧ 0 ≤ t ∧ t + 1 ≤ 1099511627776 ∧
  ∀ (i : Int) (p : Addr) (o : HO), upd H a.d (stD a r (t + 1)) p = none → Q (.int i) (upd (upd H a.d (stD a r (t + 1))) p o)
abbrev NB : List Str := ["state", "turn", "found", "prime", "blend", "cell"]
theorem scB : FnScope NB ["state"] (defScope s__law_blended) := ⟨rfl, rfl, rfl, by decide +kernel, rfl, by decide +kernel, by decide +kernel⟩
section
variable {P : Program} {w : World} {K : PySem.W.Frag} {mg : Str → Option Value} {base : Heap} {CX : CXT} {f fB : Addr} {fd fdB : FuncData}
abbrev FnP (K : PySem.W.Frag) (x : Str) (st : Stmt) (f : Addr) (fd : FuncData) : Prop := FunD K x x (defArgs st) (defBody st) (defScope st) [] [] f fd
theorem ok_blend (F : FnP K "_law_blended" s__law_blended f fd) (gI : mg "int" = none) : FnOk P w K mg base CX 1 f fd ["state"] spBlend := by
  refine F.ok scB (fun vs H Q E h => ?_) (fun cdv A outer s H vs Q E hr h => ?_)
  · obtain ⟨a, r, t, cs, rfl, _⟩ := h
    rfl
  · have hu : (A.deeper (envOfC "_law_blended" (defScope s__law_blended) s.heap.objs.size f cdv)).units + 1 < cLine := by have := hr.units; omega
    refine ⟨_, pss_cons (ps_par (i := 1) (j := 2) rfl scB.nd rfl rfl (by decide) rfl rfl (pa_cons (pe_op op_add (pe_dget hu (pv 0) pe_str (by intro _ _ ; rfl)) pe_int) (pa_cons pe_int pa_nil)) (swap2 rfl rfl rfl (by decide) rfl rfl rfl rfl rfl))
      (pss_cons (ps_dput hu (pv 0) pe_str (pv 1) (swaps rfl))
      (pss_cons (ps_for (passes_of rfl) rfl (pi_list (pe_lst (pa_cons pe_int (pa_cons pe_int (pa_cons pe_int pa_nil))))) (pg_name (i := 3) scB.nd rfl (Or.inl rfl))
        (pss_cons (ps_set (i := 4) scB.nd rfl (Or.inl rfl) (pe_op op_add (pe_op op_mul pe_int (pv 1)) (pe_op op_fdiv (pv 3) pe_int)))
        (pss_cons (ps_for (passes_of rfl) rfl (pi_list (pe_dget hu (pv 0) pe_str (by intro _ _; rfl))) (pg_name (i := 5) scB.nd rfl (Or.inl rfl))
          (pss_one (ps_set (i := 4) scB.nd rfl (Or.inl rfl) (pe_op op_mod (pe_callTy call_int1 rfl gI (by decide +kernel) (pa_cons (pe_op op_add (pe_op op_add (pe_op op_mul (pv 4) pe_int) (pv 5)) (pv 1)) pa_nil)) (pv 3)))))
        (pss_one (ps_set (i := 2) scB.nd rfl (Or.inl rfl) (pe_op op_add (pe_op op_mul (pv 2) pe_int) (pe_op op_mod (pe_callTy call_int1 rfl gI (by decide +kernel) (pa_cons (pe_op op_pow (pv 4) pe_int) pa_nil)) (pv 3))))))))
      (pss_one (ps_ret (pv 2))))), ?_⟩
    obtain ⟨a, r, t, cs, rfl, h1, h3, ne, h4, h5, q⟩ := h
    refine ⟨_, rfl, a.d, _, rfl, g_turn h1, t, 1, rfl, rfl, _, _, rfl, ?_⟩
    refine ⟨_, rfl, _, rfl, a.d, _, rfl, p_turn h1, ?_⟩
    refine ⟨by rw [sizeLine_eq]; show 3 ≤ _; omega, fun p hp => ?_⟩
    refine ⟨p, rfl, ⟨_, .inl (.inl upd_same)⟩, ?_⟩
    have npd : p ≠ a.d := fun e => by rw [e, upd_same] at hp; cases hp
    have npc : p ≠ a.c := fun e => by
      rw [e, upd_ne (fun z => ne z.symm), h3] at hp
      cases hp
    have hd : (upd (upd H a.d (stD a r (t + 1))) p (.lst [.int 2147483579, .int 2147483629, .int 2147483563])) a.d = some (stD a r (t + 1)) := by rw [upd_ne (fun z => npd z.symm), upd_same]
    have hc : (upd (upd H a.d (stD a r (t + 1))) p (.lst [.int 2147483579, .int 2147483629, .int 2147483563])) a.c = some (.lst (cs.map V.int)) := by rw [upd_ne (fun z => npc z.symm), upd_ne (fun z => ne z.symm), h3]
    refine for_it (walk_list (xs := [.int 2147483579, .int 2147483629, .int 2147483563])) (fun i σ H' => H' = upd (upd H a.d (stD a r (t + 1))) p (.lst [.int 2147483579, .int 2147483629, .int 2147483563]) ∧ ∃ (fd : Int) (pr bl cl : Option V), σ = [some (.ref a.d), some (.int (t + 1)), some (.int fd), pr, bl, cl]) ?_ ?_ ?_ ?_
    · exact ⟨rfl, 0, none, none, none, rfl⟩
    · rintro i σ H' _ ⟨rfl, _⟩
      exact .inl (.inl upd_same)
    · rintro i x σ H1 H' hi ⟨rfl, fd, pr, bl, cl, rfl⟩ ⟨rfl, hx⟩
      have hpr : ∃ pm : Int, x = .int pm ∧ 0 < pm ∧ pm < 2147483648 := by
        match i, hi, hx with
        | 0, _, hx => exact ⟨_, (Option.some.inj hx).symm, by omega, by omega⟩
        | 1, _, hx => exact ⟨_, (Option.some.inj hx).symm, by omega, by omega⟩
        | 2, _, hx => exact ⟨_, (Option.some.inj hx).symm, by omega, by omega⟩
      obtain ⟨pm, rfl, hp1, hp2⟩ := hpr
      refine ⟨_, rfl, 48271, t + 1, rfl, rfl, .inl ⟨by omega, by omega⟩, ?_⟩
      refine ⟨_, rfl, pm, 53, rfl, rfl, ⟨by omega, by omega⟩, ?_⟩
      refine ⟨_, _, rfl, rfl, ?_⟩
      refine ⟨_, rfl, a.d, _, rfl, g_cells hd, a.c, rfl, ⟨_, .inl (.inl hc)⟩, ?_⟩
      refine for_it (walk_list (xs := cs.map V.int)) (fun i σ H' => H' = upd (upd H a.d (stD a r (t + 1))) p (.lst [.int 2147483579, .int 2147483629, .int 2147483563]) ∧ ∃ (b : Int) (cl : Option V), b.natAbs < 2 ^ 64 ∧ σ = [some (.ref a.d), some (.int (t + 1)), some (.int fd), some (.int pm), some (.int b), cl]) ?_ ?_ ?_ ?_
      · refine ⟨rfl, _, _, ?_, rfl⟩
        omega
      · rintro i σ H' _ ⟨rfl, _⟩
        exact .inl (.inl hc)
      · rintro i x σ H1 H' hi ⟨rfl, b, cl, hb, rfl⟩ ⟨rfl, hx⟩
        have hx2 : ∃ c : Int, x = .int c := by
          rw [List.getElem?_map] at hx
          cases e : cs[i]? with
          | none => rw [e] at hx; cases hx
          | some c => rw [e] at hx; exact ⟨c, (Option.some.inj hx).symm⟩
        obtain ⟨c, rfl⟩ := hx2
        refine ⟨_, rfl, b, 69621, rfl, rfl, .inr ⟨by omega, by omega⟩, ?_⟩
        refine ⟨_, rfl, _, _, rfl, rfl, ?_⟩
        refine ⟨_, rfl, _, _, rfl, rfl, ?_⟩
        refine .inl ⟨_, rfl, ?_⟩
        refine ⟨_, rfl, _, pm, rfl, rfl, hp1, ?_⟩
        refine ⟨rfl, _, _, ?_, rfl⟩
        have z1 := Int.emod_nonneg (b * 69621 + c + (t + 1)) (show pm ≠ 0 by omega)
        have z2 := Int.emod_lt_of_pos (b * 69621 + c + (t + 1)) hp1
        omega
      · rintro σ H' ⟨rfl, b, cl, hb, rfl⟩
        refine ⟨_, rfl, fd, 2147483647, rfl, rfl, .inr ⟨by omega, by omega⟩, ?_⟩
        refine ⟨_, rfl, b, 5, rfl, rfl, ⟨by omega, by omega, hb⟩, ?_⟩
        refine .inl ⟨_, rfl, ?_⟩
        refine ⟨_, rfl, _, pm, rfl, rfl, hp1, ?_⟩
        refine ⟨_, _, rfl, rfl, ?_⟩
        exact ⟨rfl, _, _, _, _, rfl⟩
    · rintro σ H' ⟨rfl, fd, pr, bl, cl, rfl⟩
      exact ⟨_, rfl, q fd p _ hp⟩
/-- _law_draw -/
def spDraw : Sp := fun vs H Q _ => ∃ (a : StA) (ν : Nat) (room : Int), vs = [.ref a.d, .int room] ∧ StaOk a (ν + 1) H ∧ 0 < room ∧ room < 1073741824 ∧ ∀ (i : Int) H', 0 ≤ i → i < room → Chg a ν H H' → Q (.int i) H'
abbrev ND : List Str := ["state", "room", "found"]
theorem scD : FnScope ND ["state", "room"] (defScope s__law_draw) := ⟨rfl, rfl, rfl, by decide +kernel, rfl, by decide +kernel, by decide +kernel⟩
theorem fitI : ∀ (gs : List Int) (n : Nat), D.fitL n (gs.map D.int) = true
  | [], n => by cases n <;> rfl
  | g :: gs, 0 => by
    show (true && D.fitL 0 (gs.map D.int)) = true
    rw [fitI gs 0] <;> rfl
  | g :: gs, n + 1 => by
    show (true && D.fitL (n + 1) (gs.map D.int)) = true
    rw [fitI gs (n + 1)] <;> rfl
theorem dyI {G : Hp} : ∀ (gs : List Int), DyL K G (gs.map V.int) (gs.map D.int)
  | [] => .nil
  | g :: gs => .cons (.int g) (dyI gs)
theorem ok_draw (F : FnP K "_law_draw" s__law_draw f fd) (FB : FnP K "_law_blended" s__law_blended fB fdB) (gB : mg "_law_blended" = some (.ref fB)) (gI : mg "int" = none) : FnOk P w K mg base CX 2 f fd ["state", "room"] spDraw := by
  have GB : FnOk P w K mg base CX0 1 fB fdB ["state"] spBlend := ok_blend FB gI
  have bB : Binds K fdB ["state"] [] := FB.bindsN fun _ _ _ _ _ _ us hl => match us, hl with | [_], _ => rfl
  refine F.ok scD (fun vs H Q E h => ?_) (fun cdv A outer s H vs Q E hr h => ?_)
  · obtain ⟨a, ν, room, rfl, _⟩ := h
    rfl
  · have hu64 : (A.deeper (envOfC "_law_draw" (defScope s__law_draw) s.heap.objs.size f cdv)).units + 64 < cLine := hr.units
    have hu : (A.deeper (envOfC "_law_draw" (defScope s__law_draw) s.heap.objs.size f cdv)).units + 1 < cLine := by omega
    refine ⟨_, pss_cons (ps_if (pt_cmpR op_eq (pe_dget hu (pv 0) pe_str (by intro _ _; rfl)) pe_int (nomark _))
        (pss_one (ps_dput hu (pv 0) pe_str (pe_ifExp (pt_cmpR (op_neD hu64) (pe_dget hu (pv 0) pe_str (by intro _ _; rfl)) (pe_lst pa_nil) (nomark _))
          (pe_bm PySem.F.plainAttrs_list PySem.F.slot_list_pop PySem.F.type_list_pop mt_popAt (pe_dget hu (pv 0) pe_str (by intro _ _; rfl)) (pa_cons pe_int pa_nil) rfl rfl rfl rfl rfl)
          (pe_call GB hr rfl gB FB.kp bB .nil pass0 (pa_cons (pv 0) pa_nil))) (swaps rfl))) pss_nil)
      (pss_cons (ps_set (i := 2) scD.nd rfl (Or.inl rfl) (pe_op op_mod (pe_callTy call_int1 rfl gI (by decide +kernel) (pa_cons (pe_dget hu (pv 0) pe_str (by intro _ _; rfl)) pa_nil)) (pv 1)))
      (pss_cons (ps_dput hu (pv 0) pe_str (pe_op op_fdiv (pe_dget hu (pv 0) pe_str (by intro _ _; rfl)) (pv 1)) (swaps rfl))
      (pss_one (ps_ret (pv 2))))), ?_⟩
    obtain ⟨a, ν, room, rfl, ⟨⟨r, t, e, t0, tl⟩, ⟨gs, eg⟩, ⟨cs, ec⟩⟩, h1, h2, q⟩ := h
    have ndg : a.d ≠ a.g := fun z => by rw [z, eg] at e; cases e
    have ndc : a.d ≠ a.c := fun z => by rw [z, ec] at e; cases e
    refine seq_mid (fun H1 => ∃ r' t', H1 a.d = some (stD a r' t') ∧ 0 ≤ t' ∧ t' + (ν : Int) ≤ 1099511627776 ∧ (∃ gs : List Int, H1 a.g = some (.lst (gs.map V.int))) ∧ (∃ cs : List Int, H1 a.c = some (.lst (cs.map V.int))) ∧ ∀ b o, H b = some o → ¬ StO.mem (some a) b → H1 b = some o) ?_ ?_
    · intro D' k
      refine ⟨_, rfl, a.d, _, rfl, g_rest e, rfl, _, rfl, ?_⟩
      by_cases hz : V.int r = V.int 0
      · rw [decide_eq_true hz]
        refine iteT ?_
        refine ⟨_, rfl, a.d, _, rfl, g_great e, ?_⟩
        refine ⟨by rw [sizeLine_eq]; show 0 ≤ _; omega, fun p hp => ?_⟩
        have npg : a.g ≠ p := fun z => by rw [← z, eg] at hp; cases hp
        have npd : a.d ≠ p := fun z => by rw [← z, e] at hp; cases hp
        have npc : a.c ≠ p := fun z => by rw [← z, ec] at hp; cases hp
        have e' : (upd H p (.lst [])) a.d = some (stD a r t) := by rw [upd_ne npd]; exact e
        have eg' : (upd H p (.lst [])) a.g = some (.lst (gs.map V.int)) := by rw [upd_ne npg]; exact eg
        have ec' : (upd H p (.lst [])) a.c = some (.lst (cs.map V.int)) := by rw [upd_ne npc]; exact ec
        have kp' : ∀ b o, H b = some o → (upd H p (.lst [])) b = some o := fun b o z => by rw [upd_ne (ne_of_none z hp)]; exact z
        refine ⟨(D.lst (gs.map D.int)).py, (D.lst []).py, .lst (.inl (.inl eg')) (fit_dpL (n := 59) (G := upd H p (.lst [])) (fitI gs 59) (dyI gs)), .lst (.inl (.inl upd_same)) .nil, fit_shaped (fitI gs 59), fit_shaped (by decide), _, rfl, ?_⟩
        cases gs with
        | nil =>
          refine iteF ?_
          refine ⟨_, rfl, a, r, t, cs, rfl, e', ec', ndc, t0, by omega, fun i p2 o hp2 => ?_⟩
          have npd2 : a.d ≠ p2 := fun z => by rw [← z, upd_same] at hp2; cases hp2
          have npg2 : a.g ≠ p2 := fun z => by rw [← z, upd_ne (fun y => ndg y.symm), eg'] at hp2; cases hp2
          have npc2 : a.c ≠ p2 := fun z => by rw [← z, upd_ne (fun y => ndc y.symm), ec'] at hp2; cases hp2
          have e3 : (upd (upd (upd H p (.lst [])) a.d (stD a r (t + 1))) p2 o) a.d = some (stD a r (t + 1)) := by rw [upd_ne npd2, upd_same]
          refine ⟨_, rfl, a.d, _, rfl, p_rest e3, k _ ⟨i, t + 1, upd_same, by omega, by omega, ⟨[], ?_⟩, ⟨cs, ?_⟩, fun b u z m => ?_⟩⟩
          · rw [upd_ne (fun y => ndg y.symm), upd_ne npg2, upd_ne (fun y => ndg y.symm)]
            exact eg'
          · rw [upd_ne (fun y => ndc y.symm), upd_ne npc2, upd_ne (fun y => ndc y.symm)]
            exact ec'
          · have mb : b ≠ a.d := fun y => m (.inl y)
            have nb : b ≠ p2 := fun y => by
              rw [← y, upd_ne mb, kp' b u z] at hp2
              cases hp2
            rw [upd_ne mb, upd_ne nb, upd_ne mb]
            exact kp' b u z
        | cons g gs =>
          refine iteT ?_
          refine ⟨_, rfl, a.d, _, rfl, g_great e', .inl ⟨rfl, _, .inl (.inl eg')⟩, ?_⟩
          refine ⟨a.g, _, 0, 0, .int g, rfl, rfl, eg', by omega, by omega, by unfold seqIndex?; simp, rfl, ?_⟩
          have e3 : (upd (upd H p (.lst [])) a.g (.lst (((g :: gs).map V.int).eraseIdx 0))) a.d = some (stD a r t) := by rw [upd_ne ndg]; exact e'
          refine ⟨_, rfl, a.d, _, rfl, p_rest e3, k _ ⟨g, t, upd_same, t0, by omega, ⟨gs, ?_⟩, ?_, fun b u z m => ?_⟩⟩
          · rw [upd_ne (fun y => ndg y.symm), upd_same]
            rfl
          · by_cases hgc : a.c = a.g
            · refine ⟨gs, ?_⟩
              rw [upd_ne (fun y => ndc y.symm), hgc, upd_same]
              rfl
            · refine ⟨cs, ?_⟩
              rw [upd_ne (fun y => ndc y.symm), upd_ne hgc]
              exact ec'
          · rw [upd_ne (fun y => m (.inl y)), upd_ne (fun y => m (.inr (.inl y)))]
            exact kp' b u z
      · rw [decide_eq_false hz]
        refine iteF ?_
        exact k H ⟨r, t, e, t0, by omega, ⟨gs, eg⟩, ⟨cs, ec⟩, fun b o z _ => z⟩
    · rintro H1 ⟨r', t', e1, t1, tl1, ⟨gs1, eg1⟩, ⟨cs1, ec1⟩, kp⟩
      have ndg : a.d ≠ a.g := fun z => by rw [z, eg1] at e1; cases e1
      have ndc : a.d ≠ a.c := fun z => by rw [z, ec1] at e1; cases e1
      refine ⟨_, rfl, a.d, _, rfl, g_rest e1, ?_⟩
      refine .inl ⟨_, rfl, ?_⟩
      refine ⟨_, rfl, _, room, rfl, rfl, h1, ?_⟩
      refine ⟨_, rfl, a.d, _, rfl, g_rest e1, ?_⟩
      refine ⟨_, rfl, _, room, rfl, rfl, ⟨h1, h2⟩, ?_⟩
      refine ⟨_, rfl, a.d, _, rfl, p_rest e1, ?_⟩
      refine ⟨_, rfl, q _ _ (Int.emod_nonneg _ (by omega)) (Int.emod_lt_of_pos _ h1) ⟨Chg.sta upd_same (by rw [upd_ne (fun z => ndg z.symm)]; exact eg1) (by rw [upd_ne (fun z => ndc z.symm)]; exact ec1) t1 tl1, fun b o z m => ?_⟩⟩
      rw [upd_ne (fun y => m (.inl y))]
      exact kp b o z m
end
end Dr

/-! Be: the state's begin. -/
namespace Dr
open PySem PySem.Spec PyProof.Rows L2 Y Hd

/-- _law_begun -/
def spBegun (K : PySem.W.Frag) : Sp := fun vs H Q _ => ∃ (l : Addr) (ns : List Int), vs = [.ref l] ∧ SqL K H l (ns.map V.int) ∧ ns.length ≤ 63 ∧
  ∀ (a : StA) (H' : Hp), StaOk a 1099511627776 H' → (∀ b o, H b = some o → H' b = some o) → (∀ b, StO.mem (some a) b → H b = none) → Q (.ref a.d) H'
abbrev NG : List Str := ["script", "great", "cell"]
theorem scG : FnScope NG ["script"] (defScope s__law_begun) := ⟨rfl, rfl, rfl, by decide +kernel, rfl, by decide +kernel, by decide +kernel⟩
theorem iteB {b : Bool} {A B : Prop} (h1 : b = true → A) (h2 : b = false → B) : if b = true then A else B := by
  cases b with
  | true => exact h1 rfl
  | false => exact h2 rfl
theorem sqKeep {K : PySem.W.Frag} {H H' : Hp} {l : Addr} {vs : List V} (h : SqL K H l vs) (k : ∀ b o, H b = some o → H' b = some o) : SqL K H' l vs := by
  rcases h with h | h
  · refine .inl ?_
    rcases h with h | ⟨o, h⟩
    · exact .inl (k _ _ h)
    · exact .inr ⟨o, k _ _ h⟩
  · exact .inr h
section
variable {P : Program} {w : World} {K : PySem.W.Frag} {mg : Str → Option Value} {base : Heap} {CX : CXT} {f : Addr} {fd : FuncData}
theorem ok_begun (F : FnP K "_law_begun" s__law_begun f fd) (gA : mg "abs" = none) : FnOk P w K mg base CX 1 f fd ["script"] (spBegun K) := by
  refine F.ok scG (fun vs H Q E h => ?_) (fun cdv A outer s H vs Q E hr h => ?_)
  · obtain ⟨l, ns, rfl, _⟩ := h
    rfl
  · refine ⟨_, pss_cons (ps_setLc (i := 1) (own := [("cell", 2)]) rfl scG.nd rfl rfl (sw_true rfl rfl rfl rfl) (pi_list (pv 0)) (blkOk_by (by change blkC NG (defScope s__law_begun) _ _ = true; decide +kernel)) (fun _ _ _ _ _ => pg_name (i := 2) scG.nd rfl (Or.inl rfl))
        (fun _ _ _ _ _ => pts_one (pt_cmpR op_ge (pe_callB call_abs rfl gA (by decide +kernel) (pa_cons (pv 2) pa_nil)) (pe_op op_pow pe_int pe_int) (nomark _)))
        (fun _ _ _ _ _ => pe_op op_sub (pe_callB call_abs rfl gA (by decide +kernel) (pa_cons (pv 2) pa_nil)) (pe_op op_pow pe_int pe_int)) (setIt rfl))
      (pss_one (ps_ret (pe_disp (pps_cons pe_str (pv 1) (pps_cons pe_str (pe_lc (own := [("cell", 2)]) rfl scG.nd (pi_list (pv 0)) (blkOk_by (by change blkC NG (defScope s__law_begun) _ _ = true; decide +kernel)) (fun _ _ _ _ _ => pg_name (i := 2) scG.nd rfl (Or.inl rfl)) (fun _ _ _ _ _ => pts_nil)
        (fun _ _ _ _ _ => pe_callB call_abs rfl gA (by decide +kernel) (pa_cons (pv 2) pa_nil)) (setIt rfl)) (pps_cons pe_str pe_int (pps_cons pe_str pe_int pps_nil)))) rfl rfl (by simp) (by decide)))), ?_⟩
    obtain ⟨l, ns, rfl, hl, hn, q⟩ := h
    have isInt : ∀ {i : Nat} {x : V}, (ns.map V.int)[i]? = some x → ∃ c : Int, x = .int c := fun {i x} hx => by
      rw [List.getElem?_map] at hx
      cases e : ns[i]? with
      | none => rw [e] at hx; cases hx
      | some c => rw [e] at hx; exact ⟨c, (Option.some.inj hx).symm⟩
    refine ⟨_, rfl, l, rfl, ⟨_, hl⟩, fun p hp => ?_⟩
    have keep1 : ∀ {o : HO} (b : Addr) (u : HO), H b = some u → (upd H p o) b = some u := fun b u e => by rw [upd_ne (ne_of_none e hp)]; exact e
    refine lc_it (walk_list (xs := ns.map V.int)) (fun i H' => ∃ gs : List Int, gs.length ≤ i ∧ H' = upd H p (.lst (gs.map V.int))) ⟨[], Nat.le_refl _, rfl⟩ ?_ ?_ ?_
    · rintro i H' _ ⟨gs, _, rfl⟩
      exact sqKeep hl keep1
    · rintro i x H' H2 hi ⟨gs, hg, rfl⟩ ⟨rfl, hx⟩
      obtain ⟨c, rfl⟩ := isInt hx
      refine ⟨rfl, ⟨_, rfl, c, rfl, ?_⟩⟩
      refine ⟨10, 18, rfl, rfl, ⟨by omega, by omega, by decide⟩, ?_⟩
      refine ⟨_, _, rfl, rfl, _, rfl, ?_⟩
      refine iteB (fun _ => ?_) (fun _ => ?_)
      · refine ⟨_, rfl, c, rfl, ?_⟩
        refine ⟨10, 18, rfl, rfl, ⟨by omega, by omega, by decide⟩, ?_⟩
        refine ⟨_, _, rfl, rfl, _, upd_same, ?_, gs ++ [(if c < 0 then -c else c) - 10 ^ (18 : Int).toNat], ?_, ?_⟩
        · rw [List.length_map, sizeLine_eq]
          rw [List.length_map] at hi
          omega
        · rw [List.length_append]
          exact Nat.add_le_add_right hg 1
        · rw [List.map_append]
          funext b
          by_cases hb : b = p
          · rw [hb, upd_same, upd_same] <;> rfl
          · rw [upd_ne hb, upd_ne hb, upd_ne hb]
      · exact ⟨gs, by omega, rfl⟩
    · rintro H' ⟨gs, hg, rfl⟩
      refine fun d hd => ?_
      have hl' : SqL K (upd (upd H p (.lst (gs.map V.int))) d (.dK [])) l (ns.map V.int) := sqKeep (sqKeep hl keep1) fun b u e => by rw [upd_ne (ne_of_none e hd)]; exact e
      have hpd : p ≠ d := fun z => by rw [← z, upd_same] at hd; cases hd
      refine ⟨_, rfl, _, rfl, l, rfl, ⟨_, hl'⟩, fun c hc => ?_⟩
      have hdc : d ≠ c := fun z => by rw [← z, upd_same] at hc; cases hc
      have hpc : p ≠ c := fun z => by rw [← z, upd_ne hpd, upd_same] at hc; cases hc
      have keep3 : ∀ {o : HO} (b : Addr) (u : HO), (upd (upd H p (.lst (gs.map V.int))) d (.dK [])) b = some u → (upd (upd (upd H p (.lst (gs.map V.int))) d (.dK [])) c o) b = some u := fun b u e => by rw [upd_ne (ne_of_none e hc)]; exact e
      refine lc_it (walk_list (xs := ns.map V.int)) (fun i H' => ∃ cs : List Int, cs.length ≤ i ∧ H' = upd (upd (upd H p (.lst (gs.map V.int))) d (.dK [])) c (.lst (cs.map V.int))) ⟨[], Nat.le_refl _, rfl⟩ ?_ ?_ ?_
      · rintro i H' _ ⟨cs, _, rfl⟩
        exact sqKeep hl' keep3
      · rintro i x H' H2 hi ⟨cs, hg, rfl⟩ ⟨rfl, hx⟩
        obtain ⟨x, rfl⟩ := isInt hx
        refine ⟨rfl, ?_⟩
        unfold tYes
        dsimp only
        rw [if_pos rfl]
        refine ⟨_, rfl, x, rfl, _, upd_same, ?_, cs ++ [if x < 0 then -x else x], ?_, ?_⟩
        · rw [List.length_map, sizeLine_eq]
          rw [List.length_map] at hi
          omega
        · rw [List.length_append]
          exact Nat.add_le_add_right hg 1
        · rw [List.map_append]
          funext b
          by_cases hb : b = c
          · rw [hb, upd_same, upd_same] <;> rfl
          · rw [upd_ne hb, upd_ne hb, upd_ne hb]
      · rintro H' ⟨cs, hg, rfl⟩
        have ed : (upd (upd (upd H p (.lst (gs.map V.int))) d (.dK [])) c (.lst (cs.map V.int))) d = some (.dK []) := by rw [upd_ne hdc, upd_same]
        refine ⟨ed, [(.inr "great", .ref p), (.inr "cells", .ref c), (.inr "rest", .int 0), (.inr "turn", .int 0)], rfl, by show 4 ≤ 15; omega, ?_⟩
        refine q ⟨d, p, c⟩ _ ⟨⟨0, 0, upd_same, by omega, by omega⟩, ⟨gs, ?_⟩, ⟨cs, ?_⟩⟩ (fun b o e => ?_) (fun b m => ?_)
        · rw [upd_ne hpd, upd_ne hpc, upd_ne hpd, upd_same]
        · rw [upd_ne hdc.symm, upd_same]
        · have k1 := keep1 (o := .lst (gs.map V.int)) b o e
          have k2 : (upd (upd H p (.lst (gs.map V.int))) d (.dK [])) b = some o := by rw [upd_ne (ne_of_none k1 hd)]; exact k1
          rw [upd_ne (ne_of_none k1 hd)]
          exact keep3 b o k2
        · have nn : ∀ {b : Addr}, b ≠ p → (upd H p (.lst (gs.map V.int))) b = none → H b = none := fun {b} n e => by rw [upd_ne n] at e; exact e
          rcases m with rfl | rfl | rfl
          · exact nn hpd.symm hd
          · exact hp
          · rw [upd_ne hdc.symm] at hc
            exact nn hpc.symm hc
end
end Dr

/-! L1: the pick; exceptions in lists. -/
namespace Dr
open PySem PySem.Spec PyProof.Rows L2 Y Hd Xc
/-- _law_pick -/
def spPick : Sp := fun vs H Q _ => ∃ (a : StA) (ν : Nat) (p : Addr) (xs : List V), vs = [.ref a.d, .ref p] ∧ StaOk a (ν + 1) H ∧ H p = some (.lst xs) ∧ ¬ StO.mem (some a) p ∧ 0 < xs.length ∧ xs.length < 1000 ∧
  ∀ (i : Nat) (x : V) H', xs[i]? = some x → Chg a ν H H' → Q x H'
abbrev NP : List Str := ["state", "some"]
theorem scP : FnScope NP ["state", "some"] (defScope s__law_pick) := ⟨rfl, rfl, rfl, by decide +kernel, rfl, by decide +kernel, by decide +kernel⟩
section
variable {P : Program} {w : World} {K : PySem.W.Frag} {mg : Str → Option Value} {base : Heap} {CX : CXT} {f fB fD : Addr} {fd fdB fdD : FuncData}
theorem ok_pick (F : FnP K "_law_pick" s__law_pick f fd) (FD : FnP K "_law_draw" s__law_draw fD fdD) (FB : FnP K "_law_blended" s__law_blended fB fdB) (gD : mg "_law_draw" = some (.ref fD)) (gB : mg "_law_blended" = some (.ref fB)) (gI : mg "int" = none) (gL : mg "len" = none) :
    FnOk P w K mg base CX 3 f fd ["state", "some"] spPick := by
  have GD : FnOk P w K mg base CX0 2 fD fdD ["state", "room"] spDraw := ok_draw FD FB gB gI
  have bD : Binds K fdD ["state", "room"] [] := FD.bindsN fun _ _ _ _ _ _ us hl => match us, hl with | [_, _], _ => rfl
  refine F.ok scP (fun vs H Q E h => ?_) (fun cdv A outer s H vs Q E hr h => ?_)
  · obtain ⟨a, ν, p, xs, rfl, _⟩ := h
    rfl
  · refine ⟨_, pss_one (ps_ret (pe_ix ix_seq (pv 1) (pe_call GD hr rfl gD FD.kp bD .nil pass0 (pa_cons (pv 0) (pa_cons (pe_callB call_len rfl gL boot_len (pa_cons (pv 1) pa_nil)) pa_nil))) fun _ _ => rfl)), ?_⟩
    obtain ⟨a, ν, p, xs, rfl, st, hp, nm, l1, l2, q⟩ := h
    refine ⟨_, rfl, _, rfl, _, rfl, _, xs.length, rfl, .inl ⟨_, .inl (.inl hp), rfl⟩, a, ν, (xs.length : Int), rfl, st, by omega, by omega, fun i H' h0 h1 c => ?_⟩
    have hlt : i.toNat < xs.length := by omega
    refine .inl ⟨p, xs, i, xs[i.toNat], rfl, rfl, .inl (.inl (c.kp _ _ hp nm)), ?_, q i.toNat _ H' (List.getElem?_eq_getElem hlt) c⟩
    unfold atI ixN
    rw [if_pos h0, if_pos h1]
    exact List.getElem?_eq_getElem hlt
end
end Dr

/-! L2: the errors in lists. -/
namespace Dr
open PySem PySem.Spec PyProof.Rows L2 Y Hd Xc
abbrev Keep (H H' : Hp) : Prop := ∀ b o, H b = some o → H' b = some o
theorem Keep.trans {H H1 H2 : Hp} (a : Keep H H1) (b : Keep H1 H2) : Keep H H2 := fun c o h => b c o (a c o h)
theorem Keep.upd {H : Hp} {p : Addr} {o : HO} (h : H p = none) : Keep H (upd H p o) := fun b u e => by rw [upd_ne (ne_of_none e h)]; exact e
theorem _root_.Xc.XV.keep {H H' : Hp} {C a : Addr} (k : Keep H H') (h : XV H C a) : XV H' C a := by
  rcases h with h | ⟨d, fs, h, hd⟩
  · exact .inl (k _ _ h)
  · exact .inr ⟨d, fs, k _ _ h, k _ _ hd⟩
def Sm (x : V) : Prop := x = .non ∨ (∃ y : Str, x = .str y ∧ y.length ≤ 1000) ∨ ∃ i : Int, x = .int i ∧ i.natAbs.log2 < 1920
/-- what the kernel saw -/
structure KF (K : PySem.W.Frag) (mg : Str → Option Value) : Prop where
  gl : ∀ x ∈ ("ChanceError" : Str) :: (Hd.plain ++ withF.map (·.1)), mg x = some (.ref (He.ga K x))
  exc : ∀ x ∈ Hd.plain, PySem.W.excIn K (He.ga K x) He.veBase "ValueError.__new__" = true ∧ PySem.W.keepIn K (.ref (He.ga K x)) = true
  ex : Hd.ex K = true
theorem KF.di {K : PySem.W.Frag} {mg : Str → Option Value} (k : KF K mg) : DI K (He.ga K "ChanceError") := diB_ok (Bool.and_eq_true_iff.mp k.ex).1
theorem KF.pl {K : PySem.W.Frag} {mg : Str → Option Value} (k : KF K mg) {x : Str} (h : x ∈ Hd.plain) : XC K (He.ga K x) ∧ ktB K x "ValueError" true = true ∧ kyB K x "ChanceError" true = true ∧ kyB K x "TooMany" false = true := by
  have z := List.all_eq_true.mp (Bool.and_eq_true_iff.mp (Bool.and_eq_true_iff.mp k.ex).2).1 x h
  obtain ⟨z1, z⟩ := Bool.and_eq_true_iff.mp z
  obtain ⟨z2, z⟩ := Bool.and_eq_true_iff.mp z
  obtain ⟨z3, z4⟩ := Bool.and_eq_true_iff.mp z
  exact ⟨(isB_ok z1).1, z2, z3, z4⟩
theorem KF.wf {K : PySem.W.Frag} {mg : Str → Option Value} (k : KF K mg) {p : Str × Str} (h : p ∈ withF) : XC K (He.ga K p.1) ∧ XfC K (He.ga K p.1) ∧ OexC K (He.ga K p.1) ∧ kyB K p.1 "ChanceError" true = true ∧
    PySem.W.findIn K (.ref (He.ga K p.1)) "__init__" = some (some (.ref (He.ma K (He.ga K p.1) "__init__"))) ∧ PySem.W.typeIn K (.ref (He.ma K (He.ga K p.1) "__init__")) = some (.type "function") ∧ PySem.W.findIn K (.ref (He.ga K p.1)) p.2 = some none := by
  have z := List.all_eq_true.mp (Bool.and_eq_true_iff.mp (Bool.and_eq_true_iff.mp (Bool.and_eq_true_iff.mp k.ex).2).2).1 p h
  obtain ⟨z1, z⟩ := Bool.and_eq_true_iff.mp z
  obtain ⟨z2, z⟩ := Bool.and_eq_true_iff.mp z
  obtain ⟨z3, z4⟩ := Bool.and_eq_true_iff.mp z
  obtain ⟨y1, y⟩ := Bool.and_eq_true_iff.mp z3
  obtain ⟨y2, y3⟩ := Bool.and_eq_true_iff.mp y
  exact ⟨(isB_ok z1).1, (isB_ok z1).2, oexB_ok z2, z4, He.eqO_ok y1, of_decide_eq_true y2, He.eqO_ok y3⟩
theorem KF.pr {K : PySem.W.Frag} {mg : Str → Option Value} (k : KF K mg) {p : Str × Str} (h : p ∈ pairs) : PySem.W.kitOne K (.ref (He.ga K p.1)) (.ref (He.ga K p.2)) = some false :=
  of_decide_eq_true (List.all_eq_true.mp (Bool.and_eq_true_iff.mp (Bool.and_eq_true_iff.mp (Bool.and_eq_true_iff.mp k.ex).2).2).2 p h)
/-! ### an error made of the slot i -/
def tMk (C : Addr) (i : Nat) : TE := fun σ H Q => ∃ x, σ[i]? = some (some x) ∧ Sm x ∧ ∀ a H', XV H' C a → Keep H H' → Q (.ref a) H'
/-- one of the Hd.plain ones -/
def Pl (K : PySem.W.Frag) (H : Hp) (u : V) : Prop := ∃ x ∈ Hd.plain, ∃ a, u = .ref a ∧ XV H (He.ga K x) a
theorem Pl.keep {K : PySem.W.Frag} {H H' : Hp} {u : V} (k : Keep H H') (h : Pl K H u) : Pl K H' u := by
  obtain ⟨x, hx, a, e, v⟩ := h
  exact ⟨x, hx, a, e, v.keep k⟩
def tMs (K : PySem.W.Frag) (i n : Nat) : TA := fun σ H Q => ∃ x, σ[i]? = some (some x) ∧ Sm x ∧ ∀ us H', us.length = n → (∀ u ∈ us, Pl K H' u) → Keep H H' → Q us H'
section
variable {X : Cx} {x : Str} {es : List Expr} {p q pos : Pos} {n : Nat} {y : Str} {i : Nat}
theorem pe_mk1 (k : KF X.K X.mg) (hx : x ∈ Hd.plain) (hg : Gl X x) (hd : (x == ("__debug__" : Str)) = false) (hy : PE X (.Name y q) (tVar i)) : PE X (.Call (.Name x p) [.Name y q] [] pos) (tMk (He.ga X.K x) i) := by
  obtain ⟨e1, e2⟩ := k.exc x hx
  refine (pe_exc1 PySem.F.excBase_ValueError e1 (k.gl x (List.mem_cons_of_mem _ (List.mem_append_left _ hx))) e2 hg hy rfl hd).le fun σ H Q h => ?_
  obtain ⟨v, hv, hs, h⟩ := h
  exact ⟨v, hv, fun a ha => h a _ (.inl upd_same) (Keep.upd ha)⟩
theorem pm (k : KF X.K X.mg) (hx : x ∈ Hd.plain) (hg : Gl X x) (hd : (x == ("__debug__" : Str)) = false) (hy : PE X (.Name y q) (tVar i)) (t : PA X es (tMs X.K i n)) : PA X (.Call (.Name x p) [.Name y q] [] pos :: es) (tMs X.K i (n + 1)) := by
  refine (pa_cons (pe_mk1 k hx hg hd hy) t rfl).le fun σ H Q h => ?_
  obtain ⟨v, hv, hs, h⟩ := h
  refine ⟨v, hv, hs, fun a H1 x1 k1 => ⟨v, hv, hs, fun us H2 l p2 k2 => h _ H2 ?_ ?_ (k1.trans k2)⟩⟩
  · rw [List.length_cons, l]
  · intro u hu
    rcases List.mem_cons.mp hu with rfl | hu
    · exact ⟨x, hx, a, rfl, x1.keep k2⟩
    · exact p2 u hu
theorem pm0 : PA X [] (tMs X.K i 0) := pa_nil.le fun σ H Q ⟨v, hv, hs, h⟩ => h [] H rfl (fun u hu => nomatch hu) fun _ _ e => e
end
/-! ### _law_plain -/
def spPlain (K : PySem.W.Frag) : Sp := fun vs H Q _ => ∃ x, vs = [x] ∧ Sm x ∧ ∀ (p : Addr) (us : List V) H', H' p = some (.lst us) → (∀ u ∈ us, Pl K H' u) → us.length = 36 → Keep H H' → Q (.ref p) H'
abbrev NL : List Str := ["word", "some"]
theorem scL : FnScope NL ["word"] (defScope s__law_plain) := ⟨rfl, rfl, rfl, by decide +kernel, rfl, by decide +kernel, by decide +kernel⟩
section
variable {P : Program} {w : World} {K : PySem.W.Frag} {mg : Str → Option Value} {base : Heap} {CX : CXT} {f : Addr} {fd : FuncData}
/-- the list so far -/
def Lst (K : PySem.W.Frag) (H0 : Hp) (x : V) (n : Nat) (σ : L2.St) (H : Hp) : Prop := ∃ (p : Addr) (us : List V), σ = [some x, some (.ref p)] ∧ H p = some (.lst us) ∧ (∀ u ∈ us, Pl K H u) ∧ us.length = n ∧ Keep H0 H
theorem lst_first {H : Hp} {x : V} {n : Nat} {D : Ends} (hs : Sm x) (hn : n ≤ 100) (k : ∀ σ H', Lst K H x n σ H' → D.nx σ H') : tAsg (tLst (tMs K 0 n)) (gName 1) D [some x, none] H := by
  refine ⟨x, rfl, hs, fun us H1 l pl kp => ⟨by rw [l, sizeLine_eq]; omega, fun p hp => k _ _ ⟨p, us, rfl, upd_same, fun u hu => (pl u hu).keep (Keep.upd hp), l, kp.trans (Keep.upd hp)⟩⟩⟩
theorem lst_more {H0 H : Hp} {x : V} {n m : Nat} {σ : L2.St} {Q : VK} (hs : Sm x) (hn : n + m ≤ 100) (h : Lst K H0 x n σ H) (k : ∀ p us H', H' p = some (.lst us) → (∀ u ∈ us, Pl K H' u) → us.length = n + m → Keep H0 H' → Q (.ref p) H') :
    tOp rCat (tVar 1) (tLst (tMs K 0 m)) σ H Q := by
  obtain ⟨p, us, rfl, hp, pl, l, kp⟩ := h
  refine ⟨_, rfl, x, rfl, hs, fun vs H1 l1 pl1 k1 => ⟨by rw [l1, sizeLine_eq]; omega, fun b hb => ?_⟩⟩
  have k2 := k1.trans (Keep.upd (o := .lst vs) hb)
  refine ⟨p, b, us, vs, rfl, rfl, k2 _ _ hp, upd_same, by rw [l, l1, sizeLine_eq]; omega, fun c hc => ?_⟩
  have k3 := k2.trans (Keep.upd (o := .lst (us ++ vs)) hc)
  refine k c _ _ upd_same (fun u hu => ?_) (by rw [List.length_append, l, l1]) (kp.trans k3)
  rcases List.mem_append.mp hu with hu | hu
  · exact (pl u hu).keep k3
  · exact (pl1 u hu).keep ((Keep.upd hb).trans (Keep.upd hc))
theorem ok_plain (F : FnP K "_law_plain" s__law_plain f fd) (k : KF K mg) : FnOk P w K mg base CX 1 f fd ["word"] (spPlain K) := by
  refine F.ok scL (fun vs H Q E h => ?_) (fun cdv A outer s H vs Q E hr h => ?_)
  · obtain ⟨x, rfl, _⟩ := h
    rfl
  · have one : ∀ {X : Cx} {x : Str} {es : List Expr} {p q pos : Pos} {n : Nat}, X.K = K → X.mg = mg → x ∈ Hd.plain → Gl X x → (x == ("__debug__" : Str)) = false → PE X (.Name "word" q) (tVar 0) → PA X es (tMs X.K 0 n) → PA X (.Call (.Name x p) [.Name "word" q] [] pos :: es) (tMs X.K 0 (n + 1)) := fun {X x es p q pos n} e1 e2 hx hg hd hy t => pm (by rw [e1, e2]; exact k) hx hg hd hy t
    refine ⟨_, pss_cons (ps_set (i := 1) scL.nd rfl (Or.inl rfl) (pe_lst (one rfl rfl (by decide) rfl (by decide) (pv 0) (one rfl rfl (by decide) rfl (by decide) (pv 0) (one rfl rfl (by decide) rfl (by decide) (pv 0) (one rfl rfl (by decide) rfl (by decide) (pv 0) (one rfl rfl (by decide) rfl (by decide) (pv 0) (one rfl rfl (by decide) rfl (by decide) (pv 0) pm0))))))))
      (pss_cons (ps_set (i := 1) scL.nd rfl (Or.inl rfl) (pe_op op_cat (pv 1) (pe_lst (one rfl rfl (by decide) rfl (by decide) (pv 0) (one rfl rfl (by decide) rfl (by decide) (pv 0) (one rfl rfl (by decide) rfl (by decide) (pv 0) (one rfl rfl (by decide) rfl (by decide) (pv 0) (one rfl rfl (by decide) rfl (by decide) (pv 0) (one rfl rfl (by decide) rfl (by decide) (pv 0) pm0)))))))))
      (pss_cons (ps_set (i := 1) scL.nd rfl (Or.inl rfl) (pe_op op_cat (pv 1) (pe_lst (one rfl rfl (by decide) rfl (by decide) (pv 0) (one rfl rfl (by decide) rfl (by decide) (pv 0) (one rfl rfl (by decide) rfl (by decide) (pv 0) (one rfl rfl (by decide) rfl (by decide) (pv 0) (one rfl rfl (by decide) rfl (by decide) (pv 0) (one rfl rfl (by decide) rfl (by decide) (pv 0) pm0)))))))))
      (pss_cons (ps_set (i := 1) scL.nd rfl (Or.inl rfl) (pe_op op_cat (pv 1) (pe_lst (one rfl rfl (by decide) rfl (by decide) (pv 0) (one rfl rfl (by decide) rfl (by decide) (pv 0) (one rfl rfl (by decide) rfl (by decide) (pv 0) (one rfl rfl (by decide) rfl (by decide) (pv 0) (one rfl rfl (by decide) rfl (by decide) (pv 0) (one rfl rfl (by decide) rfl (by decide) (pv 0) pm0)))))))))
      (pss_cons (ps_set (i := 1) scL.nd rfl (Or.inl rfl) (pe_op op_cat (pv 1) (pe_lst (one rfl rfl (by decide) rfl (by decide) (pv 0) (one rfl rfl (by decide) rfl (by decide) (pv 0) (one rfl rfl (by decide) rfl (by decide) (pv 0) (one rfl rfl (by decide) rfl (by decide) (pv 0) (one rfl rfl (by decide) rfl (by decide) (pv 0) (one rfl rfl (by decide) rfl (by decide) (pv 0) pm0)))))))))
      (pss_one (ps_ret (pe_op op_cat (pv 1) (pe_lst (one rfl rfl (by decide) rfl (by decide) (pv 0) (one rfl rfl (by decide) rfl (by decide) (pv 0) (one rfl rfl (by decide) rfl (by decide) (pv 0) (one rfl rfl (by decide) rfl (by decide) (pv 0) (one rfl rfl (by decide) rfl (by decide) (pv 0) (one rfl rfl (by decide) rfl (by decide) (pv 0) pm0)))))))))))))), ?_⟩
    obtain ⟨x, rfl, hs, q⟩ := h
    refine lst_first hs (by decide) fun σ H1 h1 => ?_
    refine lst_more hs (by decide) h1 fun p us H2 a1 a2 a3 a4 => ?_
    obtain ⟨p1, us1, rfl, _⟩ := h1
    refine lst_more hs (by decide) ⟨p, us, rfl, a1, a2, a3, a4⟩ fun p us H2 a1 a2 a3 a4 => ?_
    refine lst_more hs (by decide) ⟨p, us, rfl, a1, a2, a3, a4⟩ fun p us H2 a1 a2 a3 a4 => ?_
    refine lst_more hs (by decide) ⟨p, us, rfl, a1, a2, a3, a4⟩ fun p us H2 a1 a2 a3 a4 => ?_
    refine lst_more hs (by decide) ⟨p, us, rfl, a1, a2, a3, a4⟩ fun p us H2 a1 a2 a3 a4 => ?_
    exact q p us H2 a1 a2 a3 a4
end
end Dr

/-! L3: the errors with fields. -/
namespace Dr
open PySem PySem.Spec PyProof.Rows L2 Y Hd Xc
/-- __init__(self, f) -/
def spI (K : PySem.W.Frag) (f : Str) : Sp := fun vs H Q _ => ∃ (a C : Addr) (x : V), vs = [.ref a, x] ∧ OexC K C ∧ PySem.W.findIn K (.ref C) f = some none ∧ H a = some (exo a C none) ∧ Sm x ∧ ∀ dx, H dx = none → dx ≠ a → Q .non (upd (upd H dx (exd dx [(f, x)])) a (exo a C (some dx)))
section
variable {P : Program} {w : World} {K : PySem.W.Frag} {mg : Str → Option Value} {base : Heap} {CX : CXT} {f : Addr} {fd : FuncData}
theorem sc_BadText : FnScope ["self", "at"] ["self", "at"] (defScope i_BadText) := ⟨rfl, rfl, rfl, by decide +kernel, rfl, by decide +kernel, by decide +kernel⟩
theorem ok_BadText (F : FunD K "__init__" "BadText.__init__" (defArgs i_BadText) (defBody i_BadText) (defScope i_BadText) [] [] f fd) (k : KF K mg) : FnOk P w K mg base CX 1 f fd ["self", "at"] (spI K "at") := by
  refine F.ok sc_BadText (fun vs H Q E h => ?_) (fun cdv A outer s H vs Q E hr h => ?_)
  · obtain ⟨a, C, x, rfl, _⟩ := h
    rfl
  · refine ⟨_, pss_cons (ps_expr (pe_dinit rfl (k.gl "ChanceError" List.mem_cons_self) k.di (pa_cons (pv 0) (pa_cons (pe_joined1 (pe_fmtN (pv 1))) pa_nil))) (swaps rfl)) (pss_one (ps_ost (pv 0) (pv 1))), ?_⟩
    obtain ⟨a, C, x, rfl, T, no, ha, hs, q⟩ := h
    refine ⟨_, rfl, _, rfl, ?_⟩
    rcases hs with rfl | ⟨y, rfl, l⟩ | ⟨i, rfl, l⟩
    · exact .inl ⟨rfl, a, C, [.str "None"], rfl, by show 1 ≤ 1000; omega, T, ha, _, rfl, _, rfl, a, C, rfl, T, no, .inl ⟨ha, fun dx h1 h2 => q dx h1 h2⟩⟩
    · exact .inr (.inl ⟨y, rfl, by rw [sizeLine_eq]; omega, a, C, [.str y], rfl, by show 1 ≤ 1000; omega, T, ha, _, rfl, _, rfl, a, C, rfl, T, no, .inl ⟨ha, fun dx h1 h2 => q dx h1 h2⟩⟩)
    · exact .inr (.inr ⟨i, rfl, l, a, C, [.str (toString i)], rfl, by show 1 ≤ 1000; omega, T, ha, _, rfl, _, rfl, a, C, rfl, T, no, .inl ⟨ha, fun dx h1 h2 => q dx h1 h2⟩⟩)
theorem sc_NoName : FnScope ["self", "name"] ["self", "name"] (defScope i_NoName) := ⟨rfl, rfl, rfl, by decide +kernel, rfl, by decide +kernel, by decide +kernel⟩
theorem ok_NoName (F : FunD K "__init__" "NoName.__init__" (defArgs i_NoName) (defBody i_NoName) (defScope i_NoName) [] [] f fd) (k : KF K mg) : FnOk P w K mg base CX 1 f fd ["self", "name"] (spI K "name") := by
  refine F.ok sc_NoName (fun vs H Q E h => ?_) (fun cdv A outer s H vs Q E hr h => ?_)
  · obtain ⟨a, C, x, rfl, _⟩ := h
    rfl
  · refine ⟨_, pss_cons (ps_expr (pe_dinit rfl (k.gl "ChanceError" List.mem_cons_self) k.di (pa_cons (pv 0) (pa_cons (pe_joined1 (pe_fmtN (pv 1))) pa_nil))) (swaps rfl)) (pss_one (ps_ost (pv 0) (pv 1))), ?_⟩
    obtain ⟨a, C, x, rfl, T, no, ha, hs, q⟩ := h
    refine ⟨_, rfl, _, rfl, ?_⟩
    rcases hs with rfl | ⟨y, rfl, l⟩ | ⟨i, rfl, l⟩
    · exact .inl ⟨rfl, a, C, [.str "None"], rfl, by show 1 ≤ 1000; omega, T, ha, _, rfl, _, rfl, a, C, rfl, T, no, .inl ⟨ha, fun dx h1 h2 => q dx h1 h2⟩⟩
    · exact .inr (.inl ⟨y, rfl, by rw [sizeLine_eq]; omega, a, C, [.str y], rfl, by show 1 ≤ 1000; omega, T, ha, _, rfl, _, rfl, a, C, rfl, T, no, .inl ⟨ha, fun dx h1 h2 => q dx h1 h2⟩⟩)
    · exact .inr (.inr ⟨i, rfl, l, a, C, [.str (toString i)], rfl, by show 1 ≤ 1000; omega, T, ha, _, rfl, _, rfl, a, C, rfl, T, no, .inl ⟨ha, fun dx h1 h2 => q dx h1 h2⟩⟩)
theorem sc_Taken : FnScope ["self", "name"] ["self", "name"] (defScope i_Taken) := ⟨rfl, rfl, rfl, by decide +kernel, rfl, by decide +kernel, by decide +kernel⟩
theorem ok_Taken (F : FunD K "__init__" "Taken.__init__" (defArgs i_Taken) (defBody i_Taken) (defScope i_Taken) [] [] f fd) (k : KF K mg) : FnOk P w K mg base CX 1 f fd ["self", "name"] (spI K "name") := by
  refine F.ok sc_Taken (fun vs H Q E h => ?_) (fun cdv A outer s H vs Q E hr h => ?_)
  · obtain ⟨a, C, x, rfl, _⟩ := h
    rfl
  · refine ⟨_, pss_cons (ps_expr (pe_dinit rfl (k.gl "ChanceError" List.mem_cons_self) k.di (pa_cons (pv 0) (pa_cons (pe_joined1 (pe_fmtN (pv 1))) pa_nil))) (swaps rfl)) (pss_one (ps_ost (pv 0) (pv 1))), ?_⟩
    obtain ⟨a, C, x, rfl, T, no, ha, hs, q⟩ := h
    refine ⟨_, rfl, _, rfl, ?_⟩
    rcases hs with rfl | ⟨y, rfl, l⟩ | ⟨i, rfl, l⟩
    · exact .inl ⟨rfl, a, C, [.str "None"], rfl, by show 1 ≤ 1000; omega, T, ha, _, rfl, _, rfl, a, C, rfl, T, no, .inl ⟨ha, fun dx h1 h2 => q dx h1 h2⟩⟩
    · exact .inr (.inl ⟨y, rfl, by rw [sizeLine_eq]; omega, a, C, [.str y], rfl, by show 1 ≤ 1000; omega, T, ha, _, rfl, _, rfl, a, C, rfl, T, no, .inl ⟨ha, fun dx h1 h2 => q dx h1 h2⟩⟩)
    · exact .inr (.inr ⟨i, rfl, l, a, C, [.str (toString i)], rfl, by show 1 ≤ 1000; omega, T, ha, _, rfl, _, rfl, a, C, rfl, T, no, .inl ⟨ha, fun dx h1 h2 => q dx h1 h2⟩⟩)
theorem sc_TooMany : FnScope ["self", "most"] ["self", "most"] (defScope i_TooMany) := ⟨rfl, rfl, rfl, by decide +kernel, rfl, by decide +kernel, by decide +kernel⟩
theorem ok_TooMany (F : FunD K "__init__" "TooMany.__init__" (defArgs i_TooMany) (defBody i_TooMany) (defScope i_TooMany) [] [] f fd) (k : KF K mg) : FnOk P w K mg base CX 1 f fd ["self", "most"] (spI K "most") := by
  refine F.ok sc_TooMany (fun vs H Q E h => ?_) (fun cdv A outer s H vs Q E hr h => ?_)
  · obtain ⟨a, C, x, rfl, _⟩ := h
    rfl
  · refine ⟨_, pss_cons (ps_expr (pe_dinit rfl (k.gl "ChanceError" List.mem_cons_self) k.di (pa_cons (pv 0) (pa_cons (pe_joined1 (pe_fmtN (pv 1))) pa_nil))) (swaps rfl)) (pss_one (ps_ost (pv 0) (pv 1))), ?_⟩
    obtain ⟨a, C, x, rfl, T, no, ha, hs, q⟩ := h
    refine ⟨_, rfl, _, rfl, ?_⟩
    rcases hs with rfl | ⟨y, rfl, l⟩ | ⟨i, rfl, l⟩
    · exact .inl ⟨rfl, a, C, [.str "None"], rfl, by show 1 ≤ 1000; omega, T, ha, _, rfl, _, rfl, a, C, rfl, T, no, .inl ⟨ha, fun dx h1 h2 => q dx h1 h2⟩⟩
    · exact .inr (.inl ⟨y, rfl, by rw [sizeLine_eq]; omega, a, C, [.str y], rfl, by show 1 ≤ 1000; omega, T, ha, _, rfl, _, rfl, a, C, rfl, T, no, .inl ⟨ha, fun dx h1 h2 => q dx h1 h2⟩⟩)
    · exact .inr (.inr ⟨i, rfl, l, a, C, [.str (toString i)], rfl, by show 1 ≤ 1000; omega, T, ha, _, rfl, _, rfl, a, C, rfl, T, no, .inl ⟨ha, fun dx h1 h2 => q dx h1 h2⟩⟩)
theorem sc_Used : FnScope ["self", "name"] ["self", "name"] (defScope i_Used) := ⟨rfl, rfl, rfl, by decide +kernel, rfl, by decide +kernel, by decide +kernel⟩
theorem ok_Used (F : FunD K "__init__" "Used.__init__" (defArgs i_Used) (defBody i_Used) (defScope i_Used) [] [] f fd) (k : KF K mg) : FnOk P w K mg base CX 1 f fd ["self", "name"] (spI K "name") := by
  refine F.ok sc_Used (fun vs H Q E h => ?_) (fun cdv A outer s H vs Q E hr h => ?_)
  · obtain ⟨a, C, x, rfl, _⟩ := h
    rfl
  · refine ⟨_, pss_cons (ps_expr (pe_dinit rfl (k.gl "ChanceError" List.mem_cons_self) k.di (pa_cons (pv 0) (pa_cons (pe_joined1 (pe_fmtN (pv 1))) pa_nil))) (swaps rfl)) (pss_one (ps_ost (pv 0) (pv 1))), ?_⟩
    obtain ⟨a, C, x, rfl, T, no, ha, hs, q⟩ := h
    refine ⟨_, rfl, _, rfl, ?_⟩
    rcases hs with rfl | ⟨y, rfl, l⟩ | ⟨i, rfl, l⟩
    · exact .inl ⟨rfl, a, C, [.str "None"], rfl, by show 1 ≤ 1000; omega, T, ha, _, rfl, _, rfl, a, C, rfl, T, no, .inl ⟨ha, fun dx h1 h2 => q dx h1 h2⟩⟩
    · exact .inr (.inl ⟨y, rfl, by rw [sizeLine_eq]; omega, a, C, [.str y], rfl, by show 1 ≤ 1000; omega, T, ha, _, rfl, _, rfl, a, C, rfl, T, no, .inl ⟨ha, fun dx h1 h2 => q dx h1 h2⟩⟩)
    · exact .inr (.inr ⟨i, rfl, l, a, C, [.str (toString i)], rfl, by show 1 ≤ 1000; omega, T, ha, _, rfl, _, rfl, a, C, rfl, T, no, .inl ⟨ha, fun dx h1 h2 => q dx h1 h2⟩⟩)
end
/-- such a class, as it may be called -/
structure IO (P : Program) (w : World) (K : PySem.W.Frag) (mg : Str → Option Value) (base : Heap) (x f : Str) : Prop where
  ex : ∃ (fd : FuncData) (ps : List Str), FnOk P w K mg base CX0 1 (He.ma K (He.ga K x) "__init__") fd ps (spI K f) ∧ Binds K fd ps [] ∧ ∀ (s : Shared) (u v : Value), BindsTo s fd ⟨[u], [(f, v)]⟩ (ps.zip [u, v])
/-- an error with the field f -/
def FV (H : Hp) (C a : Addr) (f : Str) (v : V) : Prop := ∃ d, H a = some (exo a C (some d)) ∧ H d = some (exd d [(f, v)])
theorem FV.keep {H H' : Hp} {C a : Addr} {f : Str} {v : V} (k : Keep H H') (h : FV H C a f v) : FV H' C a f v := let ⟨d, h1, h2⟩ := h; ⟨d, k _ _ h1, k _ _ h2⟩
theorem FV.xv {H : Hp} {C a : Addr} {f : Str} {v : V} (h : FV H C a f v) : XV H C a := let ⟨d, h1, h2⟩ := h; .inr ⟨d, _, h1, h2⟩
def tMkF (C : Addr) (f : Str) (i : Nat) : TE := fun σ H Q => ∃ v, σ[i]? = some (some v) ∧ Sm v ∧ ∀ a H', FV H' C a f v → Keep H H' → Q (.ref a) H'
theorem fv_made {H : Hp} {a C dx : Addr} {f : Str} {v : V} (ha : H a = none) (hd : upd H a (exo a C none) dx = none) (ne : dx ≠ a) :
    FV (upd (upd (upd H a (exo a C none)) dx (exd dx [(f, v)])) a (exo a C (some dx))) C a f v ∧ Keep H (upd (upd (upd H a (exo a C none)) dx (exd dx [(f, v)])) a (exo a C (some dx))) := by
  have hd2 : H dx = none := by rw [upd_ne ne] at hd; exact hd
  refine ⟨⟨dx, upd_same, ?_⟩, fun b o e => ?_⟩
  · rw [upd_ne ne, upd_same]
  · rw [upd_ne (ne_of_none e ha), upd_ne (ne_of_none e hd2), upd_ne (ne_of_none e ha)]
    exact e
section
variable {X : Cx} {x f : Str} {p q pos kp : Pos} {y : Str} {i : Nat}
theorem pe_mk2 (k : KF X.K X.mg) (hx : (x, f) ∈ withF) (I : IO X.prog X.w X.K X.mg X.base x f) (hr : Room 2 X.A) (hg : Gl X x) (hd : (x == ("__debug__" : Str)) = false) (hy : PE X (.Name y q) (tVar i)) : PE X (.Call (.Name x p) [.Name y q] [] pos) (tMkF (He.ga X.K x) f i) := by
  obtain ⟨fd, ps, G, b, _⟩ := I.ex
  obtain ⟨_, _, T, _, hi, hf, no⟩ := k.wf hx
  refine (pe_val T hi hf G hr b pass0 hg (k.gl x (List.mem_cons_of_mem _ (List.mem_append_right _ (List.mem_map.mpr ⟨_, hx, rfl⟩)))) (pa_cons hy pa_nil) hd).le fun σ H Q h => ?_
  obtain ⟨v, hv, hs, h⟩ := h
  refine ⟨v, hv, by show 1 ≤ 1000; omega, fun a ha => ⟨a, _, v, rfl, T, no, upd_same, hs, fun dx h1 h2 => ⟨rfl, ?_⟩⟩⟩
  obtain ⟨m1, m2⟩ := fv_made (C := He.ga X.K x) (f := f) (v := v) ha h1 h2
  exact h a _ m1 m2
theorem pe_mk2k (k : KF X.K X.mg) (hx : (x, f) ∈ withF) (I : IO X.prog X.w X.K X.mg X.base x f) (hr : Room 2 X.A) (hg : Gl X x) (hd : (x == ("__debug__" : Str)) = false) (hy : PE X (.Name y q) (tVar i))
    (hall : (backToKw pos (keywordEach [⟨some f, .Name y q, kp⟩] X.env)).all (·.1.isSome) = true) (hks : (backToKw pos (keywordEach [⟨some f, .Name y q, kp⟩] X.env)).filterMap (·.1) = [f])
    (hpl : ((backTo pos (starEach [] X.env)).any (·.1) || (backToKw pos (keywordEach [⟨some f, .Name y q, kp⟩] X.env)).any (·.1.isNone)) = false) : PE X (.Call (.Name x p) [] [⟨some f, .Name y q, kp⟩] pos) (tMkF (He.ga X.K x) f i) := by
  obtain ⟨fd, ps, G, _, b⟩ := I.ex
  obtain ⟨_, _, T, _, hi, hf, no⟩ := k.wf hx
  refine (pe_valK T hi hf G hr b pass0 hg (k.gl x (List.mem_cons_of_mem _ (List.mem_append_right _ (List.mem_map.mpr ⟨_, hx, rfl⟩)))) (pk_cons hy pk_nil) hall hks hd hpl).le fun σ H Q h => ?_
  obtain ⟨v, hv, hs, h⟩ := h
  refine ⟨v, hv, v, rfl, fun a ha => ⟨a, _, v, rfl, T, no, upd_same, hs, fun dx h1 h2 => ⟨rfl, ?_⟩⟩⟩
  obtain ⟨m1, m2⟩ := fv_made (C := He.ga X.K x) (f := f) (v := v) ha h1 h2
  exact h a _ m1 m2
theorem mk2_mk {C : Addr} {f : Str} {σ : L2.St} {H : Hp} {Q : VK} (h : tMk C i σ H Q) : tMkF C f i σ H Q := let ⟨v, h1, h2, h3⟩ := h; ⟨v, h1, h2, fun a H' m k => h3 a H' m.xv k⟩
/-! ### False, False, .. -/
def tFs (i n : Nat) : TA := fun σ H Q => ∃ v, σ[i]? = some (some v) ∧ Sm v ∧ ∀ H', Keep H H' → Q (List.replicate n (V.bl false)) H'
theorem pf0 : PA X [] (tFs i 0) := pa_nil.le fun σ H Q ⟨v, h1, h2, h⟩ => h H fun _ _ e => e
theorem pf {e : Expr} {z t : Str} {n : Nat} {es : List Expr} {p q pos : Pos} (hp : (z, t) ∈ pairs) (hX : ∀ {K mg}, KF K mg → XC K (He.ga K z)) (k : KF X.K X.mg) (hi : Gl X "isinstance") (mi : X.mg "isinstance" = none) (he : PE X e (tMk (He.ga X.K z) i)) (ht : Gl X t) (mt : X.mg t = some (.ref (He.ga X.K t))) (hd : (t == ("__debug__" : Str)) = false)
    (hs : starEach [e, .Name t q] X.env = [(false, eval e X.env), (false, eval (.Name t q) X.env)]) (r : PA X es (tFs i n)) : PA X (.Call (.Name "isinstance" p) [e, .Name t q] [] pos :: es) (tFs i (n + 1)) := by
  refine (pa_cons (pe_callB call_isX hi mi (by decide +kernel) (pa_cons he (pa_cons (pe_glob (v := .ref (He.ga X.K t)) ht mt rfl hd) pa_nil rfl) hs) (he := hs) (hpl := by rfl)) r rfl).le fun σ H Q h => ?_
  obtain ⟨v, h1, h2, h⟩ := h
  refine ⟨v, h1, h2, fun a H1 m k1 => ⟨a, _, _, _, false, rfl, m, hX k, .own _, k.pr hp, v, h1, h2, fun H2 k2 => h H2 (k1.trans k2)⟩⟩
end
end Dr

/-! L4: _law_beneath. -/
namespace Dr
open PySem PySem.Spec PyProof.Rows L2 Y Hd Xc
theorem pe_mk2m {X : Cx} {x f : Str} {p q pos : Pos} {y : Str} {i : Nat} (k : KF X.K X.mg) (hx : (x, f) ∈ withF) (I : IO X.prog X.w X.K X.mg X.base x f) (hr : Room 2 X.A) (hg : Gl X x) (hd : (x == ("__debug__" : Str)) = false) (hy : PE X (.Name y q) (tVar i)) : PE X (.Call (.Name x p) [.Name y q] [] pos) (tMk (He.ga X.K x) i) :=
  (pe_mk2 k hx I hr hg hd hy).le fun σ H Q h => mk2_mk h
def spBen : Sp := fun vs H Q _ => ∃ x, vs = [x] ∧ Sm x ∧ ∀ (p : Addr) H', H' p = some (.lst (List.replicate 21 (.bl false))) → Keep H H' → Q (.ref p) H'
theorem scN : FnScope NL ["word"] (defScope s__law_beneath) := ⟨rfl, rfl, rfl, by decide +kernel, rfl, by decide +kernel, by decide +kernel⟩
section
variable {P : Program} {w : World} {K : PySem.W.Frag} {mg : Str → Option Value} {base : Heap} {CX : CXT} {f : Addr} {fd : FuncData}
def LsF (H0 : Hp) (x : V) (n : Nat) (σ : L2.St) (H : Hp) : Prop := ∃ p : Addr, σ = [some x, some (.ref p)] ∧ H p = some (.lst (List.replicate n (.bl false))) ∧ Keep H0 H
theorem lsf_first {H : Hp} {x : V} {n : Nat} {D : Ends} (hs : Sm x) (hn : n ≤ 100) (k : ∀ σ H', LsF H x n σ H' → D.nx σ H') : tAsg (tLst (tFs 0 n)) (gName 1) D [some x, none] H := by
  refine ⟨x, rfl, hs, fun H1 kp => ⟨by rw [List.length_replicate, sizeLine_eq]; omega, fun p hp => k _ _ ⟨p, rfl, upd_same, kp.trans (Keep.upd hp)⟩⟩⟩
theorem lsf_more {H0 H : Hp} {x : V} {n m : Nat} {σ : L2.St} {Q : VK} (hs : Sm x) (hn : n + m ≤ 100) (h : LsF H0 x n σ H) (k : ∀ p H', H' p = some (.lst (List.replicate (n + m) (.bl false))) → Keep H0 H' → Q (.ref p) H') :
    tOp rCat (tVar 1) (tLst (tFs 0 m)) σ H Q := by
  obtain ⟨p, rfl, hp, kp⟩ := h
  refine ⟨_, rfl, x, rfl, hs, fun H1 k1 => ⟨by rw [List.length_replicate, sizeLine_eq]; omega, fun b hb => ?_⟩⟩
  have k2 := k1.trans (Keep.upd (o := .lst (List.replicate m (.bl false))) hb)
  refine ⟨p, b, _, _, rfl, rfl, k2 _ _ hp, upd_same, by rw [List.length_replicate, List.length_replicate, sizeLine_eq]; omega, fun c hc => ?_⟩
  refine k c _ ?_ (kp.trans (k2.trans (Keep.upd hc)))
  rw [upd_same, List.replicate_append_replicate]
theorem ok_ben (F : FnP K "_law_beneath" s__law_beneath f fd) (k : KF K mg) (mi : mg "isinstance" = none) (io : ∀ x f, (x, f) ∈ withF → IO P w K mg base x f) : FnOk P w K mg base CX 3 f fd ["word"] spBen := by
  refine F.ok scN (fun vs H Q E h => ?_) (fun cdv A outer s H vs Q E hr h => ?_)
  · obtain ⟨x, rfl, _⟩ := h
    rfl
  · refine ⟨_, pss_cons (ps_set (i := 1) scN.nd rfl (Or.inl rfl) (pe_lst (pf (z := "BadKinds") (t := "BadKind") (by decide +kernel) (fun k => (k.pl (by decide +kernel)).1) k rfl mi (pe_mk1 k (by decide +kernel) rfl (by decide) (pv 0)) rfl (k.gl _ (by decide +kernel)) (by decide) rfl (pf (z := "BadKind") (t := "BadKinds") (by decide +kernel) (fun k => (k.pl (by decide +kernel)).1) k rfl mi (pe_mk1 k (by decide +kernel) rfl (by decide) (pv 0)) rfl (k.gl _ (by decide +kernel)) (by decide) rfl pf0))))
      (pss_cons (ps_set (i := 1) scN.nd rfl (Or.inl rfl) (pe_op op_cat (pv 1) (pe_lst (pf (z := "BadNames") (t := "BadName") (by decide +kernel) (fun k => (k.pl (by decide +kernel)).1) k rfl mi (pe_mk1 k (by decide +kernel) rfl (by decide) (pv 0)) rfl (k.gl _ (by decide +kernel)) (by decide) rfl (pf (z := "BadName") (t := "BadNames") (by decide +kernel) (fun k => (k.pl (by decide +kernel)).1) k rfl mi (pe_mk1 k (by decide +kernel) rfl (by decide) (pv 0)) rfl (k.gl _ (by decide +kernel)) (by decide) rfl pf0)))))
      (pss_cons (ps_set (i := 1) scN.nd rfl (Or.inl rfl) (pe_op op_cat (pv 1) (pe_lst (pf (z := "BadNumbers") (t := "BadNumber") (by decide +kernel) (fun k => (k.pl (by decide +kernel)).1) k rfl mi (pe_mk1 k (by decide +kernel) rfl (by decide) (pv 0)) rfl (k.gl _ (by decide +kernel)) (by decide) rfl (pf (z := "BadNumber") (t := "BadNumbers") (by decide +kernel) (fun k => (k.pl (by decide +kernel)).1) k rfl mi (pe_mk1 k (by decide +kernel) rfl (by decide) (pv 0)) rfl (k.gl _ (by decide +kernel)) (by decide) rfl pf0)))))
      (pss_cons (ps_set (i := 1) scN.nd rfl (Or.inl rfl) (pe_op op_cat (pv 1) (pe_lst (pf (z := "BadPaths") (t := "BadPath") (by decide +kernel) (fun k => (k.pl (by decide +kernel)).1) k rfl mi (pe_mk1 k (by decide +kernel) rfl (by decide) (pv 0)) rfl (k.gl _ (by decide +kernel)) (by decide) rfl (pf (z := "BadPath") (t := "BadPaths") (by decide +kernel) (fun k => (k.pl (by decide +kernel)).1) k rfl mi (pe_mk1 k (by decide +kernel) rfl (by decide) (pv 0)) rfl (k.gl _ (by decide +kernel)) (by decide) rfl pf0)))))
      (pss_cons (ps_set (i := 1) scN.nd rfl (Or.inl rfl) (pe_op op_cat (pv 1) (pe_lst (pf (z := "BadTables") (t := "BadTable") (by decide +kernel) (fun k => (k.pl (by decide +kernel)).1) k rfl mi (pe_mk1 k (by decide +kernel) rfl (by decide) (pv 0)) rfl (k.gl _ (by decide +kernel)) (by decide) rfl (pf (z := "BadTable") (t := "BadTables") (by decide +kernel) (fun k => (k.pl (by decide +kernel)).1) k rfl mi (pe_mk1 k (by decide +kernel) rfl (by decide) (pv 0)) rfl (k.gl _ (by decide +kernel)) (by decide) rfl pf0)))))
      (pss_cons (ps_set (i := 1) scN.nd rfl (Or.inl rfl) (pe_op op_cat (pv 1) (pe_lst (pf (z := "BadTalks") (t := "BadTalk") (by decide +kernel) (fun k => (k.pl (by decide +kernel)).1) k rfl mi (pe_mk1 k (by decide +kernel) rfl (by decide) (pv 0)) rfl (k.gl _ (by decide +kernel)) (by decide) rfl (pf (z := "BadTalk") (t := "BadTalks") (by decide +kernel) (fun k => (k.pl (by decide +kernel)).1) k rfl mi (pe_mk1 k (by decide +kernel) rfl (by decide) (pv 0)) rfl (k.gl _ (by decide +kernel)) (by decide) rfl pf0)))))
      (pss_cons (ps_set (i := 1) scN.nd rfl (Or.inl rfl) (pe_op op_cat (pv 1) (pe_lst (pf (z := "BadThings") (t := "BadThing") (by decide +kernel) (fun k => (k.pl (by decide +kernel)).1) k rfl mi (pe_mk1 k (by decide +kernel) rfl (by decide) (pv 0)) rfl (k.gl _ (by decide +kernel)) (by decide) rfl (pf (z := "BadThing") (t := "BadThings") (by decide +kernel) (fun k => (k.pl (by decide +kernel)).1) k rfl mi (pe_mk1 k (by decide +kernel) rfl (by decide) (pv 0)) rfl (k.gl _ (by decide +kernel)) (by decide) rfl pf0)))))
      (pss_cons (ps_set (i := 1) scN.nd rfl (Or.inl rfl) (pe_op op_cat (pv 1) (pe_lst (pf (z := "BadWeights") (t := "BadWeight") (by decide +kernel) (fun k => (k.pl (by decide +kernel)).1) k rfl mi (pe_mk1 k (by decide +kernel) rfl (by decide) (pv 0)) rfl (k.gl _ (by decide +kernel)) (by decide) rfl (pf (z := "BadWeight") (t := "BadWeights") (by decide +kernel) (fun k => (k.pl (by decide +kernel)).1) k rfl mi (pe_mk1 k (by decide +kernel) rfl (by decide) (pv 0)) rfl (k.gl _ (by decide +kernel)) (by decide) rfl pf0)))))
      (pss_cons (ps_set (i := 1) scN.nd rfl (Or.inl rfl) (pe_op op_cat (pv 1) (pe_lst (pf (z := "BadProgram") (t := "BadExpression") (by decide +kernel) (fun k => (k.pl (by decide +kernel)).1) k rfl mi (pe_mk1 k (by decide +kernel) rfl (by decide) (pv 0)) rfl (k.gl _ (by decide +kernel)) (by decide) rfl (pf (z := "BadExpression") (t := "BadProgram") (by decide +kernel) (fun k => (k.pl (by decide +kernel)).1) k rfl mi (pe_mk1 k (by decide +kernel) rfl (by decide) (pv 0)) rfl (k.gl _ (by decide +kernel)) (by decide) rfl pf0)))))
      (pss_one (ps_ret (pe_op op_cat (pv 1) (pe_lst (pf (z := "NoName") (t := "BadName") (by decide +kernel) (fun k => (k.wf (p := ("NoName", "name")) (by decide +kernel)).1) k rfl mi (pe_mk2m (f := "name") k (by decide +kernel) (io "NoName" "name" (by decide +kernel)) hr rfl (by decide) (pv 0)) rfl (k.gl _ (by decide +kernel)) (by decide) rfl (pf (z := "Taken") (t := "BadName") (by decide +kernel) (fun k => (k.wf (p := ("Taken", "name")) (by decide +kernel)).1) k rfl mi (pe_mk2m (f := "name") k (by decide +kernel) (io "Taken" "name" (by decide +kernel)) hr rfl (by decide) (pv 0)) rfl (k.gl _ (by decide +kernel)) (by decide) rfl (pf (z := "Used") (t := "Taken") (by decide +kernel) (fun k => (k.wf (p := ("Used", "name")) (by decide +kernel)).1) k rfl mi (pe_mk2m (f := "name") k (by decide +kernel) (io "Used" "name" (by decide +kernel)) hr rfl (by decide) (pv 0)) rfl (k.gl _ (by decide +kernel)) (by decide) rfl pf0))))))))))))))), ?_⟩
    obtain ⟨x, rfl, hs, q⟩ := h
    refine lsf_first hs (by decide) fun σ H1 h1 => ?_
    refine lsf_more hs (by decide) h1 fun p H2 a1 a4 => ?_
    obtain ⟨p1, rfl, _⟩ := h1
    refine lsf_more hs (by decide) ⟨p, rfl, a1, a4⟩ fun p H2 a1 a4 => ?_
    refine lsf_more hs (by decide) ⟨p, rfl, a1, a4⟩ fun p H2 a1 a4 => ?_
    refine lsf_more hs (by decide) ⟨p, rfl, a1, a4⟩ fun p H2 a1 a4 => ?_
    refine lsf_more hs (by decide) ⟨p, rfl, a1, a4⟩ fun p H2 a1 a4 => ?_
    refine lsf_more hs (by decide) ⟨p, rfl, a1, a4⟩ fun p H2 a1 a4 => ?_
    refine lsf_more hs (by decide) ⟨p, rfl, a1, a4⟩ fun p H2 a1 a4 => ?_
    refine lsf_more hs (by decide) ⟨p, rfl, a1, a4⟩ fun p H2 a1 a4 => ?_
    refine lsf_more hs (by decide) ⟨p, rfl, a1, a4⟩ fun p H2 a1 a4 => ?_
    exact q p H2 a1 a4
end
end Dr

/-! L5: the law. -/
namespace Dr
open PySem PySem.Spec PyProof.Rows L2 Y Hd Xc
structure OkV (K : PySem.W.Frag) (x : V) : Prop where
  sm : Sm x
  dp : ∃ d : PyData, (∀ H : Hp, Dp K H x d) ∧ SeqAt.shaped d = true ∧ PyData.eqv d d = true
theorem StaOk.keep {a : StA} {ν : Nat} {H H' : Hp} (k : Keep H H') (h : StaOk a ν H) : StaOk a ν H' := by
  obtain ⟨⟨r, t, e, b⟩, ⟨gs, eg⟩, ⟨cs, ec⟩⟩ := h
  exact ⟨⟨r, t, k _ _ e, b⟩, ⟨gs, k _ _ eg⟩, ⟨cs, k _ _ ec⟩⟩
def spLaw (K : PySem.W.Frag) : Sp := fun vs H Q _ => ∃ (l : Addr) (ns : List Int), vs = [.ref l] ∧ SqL K H l (ns.map V.int) ∧ ns.length ≤ 63 ∧ ∀ H', Q (.bl true) H'
abbrev NW : List Str := ["script", "state", "word", "error", "n"]
theorem scW : FnScope NW ["script"] (defScope s_law) := ⟨rfl, rfl, rfl, by decide +kernel, rfl, by decide +kernel, by decide +kernel⟩
section
variable {P : Program} {w : World} {K : PySem.W.Frag} {mg : Str → Option Value} {base : Heap} {CX : CXT} {f fG fB fD fP fL fN : Addr} {fd fdG fdB fdD fdP fdL fdN : FuncData}
theorem ok_law (F : FnP K "law" s_law f fd) (FG : FnP K "_law_begun" s__law_begun fG fdG) (FB : FnP K "_law_blended" s__law_blended fB fdB) (FD : FnP K "_law_draw" s__law_draw fD fdD) (FP : FnP K "_law_pick" s__law_pick fP fdP) (FL : FnP K "_law_plain" s__law_plain fL fdL) (FN : FnP K "_law_beneath" s__law_beneath fN fdN)
    (gG : mg "_law_begun" = some (.ref fG)) (gB : mg "_law_blended" = some (.ref fB)) (gD : mg "_law_draw" = some (.ref fD)) (gP : mg "_law_pick" = some (.ref fP)) (gL : mg "_law_plain" = some (.ref fL)) (gN : mg "_law_beneath" = some (.ref fN))
    (mA : mg "abs" = none) (mI : mg "int" = none) (mi : mg "isinstance" = none) (ml : mg "len" = none) (mv : mg "ValueError" = none) (k : KF K mg) (io : ∀ x f, (x, f) ∈ withF → IO P w K mg base x f) : FnOk P w K mg base CX 5 f fd ["script"] (spLaw K) := by
  have GG : FnOk P w K mg base CX0 1 fG fdG ["script"] (spBegun K) := ok_begun FG mA
  have GP : FnOk P w K mg base CX0 3 fP fdP ["state", "some"] spPick := ok_pick FP FD FB gD gB mI ml
  have GL : FnOk P w K mg base CX0 1 fL fdL ["word"] (spPlain K) := ok_plain FL k
  have GN : FnOk P w K mg base CX0 3 fN fdN ["word"] spBen := ok_ben FN k mi io
  have bG : Binds K fdG ["script"] [] := FG.bindsN fun _ _ _ _ _ _ us hl => match us, hl with | [_], _ => rfl
  have bP : Binds K fdP ["state", "some"] [] := FP.bindsN fun _ _ _ _ _ _ us hl => match us, hl with | [_, _], _ => rfl
  have bL : Binds K fdL ["word"] [] := FL.bindsN fun _ _ _ _ _ _ us hl => match us, hl with | [_], _ => rfl
  have bN : Binds K fdN ["word"] [] := FN.bindsN fun _ _ _ _ _ _ us hl => match us, hl with | [_], _ => rfl
  refine F.ok scW (fun vs H Q E h => ?_) (fun cdv A outer s H vs Q E hr h => ?_)
  · obtain ⟨l, ns, rfl, _⟩ := h
    rfl
  · have hu64 : (A.deeper (envOfC "law" (defScope s_law) s.heap.objs.size f cdv)).units + 64 < cLine := hr.units
    have r2 : Room 2 (A.deeper (envOfC "law" (defScope s_law) s.heap.objs.size f cdv)) := hr.mono (by omega)
    refine ⟨_, pss_cons (ps_set (i := 1) scW.nd rfl (Or.inl rfl) (pe_call GG (hr.mono (by omega)) rfl gG FG.kp bG .nil pass0 (pa_cons (pv 0) pa_nil)))
      (pss_cons (ps_set (i := 2) scW.nd rfl (Or.inl rfl) (pe_call GP (hr.mono (by omega)) rfl gP FP.kp bP .nil pass0 (pa_cons (pv 1) (pa_cons (pe_lst (pa_cons pe_str (pa_cons pe_str (pa_cons pe_str (pa_cons pe_str pa_nil))))) pa_nil))))
      (pss_cons (ps_for (passes_of rfl) rfl (pi_list (pe_call GL (hr.mono (by omega)) rfl gL FL.kp bL .nil pass0 (pa_cons (pv 2) pa_nil))) (pg_name (i := 3) scW.nd rfl (Or.inl rfl))
        (pss_one (ps_if (PW.pt (pw_or (pt_not (pt_val (pe_callB call_isX rfl mi (by decide +kernel) (pa_cons (pv 3) (pa_cons (pe_bltn (v := .ty "ValueError") rfl mv (by decide +kernel) rfl) pa_nil))) (tests rfl)))
            (pw_or (pt_not (pt_val (pe_callB call_isX rfl mi (by decide +kernel) (pa_cons (pv 3) (pa_cons (pe_glob (v := .ref (He.ga K "ChanceError")) rfl (k.gl _ (by decide +kernel)) rfl) pa_nil))) (tests rfl)))
            (pw_or1 (pt_val (pe_callB call_isX rfl mi (by decide +kernel) (pa_cons (pv 3) (pa_cons (pe_glob (v := .ref (He.ga K "TooMany")) rfl (k.gl _ (by decide +kernel)) rfl) pa_nil))) (tests rfl))))))
          (pss_one (ps_ret pe_bl)) pss_nil)))
      (pss_cons (ps_if (pt_cmpR op_in_seq pe_bl (pe_call GN (hr.mono (by omega)) rfl gN FN.kp bN .nil pass0 (pa_cons (pv 2) pa_nil)) (marks rfl)) (pss_one (ps_ret pe_bl)) pss_nil)
      (pss_cons (ps_set (i := 4) scW.nd rfl (Or.inl rfl) (pe_call GP (hr.mono (by omega)) rfl gP FP.kp bP .nil pass0 (pa_cons (pv 1) (pa_cons (pe_lst (pa_cons pe_int (pa_cons pe_int (pa_cons pe_int (pa_cons pe_int (pa_cons pe_non pa_nil)))))) pa_nil))))
      (pss_cons (ps_if (PW.pt (pw_or (pt_cmpR (op_neD hu64) (Xc.pe_fld (pe_mk2 (f := "at") k (by decide +kernel) (io "BadText" "at" (by decide +kernel)) r2 rfl (by decide) (pv 4))) (pv 4) (nomark _))
            (pw_or (pt_cmpR (op_neD hu64) (Xc.pe_fld (pe_mk2k k (by decide +kernel) (io "TooMany" "most" (by decide +kernel)) r2 rfl (by decide) (pv 4) rfl rfl rfl)) (pv 4) (nomark _))
            (pw_or1 (pt_val (pe_callB call_isX rfl mi (by decide +kernel) (pa_cons (pe_mk2 (f := "most") k (by decide +kernel) (io "TooMany" "most" (by decide +kernel)) r2 rfl (by decide) (pv 4)) (pa_cons (pe_glob (v := .ref (He.ga K "BadText")) rfl (k.gl _ (by decide +kernel)) rfl) pa_nil))) (tests rfl))))))
          (pss_one (ps_ret pe_bl)) pss_nil)
      (pss_cons (ps_for (passes_of rfl) rfl (pi_list (pe_lst (pa_cons (pe_mk2 (f := "name") k (by decide +kernel) (io "NoName" "name" (by decide +kernel)) r2 rfl (by decide) (pv 2)) (pa_cons (pe_mk2k k (by decide +kernel) (io "Taken" "name" (by decide +kernel)) r2 rfl (by decide) (pv 2) rfl rfl rfl)
            (pa_cons (pe_mk2 (f := "name") k (by decide +kernel) (io "Used" "name" (by decide +kernel)) r2 rfl (by decide) (pv 2)) pa_nil))))) (pg_name (i := 3) scW.nd rfl (Or.inl rfl))
        (pss_one (ps_if (PW.pt (pw_or (pt_cmpR (op_neD hu64) (Xc.pe_fld (pv 3)) (pv 2) (nomark _))
            (pw_or (pt_not (pt_val (pe_callB call_isX rfl mi (by decide +kernel) (pa_cons (pv 3) (pa_cons (pe_glob (v := .ref (He.ga K "ChanceError")) rfl (k.gl _ (by decide +kernel)) rfl) pa_nil))) (tests rfl)))
            (pw_or1 (pt_val (pe_callB call_isX rfl mi (by decide +kernel) (pa_cons (pv 3) (pa_cons (pe_glob (v := .ref (He.ga K "TooMany")) rfl (k.gl _ (by decide +kernel)) rfl) pa_nil))) (tests rfl))))))
          (pss_one (ps_ret pe_bl)) pss_nil)))
      (pss_one (ps_ret (pe_and (pe_callB call_isX rfl mi (by decide +kernel) (pa_cons (pe_mk2 (f := "most") k (by decide +kernel) (io "TooMany" "most" (by decide +kernel)) r2 rfl (by decide) (pv 4)) (pa_cons (pe_glob (v := .ref (He.ga K "ChanceError")) rfl (k.gl _ (by decide +kernel)) rfl) pa_nil)))
          (pe_one (pe_callB call_isX rfl mi (by decide +kernel) (pa_cons (pe_mk2k k (by decide +kernel) (io "BadText" "at" (by decide +kernel)) r2 rfl (by decide) (pv 4) rfl rfl rfl) (pa_cons (pe_glob (v := .ref (He.ga K "ChanceError")) rfl (k.gl _ (by decide +kernel)) rfl) pa_nil))))))))))))), ?_⟩
    obtain ⟨l, ns, rfl, hl, hn, q⟩ := h
    refine ⟨_, rfl, l, ns, rfl, hl, hn, fun a H1 st _ _ => ?_⟩
    refine ⟨_, rfl, by rw [sizeLine_eq]; show 4 ≤ _; omega, fun p hp => ?_⟩
    refine ⟨a, 1099511627775, p, _, rfl, ?_, upd_same, ?_, by decide, by decide, fun i x H2 hx c => ?_⟩
    · exact StO.upd (s := some a) (ν := 1099511627776) (fun b e => by cases e; exact st) (StO.nomem (s := some a) (ν := 1099511627776) (fun b e => by cases e; exact st) hp) a rfl
    · exact StO.nomem (s := some a) (ν := 1099511627776) (fun b e => by cases e; exact st) hp
    have okx : OkV K x := by
      match i, hx with
      | 0, hx => cases hx; exact ⟨.inr (.inl ⟨_, rfl, by decide⟩), .str "no", fun _ => .str _, by decide +kernel, by decide +kernel⟩
      | 1, hx => cases hx; exact ⟨.inr (.inl ⟨_, rfl, by decide⟩), .str "why", fun _ => .str _, by decide +kernel, by decide +kernel⟩
      | 2, hx => cases hx; exact ⟨.inr (.inl ⟨_, rfl, by decide⟩), .str "x y", fun _ => .str _, by decide +kernel, by decide +kernel⟩
      | 3, hx => cases hx; exact ⟨.inr (.inl ⟨_, rfl, by decide⟩), .str "", fun _ => .str _, by decide +kernel, by decide +kernel⟩
    refine ⟨_, rfl, x, rfl, okx.sm, fun p3 us H3 hp3 pl len kp3 => ?_⟩
    refine ⟨p3, rfl, ⟨us, .inl (.inl hp3)⟩, ?_⟩
    refine for_it (walk_list (xs := us)) (fun i σ H' => H' = H3 ∧ ∃ er, σ = [some (.ref l), some (.ref a.d), some x, er, none]) ⟨rfl, _, rfl⟩ ?_ ?_ ?_
    · rintro i σ H' _ ⟨rfl, _⟩
      exact .inl (.inl hp3)
    · rintro i u σ H4 H5 hi ⟨rfl, er, rfl⟩ ⟨rfl, hu⟩
      obtain ⟨y, hy, b, rfl, xv⟩ := pl u (List.mem_of_getElem? hu)
      obtain ⟨k1, k2, k3, k4⟩ := k.pl hy
      refine ⟨_, rfl, b, _, _, _, true, rfl, xv, k1, .ty _, of_decide_eq_true k2, true, rfl, ?_⟩
      refine iteB (fun z => nomatch z) (fun _ => ?_)
      refine ⟨_, rfl, b, _, _, _, true, rfl, xv, k1, .own _, of_decide_eq_true k3, true, rfl, ?_⟩
      refine iteB (fun z => nomatch z) (fun _ => ?_)
      refine ⟨_, rfl, b, _, _, _, false, rfl, xv, k1, .own _, of_decide_eq_true k4, false, rfl, ?_⟩
      refine iteB (fun z => nomatch z) (fun _ => ?_)
      exact ⟨rfl, _, rfl⟩
    · rintro σ H' ⟨rfl, er, rfl⟩
      refine ⟨_, rfl, x, rfl, okx.sm, fun pb Hb hpb kpb => ?_⟩
      refine ⟨pb, _, rfl, .inl (.inl (.inl hpb)), rfl, rfl, false, rfl, ?_⟩
      refine iteB (fun z => nomatch z) (fun _ => ?_)
      refine ⟨_, rfl, by rw [sizeLine_eq]; show 5 ≤ _; omega, fun p5 hp5 => ?_⟩
      have stb : StaOk a 1099511627775 Hb := StaOk.keep (kp3.trans kpb) c.st
      refine ⟨a, 1099511627774, p5, _, rfl, ?_, upd_same, ?_, by decide, by decide, fun i2 n H6 hx2 c2 => ?_⟩
      · exact StO.upd (s := some a) (ν := 1099511627775) (fun b e => by cases e; exact stb) (StO.nomem (s := some a) (ν := 1099511627775) (fun b e => by cases e; exact stb) hp5) a rfl
      · exact StO.nomem (s := some a) (ν := 1099511627775) (fun b e => by cases e; exact stb) hp5
      have okn : OkV K n := by
        match i2, hx2 with
        | 0, hx => cases hx; exact ⟨.inr (.inr ⟨_, rfl, by decide⟩), .int 0, fun _ => .int _, by decide +kernel, by decide +kernel⟩
        | 1, hx => cases hx; exact ⟨.inr (.inr ⟨_, rfl, by decide⟩), .int 1, fun _ => .int _, by decide +kernel, by decide +kernel⟩
        | 2, hx => cases hx; exact ⟨.inr (.inr ⟨_, rfl, by decide⟩), .int 7, fun _ => .int _, by decide +kernel, by decide +kernel⟩
        | 3, hx => cases hx; exact ⟨.inr (.inr ⟨_, rfl, by decide +kernel⟩), .int 4000, fun _ => .int _, by decide +kernel, by decide +kernel⟩
        | 4, hx => cases hx; exact ⟨.inl rfl, .none, fun _ => .non, by decide +kernel, by decide +kernel⟩
      obtain ⟨dn, pn, sn, en⟩ := okn.dp
      obtain ⟨dx, px, sx, ex⟩ := okx.dp
      obtain ⟨t1, t2, _, t4, _, _, t7⟩ := k.wf (p := ("BadText", "at")) (by decide +kernel)
      obtain ⟨m1, m2, _, m4, _, _, m7⟩ := k.wf (p := ("TooMany", "most")) (by decide +kernel)
      refine ⟨n, rfl, okn.sm, fun b7 H7 f7 k7 => ?_⟩
      obtain ⟨d7, e1, e2⟩ := f7
      refine ⟨b7, _, d7, _, n, rfl, e1, e2, rfl, t2, t7, _, rfl, dn, dn, pn _, pn _, sn, sn, false, by rw [en] <;> rfl, ?_⟩
      refine iteB (fun z => nomatch z) (fun _ => ?_)
      refine ⟨n, rfl, okn.sm, fun b8 H8 f8 k8 => ?_⟩
      obtain ⟨d8, e3, e4⟩ := f8
      refine ⟨b8, _, d8, _, n, rfl, e3, e4, rfl, m2, m7, _, rfl, dn, dn, pn _, pn _, sn, sn, false, by rw [en] <;> rfl, ?_⟩
      refine iteB (fun z => nomatch z) (fun _ => ?_)
      refine ⟨n, rfl, okn.sm, fun b9 H9 f9 k9 => ⟨b9, _, _, _, false, rfl, f9.xv, m1, .own _, k.pr (p := ("TooMany", "BadText")) (by decide +kernel), false, rfl, ?_⟩⟩
      refine iteB (fun z => nomatch z) (fun _ => ?_)
      refine ⟨x, rfl, okx.sm, fun b1 G1 f1 j1 => ⟨x, rfl, okx.sm, fun b2 G2 f2 j2 => ⟨x, rfl, okx.sm, fun b3 G3 f3 j3 => ⟨by rw [sizeLine_eq]; show 3 ≤ _; omega, fun p hp => ⟨p, rfl, ⟨_, .inl (.inl upd_same)⟩, ?_⟩⟩⟩⟩⟩
      have it : ∀ (i : Nat) (u : V), [V.ref b1, .ref b2, .ref b3][i]? = some u → ∃ y : Str, (y, ("name" : Str)) ∈ withF ∧ (y, ("TooMany" : Str)) ∈ pairs ∧ ∃ b, u = .ref b ∧ FV (upd G3 p (.lst [.ref b1, .ref b2, .ref b3])) (He.ga K y) b "name" x := by
        intro i u h
        match i, h with
        | 0, h => cases h; exact ⟨"NoName", by decide +kernel, by decide +kernel, b1, rfl, f1.keep ((j2.trans j3).trans (Keep.upd hp))⟩
        | 1, h => cases h; exact ⟨"Taken", by decide +kernel, by decide +kernel, b2, rfl, f2.keep (j3.trans (Keep.upd hp))⟩
        | 2, h => cases h; exact ⟨"Used", by decide +kernel, by decide +kernel, b3, rfl, f3.keep (Keep.upd hp)⟩
      refine for_it (walk_list (xs := [.ref b1, .ref b2, .ref b3])) (fun i σ H' => H' = upd G3 p (.lst [.ref b1, .ref b2, .ref b3]) ∧ ∃ er, σ = [some (.ref l), some (.ref a.d), some x, er, some n]) ⟨rfl, _, rfl⟩ ?_ ?_ ?_
      · rintro i σ H' _ ⟨rfl, _⟩
        exact .inl (.inl upd_same)
      · rintro i u σ H4 H5 hi ⟨rfl, er, rfl⟩ ⟨rfl, hu⟩
        obtain ⟨y, y1, y2, b, rfl, fv⟩ := it i u hu
        obtain ⟨w1, w2, _, w4, _, _, w7⟩ := k.wf (p := (y, "name")) y1
        have xv := fv.xv
        obtain ⟨d, e5, e6⟩ := fv
        refine ⟨_, rfl, b, _, d, _, x, rfl, e5, e6, rfl, w2, w7, _, rfl, dx, dx, px _, px _, sx, sx, false, by rw [ex] <;> rfl, ?_⟩
        refine iteB (fun z => nomatch z) (fun _ => ?_)
        refine ⟨_, rfl, b, _, _, _, true, rfl, xv, w1, .own _, of_decide_eq_true w4, true, rfl, ?_⟩
        refine iteB (fun z => nomatch z) (fun _ => ?_)
        refine ⟨_, rfl, b, _, _, _, false, rfl, xv, w1, .own _, k.pr (p := (y, "TooMany")) y2, false, rfl, ?_⟩
        refine iteB (fun z => nomatch z) (fun _ => ?_)
        exact ⟨rfl, _, rfl⟩
      · rintro σ H' ⟨rfl, er, rfl⟩
        refine ⟨n, rfl, okn.sm, fun b8 H8 f8 k8 => ⟨b8, _, _, _, true, rfl, f8.xv, m1, .own _, of_decide_eq_true m4, true, rfl, ?_⟩⟩
        refine iteB (fun _ => ?_) (fun z => nomatch z)
        exact ⟨n, rfl, okn.sm, fun b9 H9 f9 k9 => ⟨b9, _, _, _, true, rfl, f9.xv, t1, .own _, of_decide_eq_true t4, q _⟩⟩
end
end Dr

/-! L6: the head and the law. -/
namespace Dr
open PySem PySem.Spec PyProof.Rows L2 Y Hd Xc
section
variable {P : Program} {w : World} {K : PySem.W.Frag} {mg : Str → Option Value} {base : Heap}
theorem kwB {x qual f : Str} {params : Arguments} {body : List Stmt} {scope : Scope} {g : Addr} {fd : FuncData} {ps : List Str} (F : FunD K x qual params body scope [] [] g fd)
    (h : ∀ (kV doc pm : Value) (an : Option Addr) (cdv ct u v : Value), bindArgs (PySem.W.fnOf x qual params body scope .none kV doc pm an cdv ct) ⟨[u], [(f, v)]⟩ = pure (ps.zip [u, v])) (s : Shared) (u v : Value) : BindsTo s fd ⟨[u], [(f, v)]⟩ (ps.zip [u, v]) := by
  obtain ⟨oc, od, dV, kV, doc, pm, an, cdv, ct, osl, rfl, _, _, hD, _⟩ := F.ex
  rcases hD with ⟨_, rfl⟩ | ⟨e, _⟩
  · exact .of_eq (h kV doc pm an cdv ct u v)
  · exact absurd rfl e
theorem facts {h : Heap} {fa : Addr} (X : K.In h) (G : h.Ns mainGlobals mg) (c : He.SaysD Hd.fa Hd.fn K) (ce : Hd.ex K = true) (hf : mg ("law" : Str) = some (.ref fa)) :
    ∃ fd : FuncData, (∀ (s : Shared) (v : Value), BindsTo s fd ⟨[v], []⟩ [("script", v)]) ∧ ∀ base : Heap, FnOk P w K mg base L2.CX0 5 fa fd ["script"] (spLaw K) := by
  have ok : ∀ f ∈ Hd.fa, f.ok K = true := fun f hf => c.facts hf
  have gl : ∀ x ∈ defsN ++ (("ChanceError" : Str) :: (Hd.plain ++ withF.map (·.1))), mg x = some (.ref (He.ga K x)) := fun x hx => He.glo_ok X G (ok _ (List.mem_append_left _ (List.mem_map.mpr ⟨x, hx, rfl⟩)))
  have fr : ∀ x ∈ freeN, mg x = none := fun x hx => He.free_ok X G (ok _ (List.mem_append_right _ (List.mem_append_left _ (List.mem_map.mpr ⟨x, hx, rfl⟩))))
  have k : KF K mg := ⟨fun x hx => gl x (List.mem_append_right _ hx), fun x hx => by
    obtain ⟨a, b, _⟩ := He.exc_ok (ok _ (List.mem_append_right _ (List.mem_append_right _ (List.mem_map.mpr ⟨x, hx, rfl⟩))))
    exact ⟨a, b⟩, ce⟩
  have gd : ∀ x ∈ defsN, mg x = some (.ref (He.ga K x)) := fun x hx => gl x (List.mem_append_left _ hx)
  obtain ⟨fG, FG⟩ := c.def_ 0 (d := d__law_begun) rfl
  obtain ⟨fB, FB⟩ := c.def_ 1 (d := d__law_blended) rfl
  obtain ⟨fD, FD⟩ := c.def_ 2 (d := d__law_draw) rfl
  obtain ⟨fP, FP⟩ := c.def_ 3 (d := d__law_pick) rfl
  obtain ⟨fL, FL⟩ := c.def_ 4 (d := d__law_plain) rfl
  obtain ⟨fN, FN⟩ := c.def_ 5 (d := d__law_beneath) rfl
  obtain ⟨fW, FW⟩ := c.def_ 6 (d := d_law) rfl
  obtain ⟨i1, I1⟩ := c.def_ 7 (d := di_BadText) rfl
  obtain ⟨i2, I2⟩ := c.def_ 8 (d := di_NoName) rfl
  obtain ⟨i3, I3⟩ := c.def_ 9 (d := di_Taken) rfl
  obtain ⟨i4, I4⟩ := c.def_ 10 (d := di_TooMany) rfl
  obtain ⟨i5, I5⟩ := c.def_ 11 (d := di_Used) rfl
  have e := hf.symm.trans (gd "law" (by decide +kernel))
  cases e
  have b := FunD.bindsA (ps := ["script"]) FW fun _ _ _ _ _ _ us hl => match us, hl with | [_], _ => rfl
  refine ⟨fW, fun s v => b s [v] rfl, fun base => ?_⟩
  have io : ∀ x f, (x, f) ∈ withF → IO P w K mg base x f := by
    intro x f hx
    have hx' : (x, f) ∈ [(("BadText" : Str), ("at" : Str)), ("NoName", "name"), ("Taken", "name"), ("TooMany", "most"), ("Used", "name")] := hx
    simp only [List.mem_cons, List.not_mem_nil, or_false, Prod.mk.injEq] at hx'
    rcases hx' with ⟨rfl, rfl⟩ | ⟨rfl, rfl⟩ | ⟨rfl, rfl⟩ | ⟨rfl, rfl⟩ | ⟨rfl, rfl⟩
    · exact ⟨i1, ["self", "at"], ok_BadText I1 k, FunD.bindsN I1 fun _ _ _ _ _ _ us hl => match us, hl with | [_, _], _ => rfl, kwB I1 fun _ _ _ _ _ _ _ _ => rfl⟩
    · exact ⟨i2, ["self", "name"], ok_NoName I2 k, FunD.bindsN I2 fun _ _ _ _ _ _ us hl => match us, hl with | [_, _], _ => rfl, kwB I2 fun _ _ _ _ _ _ _ _ => rfl⟩
    · exact ⟨i3, ["self", "name"], ok_Taken I3 k, FunD.bindsN I3 fun _ _ _ _ _ _ us hl => match us, hl with | [_, _], _ => rfl, kwB I3 fun _ _ _ _ _ _ _ _ => rfl⟩
    · exact ⟨i4, ["self", "most"], ok_TooMany I4 k, FunD.bindsN I4 fun _ _ _ _ _ _ us hl => match us, hl with | [_, _], _ => rfl, kwB I4 fun _ _ _ _ _ _ _ _ => rfl⟩
    · exact ⟨i5, ["self", "name"], ok_Used I5 k, FunD.bindsN I5 fun _ _ _ _ _ _ us hl => match us, hl with | [_, _], _ => rfl, kwB I5 fun _ _ _ _ _ _ _ _ => rfl⟩
  exact ok_law FW FG FB FD FP FL FN (gd _ (by decide +kernel)) (gd _ (by decide +kernel)) (gd _ (by decide +kernel)) (gd _ (by decide +kernel)) (gd _ (by decide +kernel)) (gd _ (by decide +kernel)) (fr _ (by decide +kernel)) (fr _ (by decide +kernel)) (fr _ (by decide +kernel)) (fr _ (by decide +kernel)) (fr _ (by decide +kernel)) k io
end
end Dr
open PySem PySem.W PySem.Calls PyProof.Rows
theorem PySem.Challenge.cw_chancepoints_k78_errors_made_holds : PySem.Challenge.rw_chancepoints_k78_errors_made.Holds := by
  w_on; o_law
  refine HandSHeadRun.head_any (r := OpenLaw.row PySem.Challenge.rw_chancepoints_k78_errors_made) (q := view (OpenLaw.row PySem.Challenge.rw_chancepoints_k78_errors_made).prog [50]) (H := Hd.hk) (ob := Hd.ob) (M := 12000) (loose := Hd.names) (d := HandSHeadRun.topDef (OpenLaw.row PySem.Challenge.rw_chancepoints_k78_errors_made).prog 50) (kwd := []) Hd.ob_eq
    (by kernel_rfl) (fun s => by kernel_rfl) Hd.run (by kernel_rfl) (by kernel_rfl) (by kernel_rfl) (by rfl) (by first | assumption | decide +kernel) (by decide +kernel) ⟨rfl, rfl, rfl, rfl, rfl, by decide +kernel⟩ ?hw ?hc
  case hw => w_witness2
  case hc =>
    refine L2.walk_ofE (l := PySem.Challenge.rw_chancepoints_k78_errors_made) (n := 63) (k := 5) (x := "script") (CX := L2.CX0) rfl (by decide) (by kernel_rfl) ⟨rfl, by decide, by decide⟩ ?F (fun _ _ _ _ z => z)
    intro w mg fa h Y G hmg0
    obtain ⟨K, KX, c, ce⟩ := Y
    have hmg : mg ("law" : PySem.Str) = some (.ref fa) := by
      have e : (HandSHeadRun.topDef (OpenLaw.row PySem.Challenge.rw_chancepoints_k78_errors_made).prog 50).name = ("law" : PySem.Str) := by kernel_rfl
      rw [← e]
      exact hmg0
    obtain ⟨fd, hb, hF⟩ := Dr.facts (P := (PySem.Challenge.rw_chancepoints_k78_errors_made).prog) (w := w) KX G c ce hmg
    exact ⟨K, fd, Dr.spLaw K, KX, hb, fun H a ns hl _ hS => ⟨a, ns, rfl, hS, hl, fun _ => rfl⟩, fun base _ _ => hF base⟩
