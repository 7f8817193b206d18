import PyProof.Rows.All
import Wide.All
import OpenK.AllK
import Wide.FinOn
import KE.KExcMore
import HandS.ForMost
import HandS.ForExc
import HandS.ExcInit
import HandS.ExcField
import HandS.ExcIs
import HandS.IsInst
import HandS.ExcValue
import HandS.ClsMeth
import HandS.RaiseMore
import HandS.DictComp
import HandS.Walk
import PySem.Challenge.RW_planfirst_k06_errors_by_hand
set_option Elab.async false
set_option linter.all false
set_option maxRecDepth 100000
set_option maxHeartbeats 4000000
/-! Rules of my own for the hand layer: exceptions of own classes as values that are kept. -/
namespace XR
open PySem PySem.Spec PyProof.Rows L2
section
variable {X : Cx} {pins : List (Addr × Obj)} {σ : L2.St} {H : Hp} {s : Shared}

/-! ### PlanError.__init__(self, ..): the base class is an own class -/
structure PIni (K : PySem.W.Frag) (mg : Str → Option Value) (x : Str) (B : Addr) (mc : Value) : Prop where
  gB : mg x = some (.ref B)
  cr : ClX.CRead K B mc
  vB : PySem.W.findCls K (.ref B) mc "__init__" = some (.val (.builtin "ValueError.__init__"))
theorem pe_pinit {e : Expr} {es : List Expr} {ta : TA} {x : Str} {B : Addr} {mc : Value} {p1 p2 pos : Pos} {pl : Sem Bool} (P : PIni X.K X.mg x B mc) (hg : Gl X x) (ha : PA X (e :: es) ta)
    (hc : eval (.Call (.Attribute (.Name x p1) "__init__" p2) (e :: es) [] pos) X.env = (do
      let o ← eval (.Name x p1) X.env
      standAt p2.atName
      let (f, first) ← holding [o] (getMethod o "__init__" pl)
      callWith pos f first (backTo pos (starEach (e :: es) X.env)) (backToKw pos (keywordEach [] X.env))) := by rfl)
    (he : starEach (e :: es) X.env = (false, eval e X.env) :: starEach es X.env := by rfl) (hpl : (backTo pos (starEach es X.env)).any (·.1) = false := by rfl) (hdb : (x == ("__debug__" : Str)) = false := by decide) :
    PE X (.Call (.Attribute (.Name x p1) "__init__" p2) (e :: es) [] pos) (tVeI X.K ta) := by
  refine ⟨fun pins s σ H Q I h => ?_⟩
  refine PySem.W.methodCall_KW (ld_glob I hg P.gB ?_ hdb) hc
  refine PySem.W.method_cls I.kIn P.cr.ga (PySem.W.cls_value I.kIn P.cr.rd P.vB (by decide +kernel) ?_)
  show wpAny _ _ (callWith pos (Value.builtin "ValueError.__init__") [] (backTo pos (starEach (e :: es) X.env)) []) _ _ _
  refine PyProof.Rows.callWith_method1 (thn (ha.run pos pins _ σ H _ (I.tok _) h) fun us s1 hh => ?_) he hpl
  obtain ⟨vs, H1, I1, r1, a, C, ws, ev, hl, T, ea, q⟩ := hh
  subst ev
  cases r1 with
  | @cons _ u0 _ ur ra rr =>
    obtain rfl : u0 = Value.ref a := ra
    refine oinit_ok T I1 ea ?_ fun s' J => ⟨.non, H1, J, rfl, q⟩
    rw [← Paired.length rr, sizeLine_eq]
    omega

/-! ### C(e, ..) as a value -/
@[irreducible] def tNewO (C : Addr) (sp : Sp) (ta : TA) : TE := fun σ H Q => ta σ H fun vs H1 => vs.length ≤ 1000 ∧ ∀ a, H1 a = none →
  sp (.ref a :: vs) (upd H1 a (exo a C none)) (fun v H2 => v = .non ∧ Q (.ref a) H2) (fun _ _ _ => False)
theorem pe_newO {CX : CXT} {x : Str} {C fI : Addr} {k : Nat} {fd : FuncData} {ps : List Str} {sp : Sp} {e : Expr} {es : List Expr} {ta : TA} {p pos : Pos} (T : OexC X.K C)
    (iC : PySem.W.findIn X.K (.ref C) "__init__" = some (some (.ref fI))) (tI : PySem.W.typeIn X.K (.ref fI) = some (.type "function"))
    (F1 : FnOk X.prog X.w X.K X.mg X.base CX k fI fd ps sp) (hr : Room (k + 1) X.A) (hb : Binds X.K fd ps []) (hx : Passes CX X (fun _ _ _ => False)) (hg : Gl X x) (hm : X.mg x = some (.ref C)) (ha : PA X (e :: es) ta)
    (hdb : (x == ("__debug__" : Str)) = false := by decide) (he : starEach (e :: es) X.env = (false, eval e X.env) :: starEach es X.env := by rfl) (hpl : (backTo pos (starEach es X.env)).any (·.1) = false := by rfl) :
    PE X (.Call (.Name x p) (e :: es) [] pos) (tNewO C sp ta) := by
  refine ⟨fun pins s σ H Q I h => ?_⟩
  unfold tNewO at h
  obtain ⟨nm, q, N, bs, bm, sn, sub, ab, col, dd, k0, k1, k2, k3, k5, hC, hbm⟩ := T.cls
  refine wpAny_Call_Name_kw (ld_glob I hg hm ?_ hdb)
  refine PySem.W.callWith_K (h₀ := X.base) I.ok.mod.kin T.kC (thn (ha.run pos pins s σ H _ I h) fun us s1 hh => ?_) he hpl
  obtain ⟨vs, H1, I1, r1, hz, q1⟩ := hh
  refine ⟨I1.kIn, ?_⟩
  show wpAny _ _ (call (.ref C) us) _ _ _
  obtain ⟨hp, g, dr, tk, os⟩ := s1
  have le1 : hp.objs.size ≤ hp.objs.size + 1 := Nat.le_succ _
  have hq := q1 (hp.objs.size + 1) (I1.hok.fresh le1)
  have keep : ∀ b o, hp.get? b = some o → ((hp.push (PySem.W.kdv_tup us)).push (PySem.HandSPX.excO C hp.objs.size)).get? b = some o := fun b o z => Heap.get?_push_of_some _ (Heap.get?_push_of_some _ z)
  have at1 : ((hp.push (PySem.W.kdv_tup us)).push (PySem.HandSPX.excO C hp.objs.size)).get? (hp.objs.size + 1) = some (PySem.HandSPX.excO C hp.objs.size) := by heap_get
  have I2 : Inv X pins σ (upd H1 (hp.objs.size + 1) (exo (hp.objs.size + 1) C none)) ⟨(hp.push (PySem.W.kdv_tup us)).push (PySem.HandSPX.excO C hp.objs.size), g, dr, tk, os⟩ :=
    I1.laid (t' := tk) (a := hp.objs.size + 1) (o := exo (hp.objs.size + 1) C none) (h' := (hp.push (PySem.W.kdv_tup us)).push (PySem.HandSPX.excO C hp.objs.size)) keep le1 (exo_ok at1)
  have r2 : Vals (V.ref (hp.objs.size + 1) :: vs) (Value.ref (hp.objs.size + 1) :: us) := .cons rfl r1
  have hl : (Value.ref (hp.objs.size + 1) :: us ++ []).length = ps.length := by
    have z := r2.length
    rw [F1.len _ _ _ _ hq] at z
    simpa using z.symm
  have hus : us.length ≤ sizeLine := by
    rw [← Paired.length r1, sizeLine_eq]
    omega
  have hbb := hb _ (Value.ref (hp.objs.size + 1) :: us) I2.kIn hl
  rw [List.append_nil] at hbb
  refine wpAny_call (PySem.HandSPX.call_own F.excBase_ValueError (fun Y => PySem.HandSPX.refsVE_contains Y bm hbm) (I1.kIn _ _ hC) (PySem.W.looks_findIn I1.kIn iC) (fun self => PySem.W.bind_fn I1.kIn self tI) hus
    (codeAny_mono (F1.run _ X.stack _ _ ⟨Value.ref (hp.objs.size + 1) :: us, []⟩ (Value.ref (hp.objs.size + 1) :: us) _ _ (fun _ _ _ => False) (hr.make C us []) (I2.env0.make C us []) hbb r2 hq) fun r s' z => ?_))
  cases r with
  | error er => exact hx pins σ _ _ er s' I2 z
  | ok fl =>
    cases fl with
    | ret u =>
      obtain ⟨v, H2, os2, bare2, un2, hok2, rv, ev, q2⟩ := z
      subst ev
      exact ⟨rv, .ref (hp.objs.size + 1), H2, I2.call' (ch := []) os2 un2 hok2 bare2 (fun b z => absurd z (by simp)), rfl, q2⟩
    | next => exact False.elim z
    | brk => exact False.elim z
    | cont => exact False.elim z

/-! ### e.f, e such a value -/
@[irreducible] def tXget (K : PySem.W.Frag) (f : Str) (te : TE) : TE := fun σ H Q => te σ H fun x H1 => ∃ (a C dx : Addr) (fs : List (Str × V)) (v : V), x = .ref a ∧ XfC K C ∧ PySem.W.findIn K (.ref C) f = some none ∧
  H1 a = some (exo a C (some dx)) ∧ H1 dx = some (exd dx fs) ∧ fs.lookup f = some v ∧ Q v H1
theorem exo_inst {a C dx : Addr} {fs : List (Str × V)} (I : Inv X pins σ H s) (ea : H a = some (exo a C (some dx))) (ed : H dx = some (exd dx fs)) :
    ∃ (t1 : Addr) (od : Obj) (mA : Str → Option Value), PySem.W.InstAt s.heap a { cls := .ref C, dict := some dx, data := .fields #[.ref t1, .none, .none, .none, .bool false, .none] } C (some od) ∧ (∀ f, RelO (fs.lookup f) (mA f)) ∧ ∀ f, PySem.W.lookIn f od = some (mA f) := by
  obtain ⟨t1, ho⟩ := exo_at I.hok ea
  obtain ⟨mA, hns, rel⟩ := exd_at I.hok ed
  obtain ⟨od, hod, hl⟩ := lookIn_ns hns
  exact ⟨t1, od, mA, ⟨ho, rfl, rfl, hod⟩, rel, hl⟩
theorem pe_xget {e : Expr} {te : TE} {f : Str} {pos : Pos} (he : PE X e te) (hb : attributeBase e f X.env (eval e X.env) = eval e X.env := by rfl) : PE X (.Attribute e f pos) (tXget X.K f te) := by
  refine ⟨fun pins s σ H Q I h => ?_⟩
  unfold tXget at h
  refine attr_of hb (thn (he.run pins s σ H _ I h) fun u s1 hh => ?_)
  obtain ⟨x, H1, I1, rx, a, C, dx, fs, v, ex, T, hno, ea, ed, l, q⟩ := hh
  subst ex
  obtain rfl : u = Value.ref a := rx
  obtain ⟨t1, od, mA, J, rel, hl⟩ := exo_inst I1 ea ed
  obtain ⟨u, hu, ru⟩ := RelO.some_of (v := v) (o := mA f) (by rw [← l]; exact rel f)
  exact HandSPX.exc_get I1.kIn J T.ga T.gg T.exC (PySem.W.findObj_own T.hdC hno rfl (by rw [hl, hu])) (handed_of ru) ⟨v, H1, I1.tok _, ru, q⟩
end
end XR

namespace PySem.W
open PySem PySem.Spec PySem.Calls PyProof.Rows
section
variable {prog : Program} {w : World} {A : Around} {E : Value → Shared → Prop} {s : Shared} {K : Frag} {x D : Addr} {ox : Obj} {od : Option Obj}
theorem xr_find {name : Str} {a g : Value} (hc : (clsIn K D).isSome = true) (ha : findIn K (.ref D) name = some (some a)) (hg : specialIn K a "__get__" = some (some g)) (ht : takesIn K a = some true) : findObj K D od name = some (.bind g a) := by
  obtain ⟨cd, hc⟩ := Option.isSome_iff_exists.mp hc
  simp [findObj, hc, ha, hg, ht]
/-- x.__class__ of an exception with or without a dict -/
theorem xr_class (C : L2.ExcC K D) {Q : Option Value → Shared → Prop} (X : K.In s.heap) (I : InstAt s.heap x ox D od) (h : Q (some (.ref D)) { s with toks := s.toks + 1 }) : wpAny (model prog w) A (getAttr? (.ref x) "__class__") Q E s := by
  have hf : findObj K D od "__class__" = some (.bind (.builtin "getset_descriptor.__get__") (.builtin "object.__class__")) := by
    obtain ⟨cd, hc, _⟩ := any_some C.hd
    exact xr_find (by rw [hc]; rfl) C.ha C.hn C.ht
  obtain ⟨hp, g, d, t, os⟩ := s
  have L0 := I.type (M := model prog w)
  have L1 := looks_findIn (M := model prog w) X C.hg
  have L2 := looks_findIn (M := model prog w) X C.hk
  have L3 := looks_find (M := model prog w) X I hf
  have sub : Looks (model prog w) hp (isInstance (.ref x) (.type "BaseException")) true := L0.andThen (looks_subIn X C.hs)
  have n2 : (Value.builtin "BaseException.__getattribute__" == Value.builtin "object.__getattribute__") = false := by decide +kernel
  have n1 : (onTheHeap (Value.ref D) && Value.builtin "BaseException.__getattribute__" == Value.builtin "object.__getattribute__") = false := by rw [n2]; rfl
  unfold getAttr? getAttrBy? getAttrBy
  refine wpAny_bind (wpAny_mkText (wpAny_bind (wpAny_attempt (wpAny_holding (wpAny_bind (L0.at (wpAny_bind (L1.at ?_))))))))
  show wpAny _ _ (if (onTheHeap (Value.ref D) && Value.builtin "BaseException.__getattribute__" == Value.builtin "object.__getattribute__") = true then _ else _) _ _ _
  rw [n1, if_neg Bool.false_ne_true]
  unfold getAttrByItsOwn hookBefore
  refine wpAny_bind ?_
  rw [if_pos (show onTheHeap (Value.ref D) = true from rfl)]
  refine L2.at ?_
  refine wpAny_bind (wpAny_attempt (wpAny_holding ?_))
  unfold callGetattribute
  rw [show (false && onTheHeap (Value.builtin "BaseException.__getattribute__")) = false from rfl, if_neg Bool.false_ne_true]
  unfold boundAndCalled
  rw [PySem.F.excAttr_ValueError.ga.bind (.ref x)]
  refine wpAny_bind (wpAny_pure ?_)
  show wpAny _ _ (call (.builtin "BaseException.__getattribute__") [.ref x, .str "__class__" t]) _ _ _
  refine wpAny_call (codeAny_call_builtin PySem.F.excAttr_ValueError.ga.plain PySem.F.entry_bexc_ga ?_)
  refine @check_slot (model prog w) _ _ ⟨hp, g, d, t + 1, os⟩ "BaseException.__getattribute__" "BaseException" "__getattribute__" (.ref x) [.str "__class__" t] [] _ (by decide +kernel) (by decide +kernel) sub (PySem.F.args_bexc_ga (.ref x) (.str "__class__" t)) ?_
  unfold Builtin.«object.__getattribute__»
  refine wpAny_bind (wpAny_of_eq (a := ((Value.ref x : Value), [Value.str "__class__" t])) (by first | rfl | (simp only [slotArgs]; rfl)) ?_)
  refine wpAny_bind (wpAny_pure (wpAny_bind (L0.at (wpAny_bind (L3.at ?_)))))
  show wpAny _ _ (holding [Value.builtin "object.__class__"] (call (.builtin "getset_descriptor.__get__") [.builtin "object.__class__", .ref x, .ref D]) >>= ret) _ _ _
  refine wpAny_bind (wpAny_holding (wpAny_call (class_get (s := ⟨hp, g, d, t + 1, os⟩) (ox := ox) (od := od) X I C.hm ?_)))
  refine wpAny_pure ?_
  show wpAny _ _ (handedOut (.ref D)) _ _ _
  rw [handedOut_of (v := .ref D) rfl]
  first
    | exact wpAny_pure (wpAny_pure h)
    | exact wpAny_pure h
    | exact wpAny_pure (wpAny_bind (wpAny_pure (wpAny_pure h)))
theorem xr_kit (C : L2.ExcC K D) : KitX K (.ref x) (.ref D) (fun h => InstAt h x ox D od) where
  ty := fun _ _ _ I => I.type
  it := fun _ _ X _ => by
    obtain ⟨cdD, hcD, _⟩ := any_some C.hd
    unfold clsIn at hcD
    split at hcD
    · rename_i c' d' cd' sl' ho
      intro A' Q' E' s' k q
      unfold isType loadHead
      exact wpAny_bind (wpAny_loadPart (k _ _ (X _ _ ho)) (wpAny_pure q))
    · cases hcD
  ne := fun h tp dd its n sl X htp => by
    obtain ⟨cdD, hcD, _⟩ := any_some C.hd
    refine Bool.eq_false_iff.mpr fun q => ?_
    have e : D = tp := Value.ref.inj (beq_iff_eq.mp q)
    subst e
    unfold clsIn at hcD
    split at hcD
    · rename_i c' d' cd' sl' ho
      have z := (X _ _ ho).symm.trans htp
      cases z
    · cases hcD
  ca := fun X I k => xr_class C X I k
end
end PySem.W
namespace XR
open PySem PySem.Spec PyProof.Rows L2
/-- an exception at e, of the class at C, without a dict; its arguments stand at t -/
def exa (e C t : Addr) : HO := .ext fun h => h.get? e = some ({ cls := .ref C, data := .fields #[.ref t, .none, .none, .none, .bool false, .none] } : Obj)
/-- an exception value of class C stands at a -/
def ExV (H : Hp) (a C : Addr) : Prop := (∃ dx fs, H a = some (exo a C (some dx)) ∧ H dx = some (exd dx fs)) ∨ ∃ t, H a = some (exa a C t)
section
variable {X : Cx} {pins : List (Addr × Obj)} {σ : L2.St} {H : Hp} {s : Shared}
theorem exa_at {P : Program} {w : World} {H : Hp} {h : Heap} {e C t : Addr} (hok : HOk P w H h) (he : H e = some (exa e C t)) : h.get? e = some ({ cls := .ref C, data := .fields #[.ref t, .none, .none, .none, .bool false, .none] } : Obj) := by
  have x : ObjOk P w H h e (.ext fun h => h.get? e = some ({ cls := .ref C, data := .fields #[.ref t, .none, .none, .none, .bool false, .none] } : Obj)) := hok e _ he
  exact x.1
theorem ExV.inst {a C : Addr} (I : Inv X pins σ H s) (h : ExV H a C) : ∃ ox od, PySem.W.InstAt s.heap a ox C od := by
  rcases h with ⟨dx, fs, ea, ed⟩ | ⟨t, ea⟩
  · obtain ⟨t1, od, _, J, _⟩ := exo_inst I ea ed
    exact ⟨_, _, J⟩
  · exact ⟨_, none, exa_at I.hok ea, rfl, rfl, trivial⟩
theorem ExV.same {a C : Addr} {H' : Hp} (h : ExV H a C) (m : Same H H') : ExV H' a C := by
  rcases h with ⟨dx, fs, ea, ed⟩ | ⟨t, ea⟩
  · exact .inl ⟨dx, fs, m _ _ ea, m _ _ ed⟩
  · exact .inr ⟨t, m _ _ ea⟩
/-- isinstance(e, c) -/
def rIsX (K : PySem.W.Frag) : List V → Hp → VK → Prop := fun xs H Q => ∃ (a C : Addr) (c : V) (u : Value) (b : Bool), xs = [.ref a, c] ∧ ExV H a C ∧ ExcC K C ∧ ClsV c u ∧ PySem.W.kitOne K (.ref C) u = some b ∧ Q (.bl b) H
theorem call_isX : CallR X (.builtin "isinstance") (rIsX X.K) := by
  intro pins s σ H xs us Q I r h
  obtain ⟨a, C, c, u, b, rfl, ev, ec, cv, e, q⟩ := h
  obtain ⟨u1, u2, rfl, r1, r2⟩ := vals2 r
  cases (show u1 = Value.ref a from r1)
  have e2 := cv.eq r2
  subst e2
  obtain ⟨ox, od, J⟩ := ev.inst I
  exact PySem.W.kia_one (PySem.W.xr_kit (ox := ox) (od := od) ec) I.kIn J e (fun z => nomatch z) fun tk => ⟨.bl b, H, I.tok tk, rfl, q⟩
/-- str(e), e made with one text -/
def rStrX (K : PySem.W.Frag) : List V → Hp → VK → Prop := fun xs H Q => ∃ (a C t : Addr) (y : Str), xs = [.ref a] ∧ H a = some (exa a C t) ∧ H t = some (.tup [.str y]) ∧ PySem.W.findIn K (.ref C) "__str__" = some (some (.builtin "BaseException.__str__")) ∧
  PySem.W.subIn K (.ref C) (.type "BaseException") = some true ∧ Q (.str y) H
theorem call_strX (hu : X.A.units + 2 < cLine) : CallR X (.type "str") (rStrX X.K) := by
  intro pins s σ H xs us Q I r h
  obtain ⟨a, C, t, y, rfl, ea, et, hs, hB, q⟩ := h
  obtain ⟨u1, rfl, r1⟩ := vals1 r
  cases (show u1 = Value.ref a from r1)
  obtain ⟨_, its, rv, o, h1, h2, n, h3⟩ := (show ObjOk X.prog X.w H s.heap t (.tup [.str y]) from I.hok t _ et)
  cases rv with
  | cons ra rn =>
    cases rn
    obtain ⟨tk, rfl⟩ := ra
    exact PySem.P.str_of_C_one hu ⟨I.kIn, _, _, exa_at I.hok ea, rfl, rfl, rfl⟩ ⟨o, n, h1, h2, h3⟩ hs hB ⟨.str y, H, I, ⟨tk, rfl⟩, q⟩
/-- two new objects are tracked -/
theorem inv_two {h' : Heap} {a t : Addr} {o u : HO} (I : Inv X pins σ H s) (k : ∀ b z, s.heap.get? b = some z → h'.get? b = some z) (ha : s.heap.get? a = none) (ht : s.heap.get? t = none) (na : H a = none) (nt : H t = none) (hat : a ≠ t)
    (oa : ObjOk X.prog X.w (upd (upd H t u) a o) h' a o) (ot : ObjOk X.prog X.w (upd (upd H t u) a o) h' t u) : Inv X pins σ (upd (upd H t u) a o) { s with heap := h' } := by
  have ea : ∀ {b z}, s.heap.get? b = some z → b ≠ a := fun {b z} q e => by rw [e, ha] at q; cases q
  have et : ∀ {b z}, s.heap.get? b = some z → b ≠ t := fun {b z} q e => by rw [e, ht] at q; cases q
  have old : ∀ {b : Addr} {z : HO}, H b = some z → upd (upd H t u) a o b = some z := fun {b z} q => by rw [upd_ne (ne_of_none q na), upd_ne (ne_of_none q nt)]; exact q
  refine I.un (t' := s.toks) ⟨fun b z q _ _ _ => k b z q, fun b z q _ _ _ => ⟨z.slots, k b z q⟩, fun b z q n _ => by rw [upd_ne (ea q), upd_ne (et q)]; exact n, fun b z q _ => ⟨z, k b z q⟩, fun b xs q => old q, fun b z v q => old q, fun b ps q => ⟨#[], by rw [old q]; simp⟩⟩ fun b z e => ?_
  by_cases hb : b = a
  · subst hb
    rw [upd_same] at e
    cases e
    exact oa
  · rw [upd_ne hb] at e
    by_cases hb2 : b = t
    · subst hb2
      rw [upd_same] at e
      cases e
      exact ot
    · rw [upd_ne hb2] at e
      exact (I.hok b z e).stay (fun c v _ q => k c v q) (fun c q => old q) fun c xs q => old q
/-- C(e), C without an own __init__, as a value -/
theorem pe_new1 {C : Addr} {bmB : List Value} {B newId initId : String} {x : Str} {e : Expr} {ta : TE} {p pos : Pos} (F : ExcBaseFacts B newId initId bmB) (q : PySem.W.excIn X.K C bmB newId = true) (gC : X.mg x = some (.ref C)) (kC : PySem.W.keepIn X.K (.ref C) = true) (hg : Gl X x)
    (he : PE X e ta) (hs : starEach [e] X.env = (false, eval e X.env) :: starEach [] X.env := by rfl) (hdb : (x == ("__debug__" : Str)) = false := by decide) :
    PE X (.Call (.Name x p) [e] [] pos) (fun σ H Q => ta σ H fun v H1 => ∀ a t, H1 a = none → H1 t = none → a ≠ t → Q (.ref a) (upd (upd H1 t (.tup [v])) a (exa a C t))) := by
  refine ⟨fun pins s σ H Q I h => ?_⟩
  refine wpAny_Call_Name_kw (ld_glob I hg gC ?_ hdb)
  refine PySem.W.callWith_K (h₀ := X.base) I.ok.mod.kin kC ?_ hs (by rfl)
  rw [hs]
  show wpAny _ _ (spliced ((false, eval e X.env) :: backTo pos (starEach [] X.env))) _ _ s
  refine Calls.spliced_cons (thn (he.run pins s σ H _ I h) fun u s1 ⟨v, H1, I1, r1, q1⟩ => ?_)
  refine Calls.spliced_nil ⟨I1.kIn, ?_⟩
  show wpAny _ _ (call (.ref C) [u]) _ _ _
  obtain ⟨bm, N, nm, qn, bs, hdct, sn, sub, ab, col, dd, k0, k1, k2, k3, k5, mN, hC, hN, hni, T⟩ := exc_obj I1.kIn q
  refine wpAny_call_exc_subT F T hC hN hni (fun h' a hm => ?_) (by show 1 ≤ sizeLine; rw [sizeLine_eq]; omega)
  have na : H1 a = none := I1.hok.gone hm.new
  obtain ⟨t, h1, h2, h3⟩ := hm.there
  have nt : H1 t = none := I1.hok.gone h2
  have hat : a ≠ t := fun z => by
    rw [z, h3] at h1
    cases h1
  refine ⟨.ref a, _, inv_two (a := a) (t := t) (o := exa a C t) (u := .tup [v]) I1 hm.keeps hm.new h2 na nt hat ?_ ?_, rfl, q1 a t na nt hat⟩
  · exact ⟨h1, ⟨_, h1⟩, fun _ _ z k => k _ z⟩
  · exact ⟨by show 1 ≤ sizeLine; rw [sizeLine_eq]; omega, [u], .cons r1 .nil, _, h3, rfl, _, rfl⟩
end
end XR

namespace XR
open PySem PySem.Spec PyProof.Rows L2
/-- repr(x) is the text t -/
inductive Shw (K : PySem.W.Frag) (H : Hp) : V → Str → Prop
  | non : Shw K H .non "None"
  | bl (b : Bool) : Shw K H (.bl b) (if b then "True" else "False")
  | int (i : Int) (h : i.natAbs.log2 < 1920) : Shw K H (.int i) (toString i)
  | str (y : Str) (h : (reprText y).length ≤ sizeLine) : Shw K H (.str y) (reprText y)
  | dat {a : Addr} {d : PyData} (h : Dp K H (.ref a) d) (h1 : d.showable = true) (h2 : d.hasDict = false) (h3 : d.depth ≤ 20) (h4 : d.shown.length ≤ sizeLine) : Shw K H (.ref a) d.shown
  | dict0 {a : Addr} (h : H a = some (.dK [])) : Shw K H (.ref a) (PyData.dict []).shown
section
variable {X : Cx} {pins : List (Addr × Obj)} {σ : L2.St} {H : Hp} {s : Shared}
def rRepr (K : PySem.W.Frag) : List V → Hp → VK → Prop := fun xs H Q => ∃ x t, xs = [x] ∧ Shw K H x t ∧ Q (.str t) H
theorem call_reprX (hg : X.A.guards = some []) (hu : X.A.units + 30 < cLine) : CallR X (.builtin "repr") (rRepr X.K) := by
  intro pins s σ H xs us Q I r h
  obtain ⟨x, t, rfl, sh, q⟩ := h
  obtain ⟨u1, rfl, r1⟩ := vals1 r
  cases sh with
  | non =>
    cases (show u1 = Value.none from r1)
    exact PySem.P.repr_of_none ⟨.str _, H, I.tok _, ⟨_, rfl⟩, q⟩
  | bl b =>
    cases (show u1 = Value.bool b from r1)
    exact PySem.P.repr_of_bool ⟨.str _, H, I.tok _, ⟨_, rfl⟩, q⟩
  | int i h =>
    obtain ⟨t, rfl⟩ := r1
    exact PySem.P.repr_of_int h ⟨.str _, H, I.tok _, ⟨_, rfl⟩, q⟩
  | str y h =>
    obtain ⟨t, rfl⟩ := r1
    exact PySem.P.repr_of_str ⟨.str _, H, I.tok _, ⟨_, rfl⟩, q⟩ h
  | @dat a d h h1 h2 h3 h4 =>
    cases (show u1 = Value.ref a from r1)
    obtain ⟨as, rd⟩ := Dp.reads I d _ _ h rfl
    exact repr_of_reads' rd h1 (fun z => by rw [h2] at z; cases z) hg (by omega) (fun _ _ z => z) (fun h' u tk k => ⟨.str _, H, I.kept k, ⟨_, rfl⟩, q⟩) h4
  | @dict0 a h =>
    cases (show u1 = Value.ref a from r1)
    obtain ⟨_, ns, vs, kv, o, es, ep, e1, e2, e3, _, ps, _⟩ := (show ObjOk X.prog X.w H s.heap a (.dK []) from I.hok a _ h)
    cases kv
    have e0 : es.toList = [] := by
      cases hh : es.toList with
      | nil => rfl
      | cons z zs =>
        rw [hh] at ps
        cases ps
    have rd : Reads s.heap (.ref a) (.dict []) (a :: [] ++ []) := Reads.dict e1 e2.1 e3 (by rw [e0]; exact .nil) (by rw [e0]; exact .nil)
    refine repr_of_reads' rd rfl (fun _ z => ?_) hg (by show _ + (1 + 1) < _; omega) (fun _ _ z => z) (fun h' u tk k => ⟨.str _, H, I.kept k, ⟨_, rfl⟩, q⟩) (by decide +kernel)
    have z' : sysModules = a := by simpa using z
    rw [← z'] at ns
    simp at ns
end

/-! ### the law's own def, called at the top -/
structure TopOk (P : Program) (w : World) (K : PySem.W.Frag) (mg : Str → Option Value) (base : Heap) (k : Nat) (f : Addr) (fd : FuncData) (ps : List Str) (sp : Sp) : Prop where
  len : ∀ vs H Q E, sp vs H Q E → vs.length = ps.length
  run : ∀ (s : Shared) (H : Hp) (args : Args) (us : List Value) (vs : List V) (Q : VK) (E : XK), Room k callerA → Env0 P w K mg base callerA [] s H → BindsTo s fd args (ps.zip us) → Vals vs us → sp vs H Q E →
    codeAny (model P w) callerA (.call (.ref f) args) (CR CX0 [] P w H s Q E) s
section
variable {P : Program} {w : World} {K : PySem.W.Frag} {mg : Str → Option Value} {base : Heap}
theorem top_ok {x qual : Str} {st : Stmt} {f : Addr} {fd : FuncData} {N ps : List Str} {k : Nat} {sp : Sp} (F : Fun K x qual st f fd) (S : FnScope N ps (defScope st)) (len : ∀ vs H Q E, sp vs H Q E → vs.length = ps.length)
    (hbody : ∀ (cdv : Value) (s : Shared) (H : Hp) (vs : List V) (Q : VK) (E : XK), Room k (callerA.deeper (envOfC qual (defScope st) s.heap.objs.size f cdv)) → sp vs H Q E →
      ∃ t, PSs (cxOf CX0 P w K mg base N qual (defScope st) f cdv callerA [] s H E).nox (defBody st) t ∧ t { nx := fun _ H' => Q .non H', rt := Q } (start N vs) H) : TopOk P w K mg base (k + 1) f fd ps sp := by
  obtain ⟨oc, od, kV, doc, pm, an, cdv, ct, osl, rfl, lk, hcd⟩ := F.ex
  refine ⟨len, fun s H args us vs Q E hr e0 hb r hsp => ?_⟩
  have hl := len _ _ _ _ hsp
  have KX : K.In s.heap := e0.mod.kin.keeps fun b o e => (e0.bs b o e).1
  have lim : s.heap.NoLimit := e0.mod.nolimit.keeps fun b o e => (e0.bs b o e).1
  have hkind : ∀ y ∈ ps.zip us, (defScope st).names.lookup y.1 = some .local ∨ ((defScope st).names.lookup y.1 = some .cell ∧ ((cellsFrom (s.heap.objs.size + 1) (defScope st).names []).lookup y.1).isSome = true) := fun ⟨n, v⟩ hy => by
    rcases S.par n (List.of_mem_zip hy).1 with q | q
    · exact .inl q
    · exact .inr ⟨q, PySem.W.cellsFrom_some _ _ _ (.inl q)⟩
  refine codeAny_call_function hr.depth (KX _ _ lk) rfl S.co S.gen rfl (PySem.W.codeRec_of KX hcd) (hb _ _ _ _ ?_)
  refine wpAny_newFunctionEnv_cells S.kind hkind fun env he s1 y => ?_
  subst he
  refine ⟨lim.keeps y.toInCall.keep, codeAny_func ?_⟩
  obtain ⟨t, ht, hq⟩ := hbody cdv s H vs Q E (hr.deeper _) hsp
  have I : Inv (cxOf CX0 P w K mg base N qual (defScope st) f cdv callerA [] s H E) [] (start N vs) H s1 := inv_start S hr.hd e0 hl r y
  refine wpAny_mono (ht.nox.run [] s1 (start N vs) H _ I hq) (fun fl s' hs => ?_) fun e s' hs => hs
  cases fl with
  | ret u =>
    obtain ⟨v, σ', H', J, rv, q⟩ := hs
    exact ⟨v, H', J.os, J.bare, J.base, J.hok, rv, q⟩
  | next =>
    obtain ⟨σ', H', J, q⟩ := hs
    exact ⟨V.non, H', J.os, J.bare, J.base, J.hok, rfl, q⟩
  | brk =>
    obtain ⟨_, _, _, q⟩ := hs
    exact False.elim q
  | cont =>
    obtain ⟨_, _, _, q⟩ := hs
    exact False.elim q
end
theorem law_top {P : Program} {w : World} {K : PySem.W.Frag} {mg mb : Str → Option Value} {k : Nat} {fa a : Addr} {fd : FuncData} {x : Str} {sp : Sp} {s1 : Shared} {vs : List Value} {ns : List Int}
    (KX : K.In s1.heap) (hns : s1.heap.Ns mainGlobals mg) (hb : s1.heap.Ns builtinsNs mb) (hbb : ∀ x : Str, x ≠ "__name__" → mb x = bootBuiltins x) (hlim : s1.heap.NoLimit) (hg : s1.gens = #[])
    (ha : s1.heap.get? a = some { cls := .type "list", data := .seq vs.toArray }) (hi : IntsAre vs ns) (hl : ns.length ≤ sizeLine) (hr : Room k callerA)
    (F : ∀ base : Heap, K.In base → base.Ns mainGlobals mg → TopOk P w K mg base k fa fd [x] sp) (hbind : ∀ (s : Shared) (u : Value), BindsTo s fd ⟨[u], []⟩ [(x, u)])
    (hsp : ∀ H : Hp, Only H → SqL K H a (ns.map V.int) → sp [.ref a] H (fun v _ => v = .bl true) fun _ _ _ => False) :
    codeAny (model P w) callerA (.call (.ref fa) ⟨[.ref a], []⟩) (fun r s' => r = .ok (.ret (.bool true)) ∧ OldK s1.heap s'.heap ∧ s'.os = s1.os ∧ AllBare s'.gens) s1 := by
  have rv := vals_ints hi
  have lenV := hi.length
  have core : ∀ H : Hp, Only H → SqL K H a (ns.map V.int) → HOk P w H s1.heap → (∀ b, H b ≠ none → b = a) → (H a ≠ none → K.lookup a = none) →
      codeAny (model P w) callerA (.call (.ref fa) ⟨[.ref a], []⟩) (fun r s' => r = .ok (.ret (.bool true)) ∧ OldK s1.heap s'.heap ∧ s'.os = s1.os ∧ AllBare s'.gens) s1 := by
    intro H hO hS hok hA hK
    have base_of : ∀ {b : Addr} {o : Obj}, s1.heap.get? b = some o → H b = none → (hidT s1.heap H).get? b = some o := fun e n => hidT_get e n
    have noA : ∀ {b : Addr} {o : Obj} {es : Array DictEntry} {ep : Nat}, s1.heap.get? b = some o → o.data = .dict es ep → H b = none := fun {b o es ep} e d => by
      cases q : H b with
      | none => rfl
      | some u =>
        have e' : b = a := hA b (by rw [q]; simp)
        subst e'
        rw [ha] at e
        cases e
        have d' : Data.seq vs.toArray _ = Data.dict es ep := d
        cases d'
    have nsK : ∀ {b : Addr} {m : Str → Option Value}, s1.heap.Ns b m → (hidT s1.heap H).Ns b m := fun {b m} ⟨o, es, ep, e, d, r⟩ => ⟨o, es, ep, base_of e (noA e d), d, r⟩
    have hKb : K.In (hidT s1.heap H) := fun b o e => base_of (KX b o e) (by
      cases q : H b with
      | none => rfl
      | some u =>
        have e' : b = a := hA b (by rw [q]; simp)
        subst e'
        rw [hK (by rw [q]; simp)] at e
        cases e)
    have hM : Mod K mg (hidT s1.heap H) := ⟨hKb, nsK hns, ⟨mb, nsK hb, hbb⟩, let ⟨mc, h1, h2⟩ := hlim; ⟨mc, nsK h1, h2⟩⟩
    have e0 : Env0 P w K mg (hidT s1.heap H) callerA [] s1 H := ⟨rfl, hM, fun b o e => of_hidT e, Nat.le_of_eq (hidT_size _ _), trivial, fun b hb => absurd (show b ∈ ([] : List Addr) from hb) (by simp), hok, .of_eq hg⟩
    refine codeAny_mono ((F _ hKb (nsK hns)).run s1 H ⟨[.ref a], []⟩ [.ref a] [.ref a] _ _ hr e0 (hbind s1 (.ref a)) (.cons rfl .nil) (hsp H hO hS)) fun r s' h => ?_
    cases r with
    | error e => exact h.elim
    | ok fl =>
      cases fl with
      | next => exact False.elim h
      | brk => exact False.elim h
      | cont => exact False.elim h
      | ret u =>
        obtain ⟨v, H', os, bare, un, hok', r', q⟩ := h
        have q' : v = .bl true := q
        subst q'
        obtain rfl : u = Value.bool true := r'
        refine ⟨rfl, OldK.of_keep fun b o e => ?_, os, bare⟩
        cases q : H b with
        | none => exact un.keep b o e q (by intro z; exact absurd (show b ∈ ([] : List Addr) from z) (by simp)) (by simp)
        | some u =>
          rcases hO b with z | ⟨ob, xs, z⟩
          · rw [q] at z
            cases z
          · have z2 := un.frzs b ob _ z
            obtain ⟨e1, _⟩ := hok b _ z
            obtain ⟨e2, _⟩ := hok' b _ z2
            rw [e] at e1
            cases e1
            exact e2
  cases hk : K.lookup a with
  | some o =>
    have e := KX a o hk
    rw [ha] at e
    cases e
    refine core (fun _ => none) (fun _ => .inl rfl) (.inr ⟨_, vs.toArray, _, hk, rfl, rfl, rfl, by rw [List.size_toArray, lenV]; exact hl, by simpa using rv⟩) (fun b u z => by have z' : (none : Option HO) = some u := z; cases z') (fun b z => absurd rfl z) fun z => absurd rfl z
  | none =>
    refine core (fun b => if b = a then some (.frz { cls := .type "list", data := .seq vs.toArray } (.lst (ns.map V.int))) else none) (fun b => ?_) (.inl (.inr ⟨{ cls := .type "list", data := .seq vs.toArray }, if_pos rfl⟩)) (fun b u z => ?_) (fun b z => ?_) fun _ => hk
    · by_cases hb : b = a
      · exact .inr ⟨_, _, if_pos hb⟩
      · exact .inl (if_neg hb)
    · by_cases hb : b = a
      · have z' := (if_pos hb).symm.trans z
        cases z'
        subst hb
        exact ⟨ha, by rw [List.length_map]; exact hl, vs, _, rv, ha⟩
      · have z' := (if_neg hb).symm.trans z
        cases z'
    · by_cases hb : b = a
      · exact hb
      · exact absurd (if_neg hb) z
theorem walk_top {l : PySem.W.OpenLaw} {n k : Nat} {q : Program} {loose : List Str} {XP : (Str → Option Value) → Heap → Prop} {YP : World → Heap → Prop} {d : DefRec} {K : Params → PySem.W.Frag} {sp : PySem.W.Frag → Sp} {x : Str}
    (hn : l.most = some n) (hn2 : n ≤ sizeLine) (hdf : d.params.defaults = []) (hr : Room k callerA)
    (hY : ∀ (w : World) (h : Heap), YP w h → (K w.params).In h)
    (F : ∀ (w : World) (mg : Str → Option Value) (fa : Addr) (h : Heap), (K w.params).In h → h.Ns mainGlobals mg → mg d.name = some (.ref fa) →
      ∃ fd : FuncData, (∀ (s : Shared) (u : Value), BindsTo s fd ⟨[u], []⟩ [(x, u)]) ∧
        ∀ base : Heap, (K w.params).In base → base.Ns mainGlobals mg → TopOk l.prog w (K w.params) mg base k fa fd [x] (sp (K w.params)))
    (hsp : ∀ (K : PySem.W.Frag) (H : Hp) (a : Addr) (ns : List Int), ns.length ≤ n → Only H → SqL K H a (ns.map V.int) → sp K [.ref a] H (fun v _ => v = .bl true) fun _ _ _ => False) :
    PySem.W.WalkO q loose XP YP l.row.toRowW d [] (fun f vs => PySem.call f vs) := by
  refine Att.attach_call hn hdf fun w s₀ s1 mg mb fa o pm cd doc a vs ns G Y ho hd hcd hmg hobj hints hlen hg => ?_
  have KX := hY w _ Y
  obtain ⟨fd, hb, hF⟩ := F w mg fa _ KX G.T.g hmg
  exact law_top KX G.T.g G.T.b G.T.builtins G.T.nolimit hg hobj hints (Nat.le_trans hlen hn2) hr hF hb fun H hO hS => hsp _ H a ns hlen hO hS
end XR

namespace K6
open PySem L2 XR
def top (i : Nat) : Stmt := PySem.Challenge.pw_planfirst_k06_errors_by_hand.main.body.getD i (.Pass ⟨0, 0, 0, 0⟩)
abbrev sWell : Stmt := top 25
abbrev sDraw : Stmt := top 26
abbrev sOne : Stmt := top 27
abbrev sFirst : Stmt := top 28
abbrev sOthers : Stmt := top 29
abbrev sKinds : Stmt := top 30
abbrev sLaw : Stmt := top 31
/-- all but what stands at w is as it was -/
def But (w : Addr) (H H' : Hp) : Prop := ∀ b o, H b = some o → b ≠ w → H' b = some o
theorem But.trans {w : Addr} {H H1 H2 : Hp} (a : But w H H1) (b : But w H1 H2) : But w H H2 := fun c o h n => b c o (a c o h n) n
theorem But.upd {w : Addr} {H : Hp} {o : HO} : But w H (upd H w o) := fun b u e n => by rw [upd_ne n]; exact e
theorem But.new {w p : Addr} {H : Hp} {o : HO} (h : H p = none) : But w H (L2.upd H p o) := fun b u e n => by rw [upd_ne (ne_of_none e h)]; exact e
theorem same_new {p : Addr} {H : Hp} {o : HO} (h : H p = none) : Same H (L2.upd H p o) := fun b u e => by rw [upd_ne (ne_of_none e h)]; exact e
structure Well (H : Hp) (w : Addr) (a b c : Int) : Prop where
  at_ : H w = some (.lst [.int a, .int b, .int c])
  b0 : 0 ≤ b
  b1 : b < 2147483647
  c0 : 0 ≤ c
  c1 : c ≤ 1000000
def spWell : Sp := fun vs H Q _ => ∃ z : Int, vs = [.int z] ∧ ∀ (p : Addr) (a b : Int) (H' : Hp), Same H H' → H p = none → Well H' p a b 0 → Q (.ref p) H'
def spDraw : Sp := fun vs H Q _ => ∃ (w : Addr) (a b c m : Int), vs = [.ref w, .int m] ∧ Well H w a b c ∧ c < 1000000 ∧ 0 < m ∧ m < 1000000 ∧
  ∀ (d a' c' : Int) (H' : Hp), 0 ≤ d → d < m → c' ≤ c + 1 → Well H' w a' b c' → But w H H' → Q (.int d) H'
def spOne (K : PySem.W.Frag) : Sp := fun vs H Q _ => ∃ (w l : Addr) (a b c : Int) (xs : List V), vs = [.ref w, .ref l] ∧ Well H w a b c ∧ c < 1000000 ∧ H l = some (.lst xs) ∧ l ≠ w ∧ 0 < xs.length ∧ xs.length < 1000 ∧
  ∀ (v : V) (a' c' : Int) (H' : Hp), v ∈ xs → c' ≤ c + 1 → Well H' w a' b c' → But w H H' → Q v H'
structure Txt0 (mg : Str → Option Value) : Prop where
  int : mg "int" = none
  len : mg "len" = none
section
variable {P : Program} {w : World} {K : PySem.W.Frag} {mg : Str → Option Value} {base : Heap}
theorem scW : FnScope ["_law_cell"] ["_law_cell"] (defScope sWell) := ⟨rfl, rfl, rfl, by decide +kernel, rfl, by decide +kernel, by decide +kernel⟩
theorem ok_well {f : Addr} {fd : FuncData} (F : Fun K "_law_well" "_law_well" sWell f fd) (T : Txt0 mg) : FnOk P w K mg base CX0 1 f fd ["_law_cell"] spWell := by
  refine F.ok scW (fun vs H Q E h => ?_) (fun cdv A outer s H vs Q E hr h => ?_)
  · obtain ⟨z, rfl, _⟩ := h
    rfl
  · obtain ⟨z, rfl, k⟩ := h
    refine ⟨_, pss_one (ps_ret (pe_lst (pa_cons (pe_op op_mul (pv 0) (pe_callTy call_int1 (by rfl) T.int (by decide +kernel) (pa_cons (pe_cmpR op_ge (pv 0) (pe_op op_pow pe_int pe_int) (nomark _)) pa_nil)))
      (pa_cons (pe_op op_mod (pe_callTy call_int1 (by rfl) T.int (by decide +kernel) (pa_cons (pv 0) pa_nil)) pe_int) (pa_cons pe_int pa_nil))))), ?_⟩
    refine ⟨_, rfl, _, rfl, _, _, rfl, rfl, ⟨by decide, by decide, by decide⟩, _, _, rfl, rfl, .inr ⟨_, rfl, ?_⟩⟩
    refine ⟨_, _, rfl, rfl, .inr ?_, ?_⟩
    · split <;> exact ⟨by decide, by decide⟩
    refine ⟨_, rfl, .inl ⟨_, rfl, _, _, rfl, rfl, (by show (0 : Int) < 2147483647; decide), (by show 3 ≤ sizeLine; decide), fun p hp => ?_⟩⟩
    refine k p _ _ _ (same_new hp) hp ⟨upd_same, ?_, ?_, Int.le_refl _, by decide⟩
    · exact Int.emod_nonneg _ (by decide)
    · exact Int.emod_lt_of_pos _ (by decide)
theorem scD : FnScope ["_law_well_here", "_law_below", "_law_digit", "_law_prime", "_law_number"] ["_law_well_here", "_law_below"] (defScope sDraw) := ⟨rfl, rfl, rfl, by decide +kernel, rfl, by decide +kernel, by decide +kernel⟩
theorem ok_draw {f : Addr} {fd : FuncData} (F : Fun K "_law_draw" "_law_draw" sDraw f fd) (T : Txt0 mg) : FnOk P w K mg base CX0 1 f fd ["_law_well_here", "_law_below"] spDraw := by
  refine F.ok scD (fun vs H Q E h => ?_) (fun cdv A outer s H vs Q E hr h => ?_)
  · obtain ⟨w, a, b, c, m, rfl, _⟩ := h
    rfl
  · obtain ⟨w, a, b, c, m, rfl, W, hc, m0, m1, k⟩ := h
    refine ⟨_, pss_cons (ps_if (pt_cmpR op_gt (pe_ix ix_list (pv 0) pe_int (fun _ _ => rfl)) pe_int (nomark _))
        (pss_cons (ps_set (i := 2) scD.nd rfl (Or.inl rfl) (pe_op op_mod (pe_callTy call_int1 (by rfl) T.int (by decide +kernel) (pa_cons (pe_ix ix_list (pv 0) pe_int (fun _ _ => rfl)) pa_nil)) (pv 1)))
        (pss_cons (ps_asg (pe_op op_fdiv (pe_ix ix_list (pv 0) pe_int (fun _ _ => rfl)) (pv 1)) (pg_sub (pv 0) pe_int set_list))
        (pss_one (ps_ret (pv 2))))) pss_nil)
      (pss_cons (ps_asg (pe_op op_add (pe_ix ix_list (pv 0) pe_int (fun _ _ => rfl)) pe_int) (pg_sub (pv 0) pe_int set_list))
      (pss_cons (ps_set (i := 3) scD.nd rfl (Or.inl rfl) (pe_ix ix_list (pe_lst (pa_cons pe_int (pa_cons pe_int (pa_cons pe_int (pa_cons pe_int (pa_cons pe_int (pa_cons pe_int (pa_cons pe_int pa_nil))))))))
        (pe_op op_mod (pe_callTy call_int1 (by rfl) T.int (by decide +kernel) (pa_cons (pe_ix ix_list (pv 0) pe_int (fun _ _ => rfl)) pa_nil)) pe_int) (fun _ _ => rfl)))
      (pss_cons (ps_set (i := 4) scD.nd rfl (Or.inl rfl) (pe_op op_mod (pe_callTy call_int1 (by rfl) T.int (by decide +kernel) (pa_cons (pe_op op_pow (pe_op op_add (pe_op op_add (pe_ix ix_list (pv 0) pe_int (fun _ _ => rfl)) (pe_op op_mul pe_int (pe_ix ix_list (pv 0) pe_int (fun _ _ => rfl)))) pe_int) pe_int) pa_nil)) (pv 3)))
      (pss_cons (ps_set (i := 4) scD.nd rfl (Or.inl rfl) (pe_op op_mod (pe_callTy call_int1 (by rfl) T.int (by decide +kernel) (pa_cons (pe_op op_mul (pe_op op_add (pv 4) (pe_ix ix_list (pv 0) pe_int (fun _ _ => rfl))) (pe_op op_add (pe_op op_fdiv (pv 4) pe_int) pe_int)) pa_nil)) (pv 3)))
      (pss_one (ps_ret (pe_op op_mod (pe_callTy call_int1 (by rfl) T.int (by decide +kernel) (pa_cons (pe_op op_fdiv (pv 4) pe_int) pa_nil)) (pv 1)))))))), ?_⟩
    refine ⟨_, rfl, w, _, _, _, rfl, rfl, SqL.of W.at_, rfl, _, _, rfl, rfl, _, rfl, ?_⟩
    refine ite2 (fun ca => ?_) (fun ca => ?_)
    · refine ⟨_, rfl, w, _, _, _, rfl, rfl, SqL.of W.at_, rfl, .inl ⟨_, rfl, _, rfl, _, _, rfl, rfl, m0, ?_⟩⟩
      refine ⟨_, rfl, w, _, _, _, rfl, rfl, SqL.of W.at_, rfl, _, rfl, _, _, rfl, rfl, ⟨m0, by omega⟩, _, rfl, w, _, _, _, rfl, rfl, W.at_, rfl, ?_⟩
      exact ⟨_, rfl, k _ _ c _ (Int.emod_nonneg _ (by omega)) (Int.emod_lt_of_pos _ m0) (by omega) ⟨upd_same, W.b0, W.b1, W.c0, W.c1⟩ But.upd⟩
    · refine ⟨_, rfl, w, _, _, _, rfl, rfl, SqL.of W.at_, rfl, _, _, rfl, rfl, _, rfl, w, _, _, _, rfl, rfl, W.at_, rfl, ?_⟩
      have W1 : Well (upd H w (.lst [.int a, .int b, .int (c + 1)])) w a b (c + 1) := ⟨upd_same, W.b0, W.b1, by have := W.c0; omega, by omega⟩
      have B1 : But w H (upd H w (.lst [.int a, .int b, .int (c + 1)])) := But.upd
      refine ⟨(by show 7 ≤ sizeLine; decide), fun p hp => ?_⟩
      have wp : w ≠ p := ne_of_none W1.at_ hp
      have W2 : Well (upd (upd H w (.lst [.int a, .int b, .int (c + 1)])) p (.lst [.int 2147483647, .int 2147483629, .int 2147483587, .int 2147483579, .int 2147483563, .int 2147483549, .int 2147483543])) w a b (c + 1) := ⟨by rw [upd_ne wp]; exact W1.at_, W1.b0, W1.b1, W1.c0, W1.c1⟩
      have B2 := B1.trans (But.new (w := w) (o := .lst [.int 2147483647, .int 2147483629, .int 2147483587, .int 2147483579, .int 2147483563, .int 2147483549, .int 2147483543]) hp)
      have hx : ∃ q : Int, (atI [V.int 2147483647, .int 2147483629, .int 2147483587, .int 2147483579, .int 2147483563, .int 2147483549, .int 2147483543] ((c + 1) % 7)) = some (.int q) ∧ 0 < q ∧ q ≤ 2147483647 := by
        have h0 : 0 ≤ (c + 1) % 7 := Int.emod_nonneg _ (by decide)
        have h1 : (c + 1) % 7 < 7 := Int.emod_lt_of_pos _ (by decide)
        rcases (by omega : (c + 1) % 7 = 0 ∨ (c + 1) % 7 = 1 ∨ (c + 1) % 7 = 2 ∨ (c + 1) % 7 = 3 ∨ (c + 1) % 7 = 4 ∨ (c + 1) % 7 = 5 ∨ (c + 1) % 7 = 6) with e | e | e | e | e | e | e <;> rw [e] <;> exact ⟨_, rfl, by decide, by decide⟩
      obtain ⟨q, eq, q0, q1⟩ := hx
      refine ⟨_, rfl, w, _, _, _, rfl, rfl, SqL.of W2.at_, rfl, .inl ⟨_, rfl, _, _, rfl, rfl, (by show (0 : Int) < 7; decide), p, _, _, _, rfl, rfl, SqL.of upd_same, eq, ?_⟩⟩
      refine ⟨_, rfl, w, _, _, _, rfl, rfl, SqL.of W2.at_, rfl, _, rfl, w, _, _, _, rfl, rfl, SqL.of W2.at_, rfl, _, _, rfl, rfl, .inl ⟨by decide, by decide⟩, _, _, rfl, rfl, _, _, rfl, rfl, _, _, rfl, rfl, ⟨by decide, by decide, ?_⟩, ?_⟩
      · have := W.b0; have := W.b1; have := W.c0; have := W.c1
        omega
      refine .inl ⟨_, rfl, _, rfl, _, _, rfl, rfl, q0, ?_⟩
      have n0 := Int.emod_nonneg ((b + 7919 * (c + 1) + 1) ^ Int.toNat 5) (by omega : q ≠ 0)
      have n1 := Int.emod_lt_of_pos ((b + 7919 * (c + 1) + 1) ^ Int.toNat 5) q0
      refine ⟨_, rfl, _, rfl, w, _, _, _, rfl, rfl, SqL.of W2.at_, rfl, _, _, rfl, rfl, _, rfl, _, _, rfl, rfl, ⟨by decide, by decide⟩, _, _, rfl, rfl, _, _, rfl, rfl, .inl ⟨?_, ?_⟩, ?_⟩
      · have := W1.c0; omega
      · have := W1.c1; omega
      refine .inl ⟨_, rfl, _, rfl, _, _, rfl, rfl, q0, ?_⟩
      refine ⟨_, rfl, _, _, rfl, rfl, ⟨by decide, by decide⟩, .inl ⟨_, rfl, _, rfl, _, _, rfl, rfl, m0, ?_⟩⟩
      exact k _ _ _ _ (Int.emod_nonneg _ (by omega)) (Int.emod_lt_of_pos _ m0) (Int.le_refl _) W2 B2
theorem scO : FnScope ["_law_well_here", "_law_some"] ["_law_well_here", "_law_some"] (defScope sOne) := ⟨rfl, rfl, rfl, by decide +kernel, rfl, by decide +kernel, by decide +kernel⟩
theorem ok_one {f fD : Addr} {fd fdD : FuncData} (F : Fun K "_law_one" "_law_one" sOne f fd) (T : Txt0 mg) (FD : Fun K "_law_draw" "_law_draw" sDraw fD fdD) (gD : mg "_law_draw" = some (.ref fD)) (bD : Binds K fdD ["_law_well_here", "_law_below"] []) :
    FnOk P w K mg base CX0 2 f fd ["_law_well_here", "_law_some"] (spOne K) := by
  have GD : FnOk P w K mg base CX0 1 fD fdD ["_law_well_here", "_law_below"] spDraw := ok_draw FD T
  refine F.ok scO (fun vs H Q E h => ?_) (fun cdv A outer s H vs Q E hr h => ?_)
  · obtain ⟨w, l, a, b, c, xs, rfl, _⟩ := h
    rfl
  · obtain ⟨w, l, a, b, c, xs, rfl, W, hc, hl, nlw, l0, l1, k⟩ := h
    refine ⟨_, pss_one (ps_ret (pe_ix ix_list (pv 1) (pe_call GD hr rfl gD FD.kp bD .nil pass0 (pa_cons (pv 0) (pa_cons (pe_callB call_len (by rfl) T.len PySem.boot_len (pa_cons (pv 1) pa_nil)) pa_nil))) (fun _ _ => rfl))), ?_⟩
    refine ⟨_, rfl, _, rfl, _, rfl, _, _, rfl, .inl ⟨_, SqL.of hl, rfl⟩, w, a, b, c, _, rfl, W, hc, by omega, by omega, fun d a' c' H' d0 d1 hc' W' B => ?_⟩
    have hl' : H' l = some (.lst xs) := B _ _ hl nlw
    have hd : d.toNat < xs.length := by omega
    refine ⟨l, xs, d, xs[d.toNat], rfl, rfl, SqL.of hl', ?_, ?_⟩
    · have z := atI_nat (xs := xs) (j := d.toNat) (v := xs[d.toNat]) (by simp [hd])
      rwa [Int.toNat_of_nonneg d0] at z
    · exact k _ a' c' H' (List.getElem_mem hd) hc' W' B
end
end K6

namespace K6
open PySem L2 XR
/-! ### what is asked of each class of errors -/
abbrev tail (CP : Addr) : List Value := [.ref CP, .type "ValueError", .type "Exception", .type "BaseException", .type "object"]
structure XcOk (K : PySem.W.Frag) (CP C : Addr) : Prop where
  lk : ∃ nm q N bs sn sub ab col dd k0 k1 k2 k3 k5, K.lookup C = some (excClassObj nm q C N bs (tail CP) true sn sub ab col dd k0 k1 k2 k3 k5 "ValueError.__new__")
  sa : PySem.W.findIn K (.ref C) "__setattr__" = some (some (.builtin "object.__setattr__"))
  ga : PySem.W.findIn K (.ref C) "__getattribute__" = some (some (.builtin "BaseException.__getattribute__"))
  gg : PySem.W.findIn K (.ref C) "__getattr__" = some none
  ha : PySem.W.findIn K (.ref C) "__class__" = some (some (.builtin "object.__class__"))
  kC : PySem.W.keepIn K (.ref C) = true
  tyC : PySem.W.typeIn K (.ref C) = some (.type "type")
structure Cls0 (K : PySem.W.Frag) : Prop where
  hn : PySem.W.specialIn K (.builtin "object.__class__") "__get__" = some (some (.builtin "getset_descriptor.__get__"))
  ht : PySem.W.takesIn K (.builtin "object.__class__") = some true
section
variable {K : PySem.W.Frag} {CP C D : Addr}
theorem XcOk.cls (x : XcOk K CP C) : ∃ cd : ClassData, PySem.W.clsIn K C = some cd ∧ cd.mro = .ref C :: tail CP ∧ cd.hasDict = true := by
  obtain ⟨nm, q, N, bs, sn, sub, ab, col, dd, k0, k1, k2, k3, k5, h⟩ := x.lk
  refine ⟨{ name := nm, bases := bs, mro := .ref C :: tail CP, ns := N, qualname := q, hasDict := true, slotNames := sn, subclasses := sub, abstract := ab, collection := col, hasDel := false }, ?_, rfl, rfl⟩
  unfold PySem.W.clsIn
  rw [h]
theorem XcOk.mro (x : XcOk K CP C) (v : Value) : PySem.W.mroIn K C v = some ((Value.ref C :: tail CP).contains v) := by
  obtain ⟨cd, h1, h2, _⟩ := x.cls
  unfold PySem.W.mroIn
  rw [h1, Option.bind_some, h2]
  rfl
theorem XcOk.sub (x : XcOk K CP C) (v : Value) : PySem.W.subIn K (.ref C) v = some ((Value.ref C :: tail CP).contains v) := x.mro v
theorem XcOk.hd (x : XcOk K CP C) : PySem.W.hasDictIn K C = true := by
  obtain ⟨cd, h1, _, h3⟩ := x.cls
  unfold PySem.W.hasDictIn
  rw [h1]
  exact h3
theorem XcOk.oex (x : XcOk K CP C) : OexC K C := by
  obtain ⟨nm, q, N, bs, sn, sub, ab, col, dd, k0, k1, k2, k3, k5, h⟩ := x.lk
  exact ⟨⟨nm, q, N, bs, tail CP, sn, sub, ab, col, dd, k0, k1, k2, k3, k5, h, rfl⟩, x.sa, (x.sub _).trans (congrArg some (by rfl)), x.tyC, x.kC⟩
theorem XcOk.xf (x : XcOk K CP C) : XfC K C := ⟨x.ga, x.gg, (x.sub _).trans (congrArg some (by rfl)), x.hd⟩
theorem XcOk.exc (x : XcOk K CP C) (z : Cls0 K) : ExcC K C := ⟨x.ga, x.gg, (x.sub _).trans (congrArg some (by rfl)), x.hd, x.ha, z.hn, z.ht, (x.mro _).trans (congrArg some (by rfl))⟩
theorem XcOk.isCls (x : XcOk K CP C) : ((PySem.W.clsIn K C).isSome && PySem.W.typeIn K (.ref C) == some (.type "type")) = true := by
  obtain ⟨cd, h1, _⟩ := x.cls
  rw [h1, x.tyC]
  rfl
theorem XcOk.kit (x : XcOk K CP C) (y : XcOk K CP D) (hp : D ≠ CP) : PySem.W.kitOne K (.ref C) (.ref D) = some (decide (C = D)) := by
  unfold PySem.W.kitOne
  by_cases e : C = D
  · subst e
    simp
  · rw [if_neg (by simpa using e)]
    show (if ((PySem.W.clsIn K D).isSome && PySem.W.typeIn K (.ref D) == some (.type "type")) = true then PySem.W.subIn K (.ref C) (.ref D) else none) = _
    rw [if_pos y.isCls, x.sub, decide_eq_false e]
    have b1 : (Value.ref D == Value.ref C) = false := beq_eq_false_iff_ne.mpr fun z => e (Value.ref.inj z).symm
    have b2 : (Value.ref D == Value.ref CP) = false := beq_eq_false_iff_ne.mpr fun z => hp (Value.ref.inj z)
    rw [List.contains_cons, List.contains_cons, b1, b2]
    rfl
theorem XcOk.kitP (x : XcOk K CP C) (hc : ((PySem.W.clsIn K CP).isSome && PySem.W.typeIn K (.ref CP) == some (.type "type")) = true) : PySem.W.kitOne K (.ref C) (.ref CP) = some true := by
  unfold PySem.W.kitOne
  by_cases e : C = CP
  · subst e
    simp
  · rw [if_neg (by simpa using e)]
    show (if ((PySem.W.clsIn K CP).isSome && PySem.W.typeIn K (.ref CP) == some (.type "type")) = true then PySem.W.subIn K (.ref C) (.ref CP) else none) = _
    have b2 : (Value.ref CP == Value.ref CP) = true := by simp
    rw [if_pos hc, x.sub, List.contains_cons, List.contains_cons, b2, Bool.true_or, Bool.or_true]
theorem XcOk.kitV (x : XcOk K CP C) : PySem.W.kitOne K (.ref C) (.type "ValueError") = some true := by
  unfold PySem.W.kitOne
  rw [if_neg (by simp)]
  show (if PySem.W.kitMeta "ValueError" = true then PySem.W.subIn K (.ref C) (.type "ValueError") else none) = _
  rw [if_pos (by decide +kernel), x.sub]
  rfl
end
/-! ### the promises of __init__ -/
def spI (C : Addr) (fld : Str) : Sp := fun vs H Q _ => ∃ (a : Addr) (v : V), vs = [.ref a, v] ∧ H a = some (exo a C none) ∧
  ∀ (dx : Addr) (H' : Hp), H dx = none → dx ≠ a → H' = upd (upd H dx (exd dx [(fld, v)])) a (exo a C (some dx)) → Q .non H'
def spI2 (C : Addr) (f1 f2 : Str) : Sp := fun vs H Q _ => ∃ (a : Addr) (v u : V), vs = [.ref a, v, u] ∧ H a = some (exo a C none) ∧
  ∀ (dx : Addr) (H' : Hp), H dx = none → dx ≠ a → (∀ b o, H b = some o → b ≠ a → H' b = some o) → H' a = some (exo a C (some dx)) → H' dx = some (exd dx [(f2, u), (f1, v)]) → Q .non H'
/-- an error of one value -/
structure New1 (P : Program) (w : World) (K : PySem.W.Frag) (mg : Str → Option Value) (base : Heap) (CP : Addr) (x fld : Str) (C fI : Addr) (fd : FuncData) : Prop where
  xc : XcOk K CP C
  g : mg x = some (.ref C)
  iC : PySem.W.findIn K (.ref C) "__init__" = some (some (.ref fI))
  tI : PySem.W.typeIn K (.ref fI) = some (.type "function")
  no : PySem.W.findIn K (.ref C) fld = some none
  ok : FnOk P w K mg base CX0 1 fI fd ["self", fld] (spI C fld)
  b : Binds K fd ["self", fld] []
structure New2 (P : Program) (w : World) (K : PySem.W.Frag) (mg : Str → Option Value) (base : Heap) (CP : Addr) (x f1 f2 : Str) (C fI : Addr) (fd : FuncData) : Prop where
  xc : XcOk K CP C
  g : mg x = some (.ref C)
  iC : PySem.W.findIn K (.ref C) "__init__" = some (some (.ref fI))
  tI : PySem.W.typeIn K (.ref fI) = some (.type "function")
  no1 : PySem.W.findIn K (.ref C) f1 = some none
  no2 : PySem.W.findIn K (.ref C) f2 = some none
  ok : FnOk P w K mg base CX0 1 fI fd ["self", f1, f2] (spI2 C f1 f2)
  b : Binds K fd ["self", f1, f2] []
/-! ### readings -/
/-- an error of the class C with the field f = v stands at e -/
def Er (H : Hp) (e C : Addr) (f : Str) (v : V) : Prop := ∃ dx, H e = some (exo e C (some dx)) ∧ H dx = some (exd dx [(f, v)])
theorem Er.same {H H' : Hp} {e C : Addr} {f : Str} {v : V} (h : Er H e C f v) (m : Same H H') : Er H' e C f v := let ⟨dx, a, b⟩ := h; ⟨dx, m _ _ a, m _ _ b⟩
theorem Er.ev {H : Hp} {e C : Addr} {f : Str} {v : V} (h : Er H e C f v) : ExV H e C := let ⟨dx, a, b⟩ := h; .inl ⟨dx, _, a, b⟩
theorem rd_new {C : Addr} {fld : Str} {σ : L2.St} {H : Hp} {Q : VK} {i : Nat} {v : V} (hv : σ[i]? = some (some v)) (k : ∀ (e : Addr) (H' : Hp), Same H H' → Er H' e C fld v → Q (.ref e) H') :
    tNewO C (spI C fld) (tCons (tVar i) tNil) σ H Q := by
  unfold tNewO
  refine ⟨v, hv, (by show 1 ≤ 1000; decide), fun a ha => ⟨a, v, rfl, upd_same, fun dx H' hd hne e => ⟨rfl, ?_⟩⟩⟩
  rw [upd_ne hne] at hd
  subst e
  refine k a _ (fun b o z => ?_) ⟨dx, upd_same, by rw [upd_ne hne, upd_same]⟩
  rw [upd_ne (ne_of_none z ha), upd_ne (ne_of_none z hd), upd_ne (ne_of_none z ha)]
  exact z
/-- a pair of an error of the class C and v -/
def Line (H : Hp) (v : V) (x : V) (C : Addr) : Prop := ∃ t e, x = .ref t ∧ H t = some (.tup [.ref e, v]) ∧ ExV H e C
theorem Line.same {H H' : Hp} {v x : V} {C : Addr} (h : Line H v x C) (m : Same H H') : Line H' v x C := let ⟨t, e, a, b, c⟩ := h; ⟨t, e, a, m _ _ b, c.same m⟩
theorem rd_xget {K : PySem.W.Frag} {C : Addr} {f : Str} {σ : L2.St} {H : Hp} {Q : VK} {i : Nat} {v : V} {e : Addr} (hv : σ[i]? = some (some (.ref e))) (T : XfC K C) (no : PySem.W.findIn K (.ref C) f = some none) (h : Er H e C f v)
    (k : Q v H) : tXget K f (tVar i) σ H Q := by
  unfold tXget
  obtain ⟨dx, h1, h2⟩ := h
  exact ⟨_, hv, e, C, dx, _, v, rfl, T, no, h1, h2, (by simp [List.lookup]), k⟩
theorem line_of {H : Hp} {C e t : Addr} {f : Str} {v : V} (h : Er H e C f v) (ht : H t = none) : Line (upd H t (.tup [.ref e, v])) v (.ref t) C := ⟨t, e, rfl, upd_same, h.ev.same (same_new ht)⟩
/-- lists of such pairs -/
abbrev Lines (H : Hp) (v : V) : List V → List Addr → Prop := Paired (Line H v)
theorem Lines.same {H H' : Hp} {v : V} {xs : List V} {cs : List Addr} (h : Lines H v xs cs) (m : Same H H') : Lines H' v xs cs := Paired.mapP h fun _ _ z => z.same m
theorem Lines.append {H : Hp} {v : V} {xs ys : List V} {cs ds : List Addr} (h : Lines H v xs cs) (g : Lines H v ys ds) : Lines H v (xs ++ ys) (cs ++ ds) := by
  induction h with
  | nil => exact g
  | cons a _ ih => exact .cons a ih
theorem line4 {H : Hp} {v x1 x2 x3 x4 : V} {c1 c2 c3 c4 : Addr} (a : Line H v x1 c1) (b : Line H v x2 c2) (c : Line H v x3 c3) (d : Line H v x4 c4) : Lines H v [x1, x2, x3, x4] [c1, c2, c3, c4] := .cons a (.cons b (.cons c (.cons d .nil)))
theorem line1 {H : Hp} {v x1 : V} {c1 : Addr} (a : Line H v x1 c1) : Lines H v [x1] [c1] := .cons a .nil
theorem at_new {H : Hp} {a : Addr} {o : HO} (_ : H a = none) : upd H a o a = some o := upd_same
def spPart (cs : List Addr) : Sp := fun vs H Q _ => ∃ v : V, vs = [v] ∧ ∀ (p : Addr) (xs : List V) (H' : Hp), Same H H' → H' p = some (.lst xs) → Lines H' v xs cs → Q (.ref p) H'
def spKinds (K : PySem.W.Frag) (cs : List Addr) : Sp := fun vs H Q _ => ∃ (e C : Addr) (b : Nat → Bool), vs = [.ref e] ∧ ExV H e C ∧ ExcC K C ∧ (∀ (j : Nat) (D : Addr), cs[j]? = some D → PySem.W.kitOne K (.ref C) (.ref D) = some (b j)) ∧
  ∀ (p : Addr) (H' : Hp), Same H H' → H' p = some (.lst ((List.range 21).map fun j => V.bl (b j))) → Q (.ref p) H'
def tIsi (K : PySem.W.Frag) (D : Addr) : TE := tCB (rIsX K) (tCons (tVar 0) (tCons (tC (.ref D)) tNil))
theorem rd_cat3 {K : PySem.W.Frag} {σ : L2.St} {H : Hp} {Q : VK} {p e C D0 D1 D2 : Addr} {xs : List V} {b0 b1 b2 : Bool} (h1 : σ[1]? = some (some (.ref p))) (h0 : σ[0]? = some (some (.ref e))) (hp : H p = some (.lst xs)) (ev : ExV H e C) (ec : ExcC K C)
    (k0 : PySem.W.kitOne K (.ref C) (.ref D0) = some b0) (k1 : PySem.W.kitOne K (.ref C) (.ref D1) = some b1) (k2 : PySem.W.kitOne K (.ref C) (.ref D2) = some b2) (hl : xs.length ≤ 100)
    (k : ∀ (q : Addr) (H' : Hp), Same H H' → H' q = some (.lst (xs ++ [.bl b0, .bl b1, .bl b2])) → Q (.ref q) H') : tOp rCat (tVar 1) (tLst (tCons (tIsi K D0) (tCons (tIsi K D1) (tCons (tIsi K D2) tNil)))) σ H Q := by
  refine ⟨_, h1, _, h0, e, C, _, _, b0, rfl, ev, ec, .own _, k0, _, h0, e, C, _, _, b1, rfl, ev, ec, .own _, k1, _, h0, e, C, _, _, b2, rfl, ev, ec, .own _, k2, (by show 3 ≤ sizeLine; decide), fun q hq => ?_⟩
  refine ⟨p, q, xs, _, rfl, rfl, same_new hq _ _ hp, upd_same, ?_, fun r hr => k r _ ((same_new hq).trans (same_new hr)) upd_same⟩
  rw [sizeLine_eq]
  show xs.length + 3 ≤ _
  omega
section
variable {P : Program} {w : World} {K : PySem.W.Frag} {mg : Str → Option Value} {base : Heap}
abbrev sI2 : Stmt := inClass (top 2) 0
theorem scI2 : FnScope ["self", "expression"] ["self", "expression"] (defScope sI2) := ⟨rfl, rfl, rfl, by decide +kernel, rfl, by decide +kernel, by decide +kernel⟩
theorem ok_I2 {f C B : Addr} {fd : FuncData} {mc : Value} (F : Fun K "__init__" "Misfit.__init__" sI2 f fd) (T : PIni K mg "PlanError" B mc) (xc : OexC K C) (no : PySem.W.findIn K (.ref C) "expression" = some none) : FnOk P w K mg base CX0 1 f fd ["self", "expression"] (spI C "expression") := by
  refine F.ok scI2 (fun vs H Q E h => ?_) (fun cdv A outer s H vs Q E hr h => ?_)
  · obtain ⟨a, v, rfl, _⟩ := h
    rfl
  · obtain ⟨a, v, rfl, ha, k⟩ := h
    refine ⟨_, pss_cons (ps_expr (pe_pinit T rfl (pa_cons (pv 0) (pa_cons pe_str pa_nil)))) (pss_one (ps_ost (pv 0) (pv 1))), ?_⟩
    exact ⟨_, rfl, a, C, _, rfl, (by show 1 ≤ 1000; decide), xc, ha, _, rfl, _, rfl, a, C, rfl, xc, no, .inl ⟨ha, fun dx hd hne => k dx _ hd hne rfl⟩⟩
abbrev sI3 : Stmt := inClass (top 3) 0
theorem scI3 : FnScope ["self", "part"] ["self", "part"] (defScope sI3) := ⟨rfl, rfl, rfl, by decide +kernel, rfl, by decide +kernel, by decide +kernel⟩
theorem ok_I3 {f C B : Addr} {fd : FuncData} {mc : Value} (F : Fun K "__init__" "NoKind.__init__" sI3 f fd) (T : PIni K mg "PlanError" B mc) (xc : OexC K C) (no : PySem.W.findIn K (.ref C) "part" = some none) : FnOk P w K mg base CX0 1 f fd ["self", "part"] (spI C "part") := by
  refine F.ok scI3 (fun vs H Q E h => ?_) (fun cdv A outer s H vs Q E hr h => ?_)
  · obtain ⟨a, v, rfl, _⟩ := h
    rfl
  · obtain ⟨a, v, rfl, ha, k⟩ := h
    refine ⟨_, pss_cons (ps_expr (pe_pinit T rfl (pa_cons (pv 0) (pa_cons pe_str pa_nil)))) (pss_one (ps_ost (pv 0) (pv 1))), ?_⟩
    exact ⟨_, rfl, a, C, _, rfl, (by show 1 ≤ 1000; decide), xc, ha, _, rfl, _, rfl, a, C, rfl, xc, no, .inl ⟨ha, fun dx hd hne => k dx _ hd hne rfl⟩⟩
abbrev sI4 : Stmt := inClass (top 4) 0
theorem scI4 : FnScope ["self", "at"] ["self", "at"] (defScope sI4) := ⟨rfl, rfl, rfl, by decide +kernel, rfl, by decide +kernel, by decide +kernel⟩
theorem ok_I4 {f C B : Addr} {fd : FuncData} {mc : Value} (F : Fun K "__init__" "NoConfig.__init__" sI4 f fd) (T : PIni K mg "PlanError" B mc) (xc : OexC K C) (no : PySem.W.findIn K (.ref C) "at" = some none) : FnOk P w K mg base CX0 1 f fd ["self", "at"] (spI C "at") := by
  refine F.ok scI4 (fun vs H Q E h => ?_) (fun cdv A outer s H vs Q E hr h => ?_)
  · obtain ⟨a, v, rfl, _⟩ := h
    rfl
  · obtain ⟨a, v, rfl, ha, k⟩ := h
    refine ⟨_, pss_cons (ps_expr (pe_pinit T rfl (pa_cons (pv 0) (pa_cons pe_str pa_nil)))) (pss_one (ps_ost (pv 0) (pv 1))), ?_⟩
    exact ⟨_, rfl, a, C, _, rfl, (by show 1 ≤ 1000; decide), xc, ha, _, rfl, _, rfl, a, C, rfl, xc, no, .inl ⟨ha, fun dx hd hne => k dx _ hd hne rfl⟩⟩
abbrev sI6 : Stmt := inClass (top 6) 0
theorem scI6 : FnScope ["self", "param"] ["self", "param"] (defScope sI6) := ⟨rfl, rfl, rfl, by decide +kernel, rfl, by decide +kernel, by decide +kernel⟩
theorem ok_I6 {f C B : Addr} {fd : FuncData} {mc : Value} (F : Fun K "__init__" "NoValue.__init__" sI6 f fd) (T : PIni K mg "PlanError" B mc) (xc : OexC K C) (no : PySem.W.findIn K (.ref C) "param" = some none) : FnOk P w K mg base CX0 1 f fd ["self", "param"] (spI C "param") := by
  refine F.ok scI6 (fun vs H Q E h => ?_) (fun cdv A outer s H vs Q E hr h => ?_)
  · obtain ⟨a, v, rfl, _⟩ := h
    rfl
  · obtain ⟨a, v, rfl, ha, k⟩ := h
    refine ⟨_, pss_cons (ps_expr (pe_pinit T rfl (pa_cons (pv 0) (pa_cons pe_str pa_nil)))) (pss_one (ps_ost (pv 0) (pv 1))), ?_⟩
    exact ⟨_, rfl, a, C, _, rfl, (by show 1 ≤ 1000; decide), xc, ha, _, rfl, _, rfl, a, C, rfl, xc, no, .inl ⟨ha, fun dx hd hne => k dx _ hd hne rfl⟩⟩
abbrev sI7 : Stmt := inClass (top 7) 0
theorem scI7 : FnScope ["self", "address"] ["self", "address"] (defScope sI7) := ⟨rfl, rfl, rfl, by decide +kernel, rfl, by decide +kernel, by decide +kernel⟩
theorem ok_I7 {f C B : Addr} {fd : FuncData} {mc : Value} (F : Fun K "__init__" "Unsure.__init__" sI7 f fd) (T : PIni K mg "PlanError" B mc) (xc : OexC K C) (no : PySem.W.findIn K (.ref C) "address" = some none) : FnOk P w K mg base CX0 1 f fd ["self", "address"] (spI C "address") := by
  refine F.ok scI7 (fun vs H Q E h => ?_) (fun cdv A outer s H vs Q E hr h => ?_)
  · obtain ⟨a, v, rfl, _⟩ := h
    rfl
  · obtain ⟨a, v, rfl, ha, k⟩ := h
    refine ⟨_, pss_cons (ps_expr (pe_pinit T rfl (pa_cons (pv 0) (pa_cons pe_str pa_nil)))) (pss_one (ps_ost (pv 0) (pv 1))), ?_⟩
    exact ⟨_, rfl, a, C, _, rfl, (by show 1 ≤ 1000; decide), xc, ha, _, rfl, _, rfl, a, C, rfl, xc, no, .inl ⟨ha, fun dx hd hne => k dx _ hd hne rfl⟩⟩
abbrev sI8 : Stmt := inClass (top 8) 0
theorem scI8 : FnScope ["self", "address"] ["self", "address"] (defScope sI8) := ⟨rfl, rfl, rfl, by decide +kernel, rfl, by decide +kernel, by decide +kernel⟩
theorem ok_I8 {f C B : Addr} {fd : FuncData} {mc : Value} (F : Fun K "__init__" "BadMany.__init__" sI8 f fd) (T : PIni K mg "PlanError" B mc) (xc : OexC K C) (no : PySem.W.findIn K (.ref C) "address" = some none) : FnOk P w K mg base CX0 1 f fd ["self", "address"] (spI C "address") := by
  refine F.ok scI8 (fun vs H Q E h => ?_) (fun cdv A outer s H vs Q E hr h => ?_)
  · obtain ⟨a, v, rfl, _⟩ := h
    rfl
  · obtain ⟨a, v, rfl, ha, k⟩ := h
    refine ⟨_, pss_cons (ps_expr (pe_pinit T rfl (pa_cons (pv 0) (pa_cons pe_str pa_nil)))) (pss_one (ps_ost (pv 0) (pv 1))), ?_⟩
    exact ⟨_, rfl, a, C, _, rfl, (by show 1 ≤ 1000; decide), xc, ha, _, rfl, _, rfl, a, C, rfl, xc, no, .inl ⟨ha, fun dx hd hne => k dx _ hd hne rfl⟩⟩
abbrev sI10 : Stmt := inClass (top 10) 0
theorem scI10 : FnScope ["self", "addresses"] ["self", "addresses"] (defScope sI10) := ⟨rfl, rfl, rfl, by decide +kernel, rfl, by decide +kernel, by decide +kernel⟩
theorem ok_I10 {f C B : Addr} {fd : FuncData} {mc : Value} (F : Fun K "__init__" "Refused.__init__" sI10 f fd) (T : PIni K mg "PlanError" B mc) (xc : OexC K C) (no : PySem.W.findIn K (.ref C) "addresses" = some none) : FnOk P w K mg base CX0 1 f fd ["self", "addresses"] (spI C "addresses") := by
  refine F.ok scI10 (fun vs H Q E h => ?_) (fun cdv A outer s H vs Q E hr h => ?_)
  · obtain ⟨a, v, rfl, _⟩ := h
    rfl
  · obtain ⟨a, v, rfl, ha, k⟩ := h
    refine ⟨_, pss_cons (ps_expr (pe_pinit T rfl (pa_cons (pv 0) (pa_cons pe_str pa_nil)))) (pss_one (ps_ost (pv 0) (pv 1))), ?_⟩
    exact ⟨_, rfl, a, C, _, rfl, (by show 1 ≤ 1000; decide), xc, ha, _, rfl, _, rfl, a, C, rfl, xc, no, .inl ⟨ha, fun dx hd hne => k dx _ hd hne rfl⟩⟩
abbrev sI11 : Stmt := inClass (top 11) 0
theorem scI11 : FnScope ["self", "steps"] ["self", "steps"] (defScope sI11) := ⟨rfl, rfl, rfl, by decide +kernel, rfl, by decide +kernel, by decide +kernel⟩
theorem ok_I11 {f C B : Addr} {fd : FuncData} {mc : Value} (F : Fun K "__init__" "Ring.__init__" sI11 f fd) (T : PIni K mg "PlanError" B mc) (xc : OexC K C) (no : PySem.W.findIn K (.ref C) "steps" = some none) : FnOk P w K mg base CX0 1 f fd ["self", "steps"] (spI C "steps") := by
  refine F.ok scI11 (fun vs H Q E h => ?_) (fun cdv A outer s H vs Q E hr h => ?_)
  · obtain ⟨a, v, rfl, _⟩ := h
    rfl
  · obtain ⟨a, v, rfl, ha, k⟩ := h
    refine ⟨_, pss_cons (ps_expr (pe_pinit T rfl (pa_cons (pv 0) (pa_cons pe_str pa_nil)))) (pss_one (ps_ost (pv 0) (pv 1))), ?_⟩
    exact ⟨_, rfl, a, C, _, rfl, (by show 1 ≤ 1000; decide), xc, ha, _, rfl, _, rfl, a, C, rfl, xc, no, .inl ⟨ha, fun dx hd hne => k dx _ hd hne rfl⟩⟩
abbrev sI12 : Stmt := inClass (top 12) 0
theorem scI12 : FnScope ["self", "tag"] ["self", "tag"] (defScope sI12) := ⟨rfl, rfl, rfl, by decide +kernel, rfl, by decide +kernel, by decide +kernel⟩
theorem ok_I12 {f C B : Addr} {fd : FuncData} {mc : Value} (F : Fun K "__init__" "Taken.__init__" sI12 f fd) (T : PIni K mg "PlanError" B mc) (xc : OexC K C) (no : PySem.W.findIn K (.ref C) "tag" = some none) : FnOk P w K mg base CX0 1 f fd ["self", "tag"] (spI C "tag") := by
  refine F.ok scI12 (fun vs H Q E h => ?_) (fun cdv A outer s H vs Q E hr h => ?_)
  · obtain ⟨a, v, rfl, _⟩ := h
    rfl
  · obtain ⟨a, v, rfl, ha, k⟩ := h
    refine ⟨_, pss_cons (ps_expr (pe_pinit T rfl (pa_cons (pv 0) (pa_cons pe_str pa_nil)))) (pss_one (ps_ost (pv 0) (pv 1))), ?_⟩
    exact ⟨_, rfl, a, C, _, rfl, (by show 1 ≤ 1000; decide), xc, ha, _, rfl, _, rfl, a, C, rfl, xc, no, .inl ⟨ha, fun dx hd hne => k dx _ hd hne rfl⟩⟩
abbrev sI13 : Stmt := inClass (top 13) 0
theorem scI13 : FnScope ["self", "tag"] ["self", "tag"] (defScope sI13) := ⟨rfl, rfl, rfl, by decide +kernel, rfl, by decide +kernel, by decide +kernel⟩
theorem ok_I13 {f C B : Addr} {fd : FuncData} {mc : Value} (F : Fun K "__init__" "Gone.__init__" sI13 f fd) (T : PIni K mg "PlanError" B mc) (xc : OexC K C) (no : PySem.W.findIn K (.ref C) "tag" = some none) : FnOk P w K mg base CX0 1 f fd ["self", "tag"] (spI C "tag") := by
  refine F.ok scI13 (fun vs H Q E h => ?_) (fun cdv A outer s H vs Q E hr h => ?_)
  · obtain ⟨a, v, rfl, _⟩ := h
    rfl
  · obtain ⟨a, v, rfl, ha, k⟩ := h
    refine ⟨_, pss_cons (ps_expr (pe_pinit T rfl (pa_cons (pv 0) (pa_cons pe_str pa_nil)))) (pss_one (ps_ost (pv 0) (pv 1))), ?_⟩
    exact ⟨_, rfl, a, C, _, rfl, (by show 1 ≤ 1000; decide), xc, ha, _, rfl, _, rfl, a, C, rfl, xc, no, .inl ⟨ha, fun dx hd hne => k dx _ hd hne rfl⟩⟩
abbrev sI14 : Stmt := inClass (top 14) 0
theorem scI14 : FnScope ["self", "tag"] ["self", "tag"] (defScope sI14) := ⟨rfl, rfl, rfl, by decide +kernel, rfl, by decide +kernel, by decide +kernel⟩
theorem ok_I14 {f C B : Addr} {fd : FuncData} {mc : Value} (F : Fun K "__init__" "InUse.__init__" sI14 f fd) (T : PIni K mg "PlanError" B mc) (xc : OexC K C) (no : PySem.W.findIn K (.ref C) "tag" = some none) : FnOk P w K mg base CX0 1 f fd ["self", "tag"] (spI C "tag") := by
  refine F.ok scI14 (fun vs H Q E h => ?_) (fun cdv A outer s H vs Q E hr h => ?_)
  · obtain ⟨a, v, rfl, _⟩ := h
    rfl
  · obtain ⟨a, v, rfl, ha, k⟩ := h
    refine ⟨_, pss_cons (ps_expr (pe_pinit T rfl (pa_cons (pv 0) (pa_cons pe_str pa_nil)))) (pss_one (ps_ost (pv 0) (pv 1))), ?_⟩
    exact ⟨_, rfl, a, C, _, rfl, (by show 1 ≤ 1000; decide), xc, ha, _, rfl, _, rfl, a, C, rfl, xc, no, .inl ⟨ha, fun dx hd hne => k dx _ hd hne rfl⟩⟩
abbrev sI15 : Stmt := inClass (top 15) 0
theorem scI15 : FnScope ["self", "address"] ["self", "address"] (defScope sI15) := ⟨rfl, rfl, rfl, by decide +kernel, rfl, by decide +kernel, by decide +kernel⟩
theorem ok_I15 {f C B : Addr} {fd : FuncData} {mc : Value} (F : Fun K "__init__" "Occupied.__init__" sI15 f fd) (T : PIni K mg "PlanError" B mc) (xc : OexC K C) (no : PySem.W.findIn K (.ref C) "address" = some none) : FnOk P w K mg base CX0 1 f fd ["self", "address"] (spI C "address") := by
  refine F.ok scI15 (fun vs H Q E h => ?_) (fun cdv A outer s H vs Q E hr h => ?_)
  · obtain ⟨a, v, rfl, _⟩ := h
    rfl
  · obtain ⟨a, v, rfl, ha, k⟩ := h
    refine ⟨_, pss_cons (ps_expr (pe_pinit T rfl (pa_cons (pv 0) (pa_cons pe_str pa_nil)))) (pss_one (ps_ost (pv 0) (pv 1))), ?_⟩
    exact ⟨_, rfl, a, C, _, rfl, (by show 1 ≤ 1000; decide), xc, ha, _, rfl, _, rfl, a, C, rfl, xc, no, .inl ⟨ha, fun dx hd hne => k dx _ hd hne rfl⟩⟩
abbrev sI16 : Stmt := inClass (top 16) 0
theorem scI16 : FnScope ["self", "address"] ["self", "address"] (defScope sI16) := ⟨rfl, rfl, rfl, by decide +kernel, rfl, by decide +kernel, by decide +kernel⟩
theorem ok_I16 {f C B : Addr} {fd : FuncData} {mc : Value} (F : Fun K "__init__" "Owned.__init__" sI16 f fd) (T : PIni K mg "PlanError" B mc) (xc : OexC K C) (no : PySem.W.findIn K (.ref C) "address" = some none) : FnOk P w K mg base CX0 1 f fd ["self", "address"] (spI C "address") := by
  refine F.ok scI16 (fun vs H Q E h => ?_) (fun cdv A outer s H vs Q E hr h => ?_)
  · obtain ⟨a, v, rfl, _⟩ := h
    rfl
  · obtain ⟨a, v, rfl, ha, k⟩ := h
    refine ⟨_, pss_cons (ps_expr (pe_pinit T rfl (pa_cons (pv 0) (pa_cons pe_str pa_nil)))) (pss_one (ps_ost (pv 0) (pv 1))), ?_⟩
    exact ⟨_, rfl, a, C, _, rfl, (by show 1 ≤ 1000; decide), xc, ha, _, rfl, _, rfl, a, C, rfl, xc, no, .inl ⟨ha, fun dx hd hne => k dx _ hd hne rfl⟩⟩
abbrev sI17 : Stmt := inClass (top 17) 0
theorem scI17 : FnScope ["self", "address"] ["self", "address"] (defScope sI17) := ⟨rfl, rfl, rfl, by decide +kernel, rfl, by decide +kernel, by decide +kernel⟩
theorem ok_I17 {f C B : Addr} {fd : FuncData} {mc : Value} (F : Fun K "__init__" "NotThere.__init__" sI17 f fd) (T : PIni K mg "PlanError" B mc) (xc : OexC K C) (no : PySem.W.findIn K (.ref C) "address" = some none) : FnOk P w K mg base CX0 1 f fd ["self", "address"] (spI C "address") := by
  refine F.ok scI17 (fun vs H Q E h => ?_) (fun cdv A outer s H vs Q E hr h => ?_)
  · obtain ⟨a, v, rfl, _⟩ := h
    rfl
  · obtain ⟨a, v, rfl, ha, k⟩ := h
    refine ⟨_, pss_cons (ps_expr (pe_pinit T rfl (pa_cons (pv 0) (pa_cons pe_str pa_nil)))) (pss_one (ps_ost (pv 0) (pv 1))), ?_⟩
    exact ⟨_, rfl, a, C, _, rfl, (by show 1 ≤ 1000; decide), xc, ha, _, rfl, _, rfl, a, C, rfl, xc, no, .inl ⟨ha, fun dx hd hne => k dx _ hd hne rfl⟩⟩
abbrev sI18 : Stmt := inClass (top 18) 0
theorem scI18 : FnScope ["self", "holder"] ["self", "holder"] (defScope sI18) := ⟨rfl, rfl, rfl, by decide +kernel, rfl, by decide +kernel, by decide +kernel⟩
theorem ok_I18 {f C B : Addr} {fd : FuncData} {mc : Value} (F : Fun K "__init__" "Locked.__init__" sI18 f fd) (T : PIni K mg "PlanError" B mc) (xc : OexC K C) (no : PySem.W.findIn K (.ref C) "holder" = some none) : FnOk P w K mg base CX0 1 f fd ["self", "holder"] (spI C "holder") := by
  refine F.ok scI18 (fun vs H Q E h => ?_) (fun cdv A outer s H vs Q E hr h => ?_)
  · obtain ⟨a, v, rfl, _⟩ := h
    rfl
  · obtain ⟨a, v, rfl, ha, k⟩ := h
    refine ⟨_, pss_cons (ps_expr (pe_pinit T rfl (pa_cons (pv 0) (pa_cons pe_str pa_nil)))) (pss_one (ps_ost (pv 0) (pv 1))), ?_⟩
    exact ⟨_, rfl, a, C, _, rfl, (by show 1 ≤ 1000; decide), xc, ha, _, rfl, _, rfl, a, C, rfl, xc, no, .inl ⟨ha, fun dx hd hne => k dx _ hd hne rfl⟩⟩
abbrev sI19 : Stmt := inClass (top 19) 0
theorem scI19 : FnScope ["self", "serial"] ["self", "serial"] (defScope sI19) := ⟨rfl, rfl, rfl, by decide +kernel, rfl, by decide +kernel, by decide +kernel⟩
theorem ok_I19 {f C B : Addr} {fd : FuncData} {mc : Value} (F : Fun K "__init__" "Stale.__init__" sI19 f fd) (T : PIni K mg "PlanError" B mc) (xc : OexC K C) (no : PySem.W.findIn K (.ref C) "serial" = some none) : FnOk P w K mg base CX0 1 f fd ["self", "serial"] (spI C "serial") := by
  refine F.ok scI19 (fun vs H Q E h => ?_) (fun cdv A outer s H vs Q E hr h => ?_)
  · obtain ⟨a, v, rfl, _⟩ := h
    rfl
  · obtain ⟨a, v, rfl, ha, k⟩ := h
    refine ⟨_, pss_cons (ps_expr (pe_pinit T rfl (pa_cons (pv 0) (pa_cons pe_str pa_nil)))) (pss_one (ps_ost (pv 0) (pv 1))), ?_⟩
    exact ⟨_, rfl, a, C, _, rfl, (by show 1 ≤ 1000; decide), xc, ha, _, rfl, _, rfl, a, C, rfl, xc, no, .inl ⟨ha, fun dx hd hne => k dx _ hd hne rfl⟩⟩
abbrev sI20 : Stmt := inClass (top 20) 0
theorem scI20 : FnScope ["self", "address"] ["self", "address"] (defScope sI20) := ⟨rfl, rfl, rfl, by decide +kernel, rfl, by decide +kernel, by decide +kernel⟩
theorem ok_I20 {f C B : Addr} {fd : FuncData} {mc : Value} (F : Fun K "__init__" "NotGeneric.__init__" sI20 f fd) (T : PIni K mg "PlanError" B mc) (xc : OexC K C) (no : PySem.W.findIn K (.ref C) "address" = some none) : FnOk P w K mg base CX0 1 f fd ["self", "address"] (spI C "address") := by
  refine F.ok scI20 (fun vs H Q E h => ?_) (fun cdv A outer s H vs Q E hr h => ?_)
  · obtain ⟨a, v, rfl, _⟩ := h
    rfl
  · obtain ⟨a, v, rfl, ha, k⟩ := h
    refine ⟨_, pss_cons (ps_expr (pe_pinit T rfl (pa_cons (pv 0) (pa_cons pe_str pa_nil)))) (pss_one (ps_ost (pv 0) (pv 1))), ?_⟩
    exact ⟨_, rfl, a, C, _, rfl, (by show 1 ≤ 1000; decide), xc, ha, _, rfl, _, rfl, a, C, rfl, xc, no, .inl ⟨ha, fun dx hd hne => k dx _ hd hne rfl⟩⟩
abbrev sI5 : Stmt := inClass (top 5) 0
theorem scI5 : FnScope ["self", "at", "why"] ["self", "at", "why"] (defScope sI5) := ⟨rfl, rfl, rfl, by decide +kernel, rfl, by decide +kernel, by decide +kernel⟩
theorem ok_I5 {f C B : Addr} {fd : FuncData} {mc : Value} (F : Fun K "__init__" "BadConfig.__init__" sI5 f fd) (T : PIni K mg "PlanError" B mc) (xc : OexC K C) (no1 : PySem.W.findIn K (.ref C) "at" = some none) (no2 : PySem.W.findIn K (.ref C) "why" = some none) : FnOk P w K mg base CX0 1 f fd ["self", "at", "why"] (spI2 C "at" "why") := by
  refine F.ok scI5 (fun vs H Q E h => ?_) (fun cdv A outer s H vs Q E hr h => ?_)
  · obtain ⟨a, v, u, rfl, _⟩ := h
    rfl
  · obtain ⟨a, v, u, rfl, ha, k⟩ := h
    refine ⟨_, pss_cons (ps_expr (pe_pinit T rfl (pa_cons (pv 0) (pa_cons pe_str pa_nil)))) (pss_cons (ps_ost (pv 0) (pv 1)) (pss_one (ps_ost (pv 0) (pv 2)))), ?_⟩
    refine ⟨_, rfl, a, C, _, rfl, (by show 1 ≤ 1000; decide), xc, ha, _, rfl, _, rfl, a, C, rfl, xc, no1, .inl ⟨ha, fun dx hd hne => ?_⟩⟩
    refine ⟨_, rfl, _, rfl, a, C, rfl, xc, no2, .inr ⟨dx, _, upd_same, by rw [upd_ne hne, upd_same], (by show 1 ≤ 900; decide), ?_⟩⟩
    refine k dx _ hd hne (fun b o z n => ?_) (by rw [upd_ne (Ne.symm hne), upd_same]) upd_same
    have n2 := ne_of_none z hd
    rw [upd_ne n2, upd_ne n, upd_ne n2]
    exact z
abbrev sI9 : Stmt := inClass (top 9) 0
theorem scI9 : FnScope ["self", "address", "attribute"] ["self", "address", "attribute"] (defScope sI9) := ⟨rfl, rfl, rfl, by decide +kernel, rfl, by decide +kernel, by decide +kernel⟩
theorem ok_I9 {f C B : Addr} {fd : FuncData} {mc : Value} (F : Fun K "__init__" "Lacking.__init__" sI9 f fd) (T : PIni K mg "PlanError" B mc) (xc : OexC K C) (no1 : PySem.W.findIn K (.ref C) "address" = some none) (no2 : PySem.W.findIn K (.ref C) "attribute" = some none) : FnOk P w K mg base CX0 1 f fd ["self", "address", "attribute"] (spI2 C "address" "attribute") := by
  refine F.ok scI9 (fun vs H Q E h => ?_) (fun cdv A outer s H vs Q E hr h => ?_)
  · obtain ⟨a, v, u, rfl, _⟩ := h
    rfl
  · obtain ⟨a, v, u, rfl, ha, k⟩ := h
    refine ⟨_, pss_cons (ps_expr (pe_pinit T rfl (pa_cons (pv 0) (pa_cons pe_str pa_nil)))) (pss_cons (ps_ost (pv 0) (pv 1)) (pss_one (ps_ost (pv 0) (pv 2)))), ?_⟩
    refine ⟨_, rfl, a, C, _, rfl, (by show 1 ≤ 1000; decide), xc, ha, _, rfl, _, rfl, a, C, rfl, xc, no1, .inl ⟨ha, fun dx hd hne => ?_⟩⟩
    refine ⟨_, rfl, _, rfl, a, C, rfl, xc, no2, .inr ⟨dx, _, upd_same, by rw [upd_ne hne, upd_same], (by show 1 ≤ 900; decide), ?_⟩⟩
    refine k dx _ hd hne (fun b o z n => ?_) (by rw [upd_ne (Ne.symm hne), upd_same]) upd_same
    have n2 := ne_of_none z hd
    rw [upd_ne n2, upd_ne n, upd_ne n2]
    exact z
theorem scF : FnScope ["_law_thing", "_law_one_here", "_law_two", "_law_three", "_law_four", "_law_found"] ["_law_thing"] (defScope sFirst) := ⟨rfl, rfl, rfl, by decide +kernel, rfl, by decide +kernel, by decide +kernel⟩
theorem ok_first {f CP : Addr} {fd : FuncData} {c2 f2 : Addr} {d2 : FuncData} {c3 f3 : Addr} {d3 : FuncData} {c4 f4 : Addr} {d4 : FuncData} {c6 f6 : Addr} {d6 : FuncData} {c7 f7 : Addr} {d7 : FuncData} {c8 f8 : Addr} {d8 : FuncData} {c10 f10 : Addr} {d10 : FuncData} {c11 f11 : Addr} {d11 : FuncData} (F : Fun K "_law_first" "_law_first" sFirst f fd) (N2 : New1 P w K mg base CP "Misfit" "expression" c2 f2 d2) (N3 : New1 P w K mg base CP "NoKind" "part" c3 f3 d3) (N4 : New1 P w K mg base CP "NoConfig" "at" c4 f4 d4) (N6 : New1 P w K mg base CP "NoValue" "param" c6 f6 d6) (N7 : New1 P w K mg base CP "Unsure" "address" c7 f7 d7) (N8 : New1 P w K mg base CP "BadMany" "address" c8 f8 d8) (N10 : New1 P w K mg base CP "Refused" "addresses" c10 f10 d10) (N11 : New1 P w K mg base CP "Ring" "steps" c11 f11 d11) : FnOk P w K mg base CX0 3 f fd ["_law_thing"] (spPart [c2, c3, c4, c6, c7, c8, c10, c11]) := by
  have sc := scF
  refine F.ok scF (fun vs H Q E h => ?_) (fun cdv A outer s H vs Q E hr h => ?_)
  · obtain ⟨v, rfl, _⟩ := h
    rfl
  · obtain ⟨v, rfl, k⟩ := h
    refine ⟨_, pss_cons (ps_asg (pe_tup (pa_cons (pe_newO N2.xc.oex N2.iC N2.tI N2.ok hr N2.b pass0 rfl N2.g (pa_cons (pv 0) pa_nil)) (pa_cons (pe_newO N3.xc.oex N3.iC N3.tI N3.ok hr N3.b pass0 rfl N3.g (pa_cons (pv 0) pa_nil)) (pa_cons (pe_newO N4.xc.oex N4.iC N4.tI N4.ok hr N4.b pass0 rfl N4.g (pa_cons (pv 0) pa_nil)) (pa_cons (pe_newO N6.xc.oex N6.iC N6.tI N6.ok hr N6.b pass0 rfl N6.g (pa_cons (pv 0) pa_nil)) pa_nil))))) (pg_tup rfl (pgs_cons (pg_name (i := 1) sc.nd rfl (Or.inl rfl)) (pgs_cons (pg_name (i := 2) sc.nd rfl (Or.inl rfl)) (pgs_cons (pg_name (i := 3) sc.nd rfl (Or.inl rfl)) (pgs_cons (pg_name (i := 4) sc.nd rfl (Or.inl rfl)) pgs_nil)))))) (pss_cons (ps_set (i := 5) sc.nd rfl (Or.inl rfl) (pe_lst (pa_cons (pe_tup (pa_cons (pv 1) (pa_cons (pe_xget (pv 1)) pa_nil))) (pa_cons (pe_tup (pa_cons (pv 2) (pa_cons (pe_xget (pv 2)) pa_nil))) (pa_cons (pe_tup (pa_cons (pv 3) (pa_cons (pe_xget (pv 3)) pa_nil))) (pa_cons (pe_tup (pa_cons (pv 4) (pa_cons (pe_xget (pv 4)) pa_nil))) pa_nil)))))) (pss_cons (ps_asg (pe_tup (pa_cons (pe_newO N7.xc.oex N7.iC N7.tI N7.ok hr N7.b pass0 rfl N7.g (pa_cons (pv 0) pa_nil)) (pa_cons (pe_newO N8.xc.oex N8.iC N8.tI N8.ok hr N8.b pass0 rfl N8.g (pa_cons (pv 0) pa_nil)) (pa_cons (pe_newO N10.xc.oex N10.iC N10.tI N10.ok hr N10.b pass0 rfl N10.g (pa_cons (pv 0) pa_nil)) (pa_cons (pe_newO N11.xc.oex N11.iC N11.tI N11.ok hr N11.b pass0 rfl N11.g (pa_cons (pv 0) pa_nil)) pa_nil))))) (pg_tup rfl (pgs_cons (pg_name (i := 1) sc.nd rfl (Or.inl rfl)) (pgs_cons (pg_name (i := 2) sc.nd rfl (Or.inl rfl)) (pgs_cons (pg_name (i := 3) sc.nd rfl (Or.inl rfl)) (pgs_cons (pg_name (i := 4) sc.nd rfl (Or.inl rfl)) pgs_nil)))))) (pss_one (ps_ret (pe_op op_cat (pv 5) (pe_lst (pa_cons (pe_tup (pa_cons (pv 1) (pa_cons (pe_xget (pv 1)) pa_nil))) (pa_cons (pe_tup (pa_cons (pv 2) (pa_cons (pe_xget (pv 2)) pa_nil))) (pa_cons (pe_tup (pa_cons (pv 3) (pa_cons (pe_xget (pv 3)) pa_nil))) (pa_cons (pe_tup (pa_cons (pv 4) (pa_cons (pe_xget (pv 4)) pa_nil))) pa_nil)))))))))), ?_⟩
    refine rd_new (by rfl) fun e2 H2 m2 r2 => ?_
    refine rd_new (by rfl) fun e3 H3 m3 r3 => ?_
    replace r2 := r2.same m3
    refine rd_new (by rfl) fun e4 H4 m4 r4 => ?_
    replace r2 := r2.same m4
    replace r3 := r3.same m4
    refine rd_new (by rfl) fun e6 H6 m6 r6 => ?_
    replace r2 := r2.same m6
    replace r3 := r3.same m6
    replace r4 := r4.same m6
    refine ⟨(by show 4 ≤ sizeLine; decide), fun pA hpA => ⟨pA, _, rfl, SqT.of upd_same, rfl, _, _, rfl, _, _, rfl, _, _, rfl, _, _, rfl, rfl, ?_⟩⟩
    replace r2 := r2.same (same_new (o := .tup [.ref e2, .ref e3, .ref e4, .ref e6]) hpA)
    replace r3 := r3.same (same_new (o := .tup [.ref e2, .ref e3, .ref e4, .ref e6]) hpA)
    replace r4 := r4.same (same_new (o := .tup [.ref e2, .ref e3, .ref e4, .ref e6]) hpA)
    replace r6 := r6.same (same_new (o := .tup [.ref e2, .ref e3, .ref e4, .ref e6]) hpA)
    have wA := ((((m2).trans m3).trans m4).trans m6).trans (same_new (o := .tup [.ref e2, .ref e3, .ref e4, .ref e6]) hpA)
    refine ⟨_, rfl, rd_xget (by rfl) N2.xc.xf N2.no r2 ⟨(by show 2 ≤ sizeLine; decide), fun t2 ht2 => ?_⟩⟩
    have n2 := same_new (o := .tup [.ref e2, v]) ht2
    have l2 := line_of r2 ht2
    replace r3 := r3.same n2
    replace r4 := r4.same n2
    replace r6 := r6.same n2
    refine ⟨_, rfl, rd_xget (by rfl) N3.xc.xf N3.no r3 ⟨(by show 2 ≤ sizeLine; decide), fun t3 ht3 => ?_⟩⟩
    have n3 := same_new (o := .tup [.ref e3, v]) ht3
    have l3 := line_of r3 ht3
    replace l2 := l2.same n3
    replace r4 := r4.same n3
    replace r6 := r6.same n3
    refine ⟨_, rfl, rd_xget (by rfl) N4.xc.xf N4.no r4 ⟨(by show 2 ≤ sizeLine; decide), fun t4 ht4 => ?_⟩⟩
    have n4 := same_new (o := .tup [.ref e4, v]) ht4
    have l4 := line_of r4 ht4
    replace l2 := l2.same n4
    replace l3 := l3.same n4
    replace r6 := r6.same n4
    refine ⟨_, rfl, rd_xget (by rfl) N6.xc.xf N6.no r6 ⟨(by show 2 ≤ sizeLine; decide), fun t6 ht6 => ?_⟩⟩
    have n6 := same_new (o := .tup [.ref e6, v]) ht6
    have l6 := line_of r6 ht6
    replace l2 := l2.same n6
    replace l3 := l3.same n6
    replace l4 := l4.same n6
    refine ⟨(by show 4 ≤ sizeLine; decide), fun qA hqA => ?_⟩
    replace l2 := l2.same (same_new (o := .lst [.ref t2, .ref t3, .ref t4, .ref t6]) hqA)
    replace l3 := l3.same (same_new (o := .lst [.ref t2, .ref t3, .ref t4, .ref t6]) hqA)
    replace l4 := l4.same (same_new (o := .lst [.ref t2, .ref t3, .ref t4, .ref t6]) hqA)
    replace l6 := l6.same (same_new (o := .lst [.ref t2, .ref t3, .ref t4, .ref t6]) hqA)
    have vA := ((((n2).trans n3).trans n4).trans n6).trans (same_new (o := .lst [.ref t2, .ref t3, .ref t4, .ref t6]) hqA)
    have fA := at_new (o := .lst [.ref t2, .ref t3, .ref t4, .ref t6]) hqA
    have sA := wA.trans vA
    have LA := (line4 l2 l3 l4 l6)
    refine rd_new (by rfl) fun e7 H7 m7 r7 => ?_
    refine rd_new (by rfl) fun e8 H8 m8 r8 => ?_
    replace r7 := r7.same m8
    refine rd_new (by rfl) fun e10 H10 m10 r10 => ?_
    replace r7 := r7.same m10
    replace r8 := r8.same m10
    refine rd_new (by rfl) fun e11 H11 m11 r11 => ?_
    replace r7 := r7.same m11
    replace r8 := r8.same m11
    replace r10 := r10.same m11
    refine ⟨(by show 4 ≤ sizeLine; decide), fun pB hpB => ⟨pB, _, rfl, SqT.of upd_same, rfl, _, _, rfl, _, _, rfl, _, _, rfl, _, _, rfl, rfl, ?_⟩⟩
    replace r7 := r7.same (same_new (o := .tup [.ref e7, .ref e8, .ref e10, .ref e11]) hpB)
    replace r8 := r8.same (same_new (o := .tup [.ref e7, .ref e8, .ref e10, .ref e11]) hpB)
    replace r10 := r10.same (same_new (o := .tup [.ref e7, .ref e8, .ref e10, .ref e11]) hpB)
    replace r11 := r11.same (same_new (o := .tup [.ref e7, .ref e8, .ref e10, .ref e11]) hpB)
    have wB := ((((m7).trans m8).trans m10).trans m11).trans (same_new (o := .tup [.ref e7, .ref e8, .ref e10, .ref e11]) hpB)
    refine ⟨_, rfl, ?_⟩
    refine ⟨_, rfl, rd_xget (by rfl) N7.xc.xf N7.no r7 ⟨(by show 2 ≤ sizeLine; decide), fun t7 ht7 => ?_⟩⟩
    have n7 := same_new (o := .tup [.ref e7, v]) ht7
    have l7 := line_of r7 ht7
    replace r8 := r8.same n7
    replace r10 := r10.same n7
    replace r11 := r11.same n7
    refine ⟨_, rfl, rd_xget (by rfl) N8.xc.xf N8.no r8 ⟨(by show 2 ≤ sizeLine; decide), fun t8 ht8 => ?_⟩⟩
    have n8 := same_new (o := .tup [.ref e8, v]) ht8
    have l8 := line_of r8 ht8
    replace l7 := l7.same n8
    replace r10 := r10.same n8
    replace r11 := r11.same n8
    refine ⟨_, rfl, rd_xget (by rfl) N10.xc.xf N10.no r10 ⟨(by show 2 ≤ sizeLine; decide), fun t10 ht10 => ?_⟩⟩
    have n10 := same_new (o := .tup [.ref e10, v]) ht10
    have l10 := line_of r10 ht10
    replace l7 := l7.same n10
    replace l8 := l8.same n10
    replace r11 := r11.same n10
    refine ⟨_, rfl, rd_xget (by rfl) N11.xc.xf N11.no r11 ⟨(by show 2 ≤ sizeLine; decide), fun t11 ht11 => ?_⟩⟩
    have n11 := same_new (o := .tup [.ref e11, v]) ht11
    have l11 := line_of r11 ht11
    replace l7 := l7.same n11
    replace l8 := l8.same n11
    replace l10 := l10.same n11
    refine ⟨(by show 4 ≤ sizeLine; decide), fun qB hqB => ?_⟩
    replace l7 := l7.same (same_new (o := .lst [.ref t7, .ref t8, .ref t10, .ref t11]) hqB)
    replace l8 := l8.same (same_new (o := .lst [.ref t7, .ref t8, .ref t10, .ref t11]) hqB)
    replace l10 := l10.same (same_new (o := .lst [.ref t7, .ref t8, .ref t10, .ref t11]) hqB)
    replace l11 := l11.same (same_new (o := .lst [.ref t7, .ref t8, .ref t10, .ref t11]) hqB)
    have vB := ((((n7).trans n8).trans n10).trans n11).trans (same_new (o := .lst [.ref t7, .ref t8, .ref t10, .ref t11]) hqB)
    have fB := vB _ _ (wB _ _ fA)
    refine ⟨qA, qB, _, _, rfl, rfl, fB, upd_same, (by show 4 + 4 ≤ sizeLine; decide), fun pp hpp => ?_⟩
    have z := same_new (o := .lst ([.ref t2, .ref t3, .ref t4, .ref t6] ++ [.ref t7, .ref t8, .ref t10, .ref t11])) hpp
    refine k pp _ _ ((sA.trans wB).trans (vB.trans z)) upd_same ?_
    exact ((LA.same wB).same (vB.trans z)).append (Lines.same (line4 l7 l8 l10 l11) z)
theorem scOt : FnScope ["_law_thing", "_law_one_here", "_law_two", "_law_three", "_law_four", "_law_found"] ["_law_thing"] (defScope sOthers) := ⟨rfl, rfl, rfl, by decide +kernel, rfl, by decide +kernel, by decide +kernel⟩
theorem ok_others {f CP : Addr} {fd : FuncData} {c12 f12 : Addr} {d12 : FuncData} {c13 f13 : Addr} {d13 : FuncData} {c14 f14 : Addr} {d14 : FuncData} {c15 f15 : Addr} {d15 : FuncData} {c16 f16 : Addr} {d16 : FuncData} {c17 f17 : Addr} {d17 : FuncData} {c18 f18 : Addr} {d18 : FuncData} {c19 f19 : Addr} {d19 : FuncData} {c20 f20 : Addr} {d20 : FuncData} (F : Fun K "_law_others" "_law_others" sOthers f fd) (N12 : New1 P w K mg base CP "Taken" "tag" c12 f12 d12) (N13 : New1 P w K mg base CP "Gone" "tag" c13 f13 d13) (N14 : New1 P w K mg base CP "InUse" "tag" c14 f14 d14) (N15 : New1 P w K mg base CP "Occupied" "address" c15 f15 d15) (N16 : New1 P w K mg base CP "Owned" "address" c16 f16 d16) (N17 : New1 P w K mg base CP "NotThere" "address" c17 f17 d17) (N18 : New1 P w K mg base CP "Locked" "holder" c18 f18 d18) (N19 : New1 P w K mg base CP "Stale" "serial" c19 f19 d19) (N20 : New1 P w K mg base CP "NotGeneric" "address" c20 f20 d20) : FnOk P w K mg base CX0 3 f fd ["_law_thing"] (spPart [c12, c13, c14, c15, c16, c17, c18, c19, c20]) := by
  have sc := scOt
  refine F.ok scOt (fun vs H Q E h => ?_) (fun cdv A outer s H vs Q E hr h => ?_)
  · obtain ⟨v, rfl, _⟩ := h
    rfl
  · obtain ⟨v, rfl, k⟩ := h
    refine ⟨_, pss_cons (ps_asg (pe_tup (pa_cons (pe_newO N12.xc.oex N12.iC N12.tI N12.ok hr N12.b pass0 rfl N12.g (pa_cons (pv 0) pa_nil)) (pa_cons (pe_newO N13.xc.oex N13.iC N13.tI N13.ok hr N13.b pass0 rfl N13.g (pa_cons (pv 0) pa_nil)) (pa_cons (pe_newO N14.xc.oex N14.iC N14.tI N14.ok hr N14.b pass0 rfl N14.g (pa_cons (pv 0) pa_nil)) (pa_cons (pe_newO N15.xc.oex N15.iC N15.tI N15.ok hr N15.b pass0 rfl N15.g (pa_cons (pv 0) pa_nil)) pa_nil))))) (pg_tup rfl (pgs_cons (pg_name (i := 1) sc.nd rfl (Or.inl rfl)) (pgs_cons (pg_name (i := 2) sc.nd rfl (Or.inl rfl)) (pgs_cons (pg_name (i := 3) sc.nd rfl (Or.inl rfl)) (pgs_cons (pg_name (i := 4) sc.nd rfl (Or.inl rfl)) pgs_nil)))))) (pss_cons (ps_set (i := 5) sc.nd rfl (Or.inl rfl) (pe_lst (pa_cons (pe_tup (pa_cons (pv 1) (pa_cons (pe_xget (pv 1)) pa_nil))) (pa_cons (pe_tup (pa_cons (pv 2) (pa_cons (pe_xget (pv 2)) pa_nil))) (pa_cons (pe_tup (pa_cons (pv 3) (pa_cons (pe_xget (pv 3)) pa_nil))) (pa_cons (pe_tup (pa_cons (pv 4) (pa_cons (pe_xget (pv 4)) pa_nil))) pa_nil)))))) (pss_cons (ps_asg (pe_tup (pa_cons (pe_newO N16.xc.oex N16.iC N16.tI N16.ok hr N16.b pass0 rfl N16.g (pa_cons (pv 0) pa_nil)) (pa_cons (pe_newO N17.xc.oex N17.iC N17.tI N17.ok hr N17.b pass0 rfl N17.g (pa_cons (pv 0) pa_nil)) (pa_cons (pe_newO N18.xc.oex N18.iC N18.tI N18.ok hr N18.b pass0 rfl N18.g (pa_cons (pv 0) pa_nil)) (pa_cons (pe_newO N19.xc.oex N19.iC N19.tI N19.ok hr N19.b pass0 rfl N19.g (pa_cons (pv 0) pa_nil)) pa_nil))))) (pg_tup rfl (pgs_cons (pg_name (i := 1) sc.nd rfl (Or.inl rfl)) (pgs_cons (pg_name (i := 2) sc.nd rfl (Or.inl rfl)) (pgs_cons (pg_name (i := 3) sc.nd rfl (Or.inl rfl)) (pgs_cons (pg_name (i := 4) sc.nd rfl (Or.inl rfl)) pgs_nil)))))) (pss_cons (ps_set (i := 5) sc.nd rfl (Or.inl rfl) (pe_op op_cat (pv 5) (pe_lst (pa_cons (pe_tup (pa_cons (pv 1) (pa_cons (pe_xget (pv 1)) pa_nil))) (pa_cons (pe_tup (pa_cons (pv 2) (pa_cons (pe_xget (pv 2)) pa_nil))) (pa_cons (pe_tup (pa_cons (pv 3) (pa_cons (pe_xget (pv 3)) pa_nil))) (pa_cons (pe_tup (pa_cons (pv 4) (pa_cons (pe_xget (pv 4)) pa_nil))) pa_nil)))))))
      (pss_cons (ps_set (i := 1) sc.nd rfl (Or.inl rfl) (pe_newO N20.xc.oex N20.iC N20.tI N20.ok hr N20.b pass0 rfl N20.g (pa_cons (pv 0) pa_nil))) (pss_one (ps_ret (pe_op op_cat (pv 5) (pe_lst (pa_cons (pe_tup (pa_cons (pv 1) (pa_cons (pe_xget (pv 1)) pa_nil))) pa_nil))))))))), ?_⟩
    refine rd_new (by rfl) fun e12 H12 m12 r12 => ?_
    refine rd_new (by rfl) fun e13 H13 m13 r13 => ?_
    replace r12 := r12.same m13
    refine rd_new (by rfl) fun e14 H14 m14 r14 => ?_
    replace r12 := r12.same m14
    replace r13 := r13.same m14
    refine rd_new (by rfl) fun e15 H15 m15 r15 => ?_
    replace r12 := r12.same m15
    replace r13 := r13.same m15
    replace r14 := r14.same m15
    refine ⟨(by show 4 ≤ sizeLine; decide), fun pA hpA => ⟨pA, _, rfl, SqT.of upd_same, rfl, _, _, rfl, _, _, rfl, _, _, rfl, _, _, rfl, rfl, ?_⟩⟩
    replace r12 := r12.same (same_new (o := .tup [.ref e12, .ref e13, .ref e14, .ref e15]) hpA)
    replace r13 := r13.same (same_new (o := .tup [.ref e12, .ref e13, .ref e14, .ref e15]) hpA)
    replace r14 := r14.same (same_new (o := .tup [.ref e12, .ref e13, .ref e14, .ref e15]) hpA)
    replace r15 := r15.same (same_new (o := .tup [.ref e12, .ref e13, .ref e14, .ref e15]) hpA)
    have wA := ((((m12).trans m13).trans m14).trans m15).trans (same_new (o := .tup [.ref e12, .ref e13, .ref e14, .ref e15]) hpA)
    refine ⟨_, rfl, rd_xget (by rfl) N12.xc.xf N12.no r12 ⟨(by show 2 ≤ sizeLine; decide), fun t12 ht12 => ?_⟩⟩
    have n12 := same_new (o := .tup [.ref e12, v]) ht12
    have l12 := line_of r12 ht12
    replace r13 := r13.same n12
    replace r14 := r14.same n12
    replace r15 := r15.same n12
    refine ⟨_, rfl, rd_xget (by rfl) N13.xc.xf N13.no r13 ⟨(by show 2 ≤ sizeLine; decide), fun t13 ht13 => ?_⟩⟩
    have n13 := same_new (o := .tup [.ref e13, v]) ht13
    have l13 := line_of r13 ht13
    replace l12 := l12.same n13
    replace r14 := r14.same n13
    replace r15 := r15.same n13
    refine ⟨_, rfl, rd_xget (by rfl) N14.xc.xf N14.no r14 ⟨(by show 2 ≤ sizeLine; decide), fun t14 ht14 => ?_⟩⟩
    have n14 := same_new (o := .tup [.ref e14, v]) ht14
    have l14 := line_of r14 ht14
    replace l12 := l12.same n14
    replace l13 := l13.same n14
    replace r15 := r15.same n14
    refine ⟨_, rfl, rd_xget (by rfl) N15.xc.xf N15.no r15 ⟨(by show 2 ≤ sizeLine; decide), fun t15 ht15 => ?_⟩⟩
    have n15 := same_new (o := .tup [.ref e15, v]) ht15
    have l15 := line_of r15 ht15
    replace l12 := l12.same n15
    replace l13 := l13.same n15
    replace l14 := l14.same n15
    refine ⟨(by show 4 ≤ sizeLine; decide), fun qA hqA => ?_⟩
    replace l12 := l12.same (same_new (o := .lst [.ref t12, .ref t13, .ref t14, .ref t15]) hqA)
    replace l13 := l13.same (same_new (o := .lst [.ref t12, .ref t13, .ref t14, .ref t15]) hqA)
    replace l14 := l14.same (same_new (o := .lst [.ref t12, .ref t13, .ref t14, .ref t15]) hqA)
    replace l15 := l15.same (same_new (o := .lst [.ref t12, .ref t13, .ref t14, .ref t15]) hqA)
    have vA := ((((n12).trans n13).trans n14).trans n15).trans (same_new (o := .lst [.ref t12, .ref t13, .ref t14, .ref t15]) hqA)
    have fA := at_new (o := .lst [.ref t12, .ref t13, .ref t14, .ref t15]) hqA
    have sA := wA.trans vA
    have LA := (line4 l12 l13 l14 l15)
    refine rd_new (by rfl) fun e16 H16 m16 r16 => ?_
    refine rd_new (by rfl) fun e17 H17 m17 r17 => ?_
    replace r16 := r16.same m17
    refine rd_new (by rfl) fun e18 H18 m18 r18 => ?_
    replace r16 := r16.same m18
    replace r17 := r17.same m18
    refine rd_new (by rfl) fun e19 H19 m19 r19 => ?_
    replace r16 := r16.same m19
    replace r17 := r17.same m19
    replace r18 := r18.same m19
    refine ⟨(by show 4 ≤ sizeLine; decide), fun pB hpB => ⟨pB, _, rfl, SqT.of upd_same, rfl, _, _, rfl, _, _, rfl, _, _, rfl, _, _, rfl, rfl, ?_⟩⟩
    replace r16 := r16.same (same_new (o := .tup [.ref e16, .ref e17, .ref e18, .ref e19]) hpB)
    replace r17 := r17.same (same_new (o := .tup [.ref e16, .ref e17, .ref e18, .ref e19]) hpB)
    replace r18 := r18.same (same_new (o := .tup [.ref e16, .ref e17, .ref e18, .ref e19]) hpB)
    replace r19 := r19.same (same_new (o := .tup [.ref e16, .ref e17, .ref e18, .ref e19]) hpB)
    have wB := ((((m16).trans m17).trans m18).trans m19).trans (same_new (o := .tup [.ref e16, .ref e17, .ref e18, .ref e19]) hpB)
    refine ⟨_, rfl, ?_⟩
    refine ⟨_, rfl, rd_xget (by rfl) N16.xc.xf N16.no r16 ⟨(by show 2 ≤ sizeLine; decide), fun t16 ht16 => ?_⟩⟩
    have n16 := same_new (o := .tup [.ref e16, v]) ht16
    have l16 := line_of r16 ht16
    replace r17 := r17.same n16
    replace r18 := r18.same n16
    replace r19 := r19.same n16
    refine ⟨_, rfl, rd_xget (by rfl) N17.xc.xf N17.no r17 ⟨(by show 2 ≤ sizeLine; decide), fun t17 ht17 => ?_⟩⟩
    have n17 := same_new (o := .tup [.ref e17, v]) ht17
    have l17 := line_of r17 ht17
    replace l16 := l16.same n17
    replace r18 := r18.same n17
    replace r19 := r19.same n17
    refine ⟨_, rfl, rd_xget (by rfl) N18.xc.xf N18.no r18 ⟨(by show 2 ≤ sizeLine; decide), fun t18 ht18 => ?_⟩⟩
    have n18 := same_new (o := .tup [.ref e18, v]) ht18
    have l18 := line_of r18 ht18
    replace l16 := l16.same n18
    replace l17 := l17.same n18
    replace r19 := r19.same n18
    refine ⟨_, rfl, rd_xget (by rfl) N19.xc.xf N19.no r19 ⟨(by show 2 ≤ sizeLine; decide), fun t19 ht19 => ?_⟩⟩
    have n19 := same_new (o := .tup [.ref e19, v]) ht19
    have l19 := line_of r19 ht19
    replace l16 := l16.same n19
    replace l17 := l17.same n19
    replace l18 := l18.same n19
    refine ⟨(by show 4 ≤ sizeLine; decide), fun qB hqB => ?_⟩
    replace l16 := l16.same (same_new (o := .lst [.ref t16, .ref t17, .ref t18, .ref t19]) hqB)
    replace l17 := l17.same (same_new (o := .lst [.ref t16, .ref t17, .ref t18, .ref t19]) hqB)
    replace l18 := l18.same (same_new (o := .lst [.ref t16, .ref t17, .ref t18, .ref t19]) hqB)
    replace l19 := l19.same (same_new (o := .lst [.ref t16, .ref t17, .ref t18, .ref t19]) hqB)
    have vB := ((((n16).trans n17).trans n18).trans n19).trans (same_new (o := .lst [.ref t16, .ref t17, .ref t18, .ref t19]) hqB)
    have fB := vB _ _ (wB _ _ fA)
    refine ⟨qA, qB, _, _, rfl, rfl, fB, upd_same, (by show 4 + 4 ≤ sizeLine; decide), fun pp hpp => ?_⟩
    have z := same_new (o := .lst ([.ref t12, .ref t13, .ref t14, .ref t15] ++ [.ref t16, .ref t17, .ref t18, .ref t19])) hpp
    have sB := (sA.trans wB).trans (vB.trans z)
    have LB := ((LA.same wB).same (vB.trans z)).append (Lines.same (line4 l16 l17 l18 l19) z)
    have fC := at_new (o := .lst ([.ref t12, .ref t13, .ref t14, .ref t15] ++ [.ref t16, .ref t17, .ref t18, .ref t19])) hpp
    refine rd_new (by rfl) fun e20 H20 m20 r20 => ?_
    refine ⟨_, rfl, ?_⟩
    refine ⟨_, rfl, rd_xget (by rfl) N20.xc.xf N20.no r20 ⟨(by show 2 ≤ sizeLine; decide), fun t20 ht20 => ?_⟩⟩
    have n20 := same_new (o := .tup [.ref e20, v]) ht20
    have l20 := line_of r20 ht20
    refine ⟨(by show 1 ≤ sizeLine; decide), fun qC hqC => ?_⟩
    replace l20 := l20.same (same_new (o := .lst [.ref t20]) hqC)
    have vC := (n20).trans (same_new (o := .lst [.ref t20]) hqC)
    refine ⟨pp, qC, _, _, rfl, rfl, vC _ _ (m20 _ _ fC), upd_same, (by show 8 + 1 ≤ sizeLine; decide), fun pq hpq => ?_⟩
    have y := same_new (o := .lst (([.ref t12, .ref t13, .ref t14, .ref t15] ++ [.ref t16, .ref t17, .ref t18, .ref t19]) ++ [.ref t20])) hpq
    refine k pq _ _ ((sB.trans m20).trans (vC.trans y)) upd_same ?_
    exact ((LB.same m20).same (vC.trans y)).append (Lines.same (line1 l20) y)
theorem scK : FnScope ["_law_error", "_law_found"] ["_law_error"] (defScope sKinds) := ⟨rfl, rfl, rfl, by decide +kernel, rfl, by decide +kernel, by decide +kernel⟩
theorem ok_kinds {f k0 k1 k2 k3 k4 k5 k6 k7 k8 k9 k10 k11 k12 k13 k14 k15 k16 k17 k18 k19 k20 : Addr} {fd : FuncData} (F : Fun K "_law_kinds" "_law_kinds" sKinds f fd) (mi : mg "isinstance" = none) (g0 : mg "Misfit" = some (.ref k0)) (g1 : mg "NoKind" = some (.ref k1)) (g2 : mg "NoConfig" = some (.ref k2)) (g3 : mg "NoValue" = some (.ref k3)) (g4 : mg "Unsure" = some (.ref k4)) (g5 : mg "BadMany" = some (.ref k5)) (g6 : mg "Refused" = some (.ref k6)) (g7 : mg "Ring" = some (.ref k7)) (g8 : mg "Taken" = some (.ref k8)) (g9 : mg "Gone" = some (.ref k9)) (g10 : mg "InUse" = some (.ref k10)) (g11 : mg "Occupied" = some (.ref k11)) (g12 : mg "Owned" = some (.ref k12)) (g13 : mg "NotThere" = some (.ref k13)) (g14 : mg "Locked" = some (.ref k14)) (g15 : mg "Stale" = some (.ref k15)) (g16 : mg "NotGeneric" = some (.ref k16)) (g17 : mg "BadConfig" = some (.ref k17)) (g18 : mg "Lacking" = some (.ref k18)) (g19 : mg "BadOrder" = some (.ref k19)) (g20 : mg "BadSteps" = some (.ref k20)) : FnOk P w K mg base CX0 1 f fd ["_law_error"] (spKinds K [k0, k1, k2, k3, k4, k5, k6, k7, k8, k9, k10, k11, k12, k13, k14, k15, k16, k17, k18, k19, k20]) := by
  refine F.ok scK (fun vs H Q E h => ?_) (fun cdv A outer s H vs Q E hr h => ?_)
  · obtain ⟨e, C, b, rfl, _⟩ := h
    rfl
  · obtain ⟨e, C, b, rfl, ev, ec, hk, k⟩ := h
    refine ⟨_, pss_cons (ps_set (i := 1) scK.nd rfl (Or.inl rfl) (pe_lst (pa_cons (pe_callB call_isX (by rfl) mi (by decide +kernel) (pa_cons (pv 0) (pa_cons (pe_glob (v := .ref k0) rfl g0 rfl) pa_nil))) (pa_cons (pe_callB call_isX (by rfl) mi (by decide +kernel) (pa_cons (pv 0) (pa_cons (pe_glob (v := .ref k1) rfl g1 rfl) pa_nil))) (pa_cons (pe_callB call_isX (by rfl) mi (by decide +kernel) (pa_cons (pv 0) (pa_cons (pe_glob (v := .ref k2) rfl g2 rfl) pa_nil))) pa_nil)))))
      (pss_cons (ps_set (i := 1) scK.nd rfl (Or.inl rfl) (pe_op op_cat (pv 1) (pe_lst (pa_cons (pe_callB call_isX (by rfl) mi (by decide +kernel) (pa_cons (pv 0) (pa_cons (pe_glob (v := .ref k3) rfl g3 rfl) pa_nil))) (pa_cons (pe_callB call_isX (by rfl) mi (by decide +kernel) (pa_cons (pv 0) (pa_cons (pe_glob (v := .ref k4) rfl g4 rfl) pa_nil))) (pa_cons (pe_callB call_isX (by rfl) mi (by decide +kernel) (pa_cons (pv 0) (pa_cons (pe_glob (v := .ref k5) rfl g5 rfl) pa_nil))) pa_nil))))))
      (pss_cons (ps_set (i := 1) scK.nd rfl (Or.inl rfl) (pe_op op_cat (pv 1) (pe_lst (pa_cons (pe_callB call_isX (by rfl) mi (by decide +kernel) (pa_cons (pv 0) (pa_cons (pe_glob (v := .ref k6) rfl g6 rfl) pa_nil))) (pa_cons (pe_callB call_isX (by rfl) mi (by decide +kernel) (pa_cons (pv 0) (pa_cons (pe_glob (v := .ref k7) rfl g7 rfl) pa_nil))) (pa_cons (pe_callB call_isX (by rfl) mi (by decide +kernel) (pa_cons (pv 0) (pa_cons (pe_glob (v := .ref k8) rfl g8 rfl) pa_nil))) pa_nil))))))
      (pss_cons (ps_set (i := 1) scK.nd rfl (Or.inl rfl) (pe_op op_cat (pv 1) (pe_lst (pa_cons (pe_callB call_isX (by rfl) mi (by decide +kernel) (pa_cons (pv 0) (pa_cons (pe_glob (v := .ref k9) rfl g9 rfl) pa_nil))) (pa_cons (pe_callB call_isX (by rfl) mi (by decide +kernel) (pa_cons (pv 0) (pa_cons (pe_glob (v := .ref k10) rfl g10 rfl) pa_nil))) (pa_cons (pe_callB call_isX (by rfl) mi (by decide +kernel) (pa_cons (pv 0) (pa_cons (pe_glob (v := .ref k11) rfl g11 rfl) pa_nil))) pa_nil))))))
      (pss_cons (ps_set (i := 1) scK.nd rfl (Or.inl rfl) (pe_op op_cat (pv 1) (pe_lst (pa_cons (pe_callB call_isX (by rfl) mi (by decide +kernel) (pa_cons (pv 0) (pa_cons (pe_glob (v := .ref k12) rfl g12 rfl) pa_nil))) (pa_cons (pe_callB call_isX (by rfl) mi (by decide +kernel) (pa_cons (pv 0) (pa_cons (pe_glob (v := .ref k13) rfl g13 rfl) pa_nil))) (pa_cons (pe_callB call_isX (by rfl) mi (by decide +kernel) (pa_cons (pv 0) (pa_cons (pe_glob (v := .ref k14) rfl g14 rfl) pa_nil))) pa_nil))))))
      (pss_cons (ps_set (i := 1) scK.nd rfl (Or.inl rfl) (pe_op op_cat (pv 1) (pe_lst (pa_cons (pe_callB call_isX (by rfl) mi (by decide +kernel) (pa_cons (pv 0) (pa_cons (pe_glob (v := .ref k15) rfl g15 rfl) pa_nil))) (pa_cons (pe_callB call_isX (by rfl) mi (by decide +kernel) (pa_cons (pv 0) (pa_cons (pe_glob (v := .ref k16) rfl g16 rfl) pa_nil))) (pa_cons (pe_callB call_isX (by rfl) mi (by decide +kernel) (pa_cons (pv 0) (pa_cons (pe_glob (v := .ref k17) rfl g17 rfl) pa_nil))) pa_nil))))))
      (pss_one (ps_ret (pe_op op_cat (pv 1) (pe_lst (pa_cons (pe_callB call_isX (by rfl) mi (by decide +kernel) (pa_cons (pv 0) (pa_cons (pe_glob (v := .ref k18) rfl g18 rfl) pa_nil))) (pa_cons (pe_callB call_isX (by rfl) mi (by decide +kernel) (pa_cons (pv 0) (pa_cons (pe_glob (v := .ref k19) rfl g19 rfl) pa_nil))) (pa_cons (pe_callB call_isX (by rfl) mi (by decide +kernel) (pa_cons (pv 0) (pa_cons (pe_glob (v := .ref k20) rfl g20 rfl) pa_nil))) pa_nil)))))))))))), ?_⟩
    refine ⟨_, rfl, e, C, _, _, b 0, rfl, ev, ec, .own _, hk 0 _ rfl, _, rfl, e, C, _, _, b 1, rfl, ev, ec, .own _, hk 1 _ rfl, _, rfl, e, C, _, _, b 2, rfl, ev, ec, .own _, hk 2 _ rfl, (by show 3 ≤ sizeLine; decide), fun p0 h0 => ?_⟩
    have s0 := same_new (o := .lst [.bl (b 0), .bl (b 1), .bl (b 2)]) h0
    have f0 : (upd H p0 (.lst [.bl (b 0), .bl (b 1), .bl (b 2)])) p0 = some (.lst [.bl (b 0), .bl (b 1), .bl (b 2)]) := upd_same
    have v0 := ev.same s0
    generalize (upd H p0 (.lst [.bl (b 0), .bl (b 1), .bl (b 2)])) = G0 at s0 f0 v0 ⊢
    refine rd_cat3 (by rfl) (by rfl) f0 v0 ec (hk 3 _ rfl) (hk 4 _ rfl) (hk 5 _ rfl) (by simp) fun p1 G1 u1 f1 => ?_
    replace s0 := s0.trans u1
    have v1 := v0.same u1
    refine rd_cat3 (by rfl) (by rfl) f1 v1 ec (hk 6 _ rfl) (hk 7 _ rfl) (hk 8 _ rfl) (by simp) fun p2 G2 u2 f2 => ?_
    replace s0 := s0.trans u2
    have v2 := v1.same u2
    refine rd_cat3 (by rfl) (by rfl) f2 v2 ec (hk 9 _ rfl) (hk 10 _ rfl) (hk 11 _ rfl) (by simp) fun p3 G3 u3 f3 => ?_
    replace s0 := s0.trans u3
    have v3 := v2.same u3
    refine rd_cat3 (by rfl) (by rfl) f3 v3 ec (hk 12 _ rfl) (hk 13 _ rfl) (hk 14 _ rfl) (by simp) fun p4 G4 u4 f4 => ?_
    replace s0 := s0.trans u4
    have v4 := v3.same u4
    refine rd_cat3 (by rfl) (by rfl) f4 v4 ec (hk 15 _ rfl) (hk 16 _ rfl) (hk 17 _ rfl) (by simp) fun p5 G5 u5 f5 => ?_
    replace s0 := s0.trans u5
    have v5 := v4.same u5
    refine rd_cat3 (by rfl) (by rfl) f5 v5 ec (hk 18 _ rfl) (hk 19 _ rfl) (hk 20 _ rfl) (by simp) fun p6 G6 u6 f6 => ?_
    replace s0 := s0.trans u6
    have v6 := v5.same u6
    exact k p6 _ s0 f6
end
end K6

namespace K6
open PySem L2 XR
/-! ### the things that errors are made with -/
inductive Thing (H : Hp) : V → Prop
  | non : Thing H .non
  | int (i : Int) (h : i.natAbs.log2 < 1920) : Thing H (.int i)
  | str (y : Str) (h : (reprText y).length ≤ sizeLine) (h2 : SeqAt.shaped (.str y) = true) : Thing H (.str y)
  | bl (b : Bool) : Thing H (.bl b)
  | tup {a b : Addr} (h : H a = some (.tup [.str "make", .ref b])) (h2 : H b = some (.tup [])) : Thing H (.ref a)
  | nil {a : Addr} (h : H a = some (.lst [])) : Thing H (.ref a)
  | dict {a : Addr} (h : H a = some (.dK [])) : Thing H (.ref a)
  | one {a : Addr} (h : H a = some (.lst [.non])) : Thing H (.ref a)
theorem Thing.same {H H' : Hp} {v : V} (h : Thing H v) (m : Same H H') : Thing H' v := by
  cases h with
  | non => exact .non
  | int i h => exact .int i h
  | str y h h2 => exact .str y h h2
  | bl b => exact .bl b
  | tup h h2 => exact .tup (m _ _ h) (m _ _ h2)
  | nil h => exact .nil (m _ _ h)
  | dict h => exact .dict (m _ _ h)
  | one h => exact .one (m _ _ h)
theorem Thing.but {H H' : Hp} {v : V} {w : Addr} {a b c : Int} (h : Thing H v) (hw : H w = some (.lst [.int a, .int b, .int c])) (m : But w H H') : Thing H' v := by
  cases h with
  | non => exact .non
  | int i h => exact .int i h
  | str y h h2 => exact .str y h h2
  | bl b => exact .bl b
  | tup h h2 => exact .tup (m _ _ h (ne_of h hw (fun z => nomatch z))) (m _ _ h2 (ne_of h2 hw (fun z => nomatch z)))
  | nil h => exact .nil (m _ _ h (ne_of h hw (fun z => nomatch z)))
  | dict h => exact .dict (m _ _ h (ne_of h hw (fun z => nomatch z)))
  | one h => exact .one (m _ _ h (ne_of h hw (fun z => nomatch z)))
theorem Thing.shw {K : PySem.W.Frag} {H : Hp} {v : V} (h : Thing H v) : ∃ t, Shw K H v t := by
  cases h with
  | non => exact ⟨_, .non⟩
  | int i h => exact ⟨_, .int i h⟩
  | str y h h2 => exact ⟨_, .str y h⟩
  | bl b => exact ⟨_, .bl b⟩
  | tup h h2 => exact ⟨_, .dat (d := .tuple [.str "make", .tuple []]) (.tup (SqT.of h) (.cons (.str _) (.cons (.tup (SqT.of h2) .nil) .nil))) (by decide +kernel) (by decide +kernel) (by decide +kernel) (by decide +kernel)⟩
  | nil h => exact ⟨_, .dat (d := .list []) (.lst (SqL.of h) .nil) (by decide +kernel) (by decide +kernel) (by decide +kernel) (by decide +kernel)⟩
  | dict h => exact ⟨_, .dict0 h⟩
  | one h => exact ⟨_, .dat (d := .list [.none]) (.lst (SqL.of h) (.cons .non .nil)) (by decide +kernel) (by decide +kernel) (by decide +kernel) (by decide +kernel)⟩
theorem Thing.isB {K : PySem.W.Frag} {H : Hp} {v : V} (h : Thing H v) : ∃ t b, TyX K H v t ∧ PySem.W.kitOne K t (.type "bool") = some b := by
  cases h with
  | non => exact ⟨_, false, .base .non, kit_ty (by decide +kernel)⟩
  | int i h => exact ⟨_, false, .base (.int i), kit_ty (by decide +kernel)⟩
  | str y h h2 => exact ⟨_, false, .base (.str y), kit_ty (by decide +kernel)⟩
  | bl b => exact ⟨_, true, .base (.bl b), kit_ty (by decide +kernel)⟩
  | tup h h2 => exact ⟨_, false, .base (.tup h), kit_ty (by decide +kernel)⟩
  | nil h => exact ⟨_, false, .base (.lst h), kit_ty (by decide +kernel)⟩
  | dict h => exact ⟨_, false, .base (.dK h), kit_ty (by decide +kernel)⟩
  | one h => exact ⟨_, false, .base (.lst h), kit_ty (by decide +kernel)⟩
/-- x != y, y the same -/
def rNeT (K : PySem.W.Frag) : R2 := fun x y H Q => rNeD K x y H Q ∨ rNeDA x y H Q
theorem op_neT {X : Cx} (hu : X.A.units + 64 < cLine) : OpR X (compareOp .NotEq) (rNeT X.K) := by
  intro pins s σ H x y v u Q I rx ry h
  rcases h with h | h
  · exact op_neD hu pins s σ H x y v u Q I rx ry h
  · exact op_ne_dictA (by omega) pins s σ H x y v u Q I rx ry h
theorem Thing.ne {K : PySem.W.Frag} {H : Hp} {v : V} {Q : VK} (h : Thing H v) (q : Q (.bl false) H) : rNeT K v v H Q := by
  have dd : ∀ {d : PyData}, Dp K H v d → SeqAt.shaped d = true → rNeT K v v H Q := fun {d} a b => .inl ⟨d, d, a, a, b, b, by rw [SeqAt.eqv_refl _ (SeqAt.canLay_of_shaped b)]; exact q⟩
  cases h with
  | non => exact dd .non rfl
  | int i h => exact dd (.int i) rfl
  | str y h h2 => exact dd (.str y) h2
  | bl b => exact dd (.bl b) rfl
  | tup h h2 => exact dd (d := .tuple [.str "make", .tuple []]) (.tup (SqT.of h) (.cons (.str _) (.cons (.tup (SqT.of h2) .nil) .nil))) (by decide +kernel)
  | nil h => exact dd (d := .list []) (.lst (SqL.of h) .nil) (by decide +kernel)
  | dict h => exact .inr ⟨_, _, [], [], rfl, rfl, h, h, rfl, fun p hp => absurd hp (by simp), q⟩
  | one h => exact dd (d := .list [.none]) (.lst (SqL.of h) (.cons .non .nil)) (by decide +kernel)
def spLaw (K : PySem.W.Frag) : Sp := fun vs H Q _ => ∃ (a : Addr) (ns : List Int), vs = [.ref a] ∧ SqL K H a (ns.map V.int) ∧ ns.length ≤ 63 ∧ ∀ H', Q (.bl true) H'
end K6

namespace K6
open PySem L2 XR
theorem cut_ints {ns : List Int} {lo hi : Option Int} {y : V} (h : y ∈ cutV (ns.map V.int) lo hi) : ∃ z, y = .int z := by
  unfold cutV at h
  have h1 := List.mem_of_mem_take h
  have h2 := List.mem_of_mem_drop h1
  obtain ⟨z, _, e⟩ := List.mem_map.mp h2
  exact ⟨z, e.symm⟩
/-- an error of two values -/
def Er2 (H : Hp) (e C : Addr) (f1 f2 : Str) (v u : V) : Prop := ∃ dx, H e = some (exo e C (some dx)) ∧ H dx = some (exd dx [(f2, u), (f1, v)])
theorem Er2.same {H H' : Hp} {e C : Addr} {f1 f2 : Str} {v u : V} (h : Er2 H e C f1 f2 v u) (m : Same H H') : Er2 H' e C f1 f2 v u := let ⟨dx, a, b⟩ := h; ⟨dx, m _ _ a, m _ _ b⟩
theorem Er2.ev {H : Hp} {e C : Addr} {f1 f2 : Str} {v u : V} (h : Er2 H e C f1 f2 v u) : ExV H e C := let ⟨dx, a, b⟩ := h; .inl ⟨dx, _, a, b⟩
theorem rd_new2 {C : Addr} {f1 f2 : Str} {σ : L2.St} {H : Hp} {Q : VK} {i j : Nat} {v u : V} (hv : σ[i]? = some (some v)) (hu : σ[j]? = some (some u)) (k : ∀ (e : Addr) (H' : Hp), Same H H' → Er2 H' e C f1 f2 v u → Q (.ref e) H') :
    tNewO C (spI2 C f1 f2) (tCons (tVar i) (tCons (tVar j) tNil)) σ H Q := by
  unfold tNewO
  refine ⟨v, hv, u, hu, (by show 2 ≤ 1000; decide), fun a ha => ⟨a, v, u, rfl, upd_same, fun dx H' hd hne keep h1 h2 => ⟨rfl, ?_⟩⟩⟩
  refine k a _ (fun b o z => ?_) ⟨dx, h1, h2⟩
  have n := ne_of_none z ha
  exact keep b o (by rw [upd_ne n]; exact z) n
theorem rd_xget2a {K : PySem.W.Frag} {C : Addr} {f1 f2 : Str} {σ : L2.St} {H : Hp} {Q : VK} {i : Nat} {v u : V} {e : Addr} (hv : σ[i]? = some (some (.ref e))) (T : XfC K C) (no : PySem.W.findIn K (.ref C) f1 = some none) (hne : ¬ f1 = f2) (h : Er2 H e C f1 f2 v u)
    (k : Q v H) : tXget K f1 (tVar i) σ H Q := by
  unfold tXget
  obtain ⟨dx, h1, h2⟩ := h
  refine ⟨_, hv, e, C, dx, _, v, rfl, T, no, h1, h2, ?_, k⟩
  rw [lookup_put, if_neg hne, lookup_put, if_pos rfl]
theorem rd_xget2b {K : PySem.W.Frag} {C : Addr} {f1 f2 : Str} {σ : L2.St} {H : Hp} {Q : VK} {i : Nat} {v u : V} {e : Addr} (hv : σ[i]? = some (some (.ref e))) (T : XfC K C) (no : PySem.W.findIn K (.ref C) f2 = some none) (h : Er2 H e C f1 f2 v u)
    (k : Q u H) : tXget K f2 (tVar i) σ H Q := by
  unfold tXget
  obtain ⟨dx, h1, h2⟩ := h
  refine ⟨_, hv, e, C, dx, _, u, rfl, T, no, h1, h2, ?_, k⟩
  rw [lookup_put, if_pos rfl]
theorem line_of2 {H : Hp} {C e t : Addr} {f1 f2 : Str} {v u : V} (h : Er2 H e C f1 f2 v u) (ht : H t = none) : Line (upd H t (.tup [.ref e, v])) v (.ref t) C := ⟨t, e, rfl, upd_same, h.ev.same (same_new ht)⟩
/-- an error made with the text y alone -/
def Bo (H : Hp) (e C : Addr) (y : Str) : Prop := ∃ t, H e = some (exa e C t) ∧ H t = some (.tup [.str y])
theorem Bo.same {H H' : Hp} {e C : Addr} {y : Str} (h : Bo H e C y) (m : Same H H') : Bo H' e C y := let ⟨t, a, b⟩ := h; ⟨t, m _ _ a, m _ _ b⟩
theorem lst_ext {xs : List V} {φ : Heap → Prop} : HO.ext φ ≠ .lst xs := fun z => nomatch z
theorem Bo.but {H H' : Hp} {e C r : Addr} {y : Str} {xs : List V} (h : Bo H e C y) (hr : H r = some (.lst xs)) (m : But r H H') : Bo H' e C y :=
  let ⟨t, a, b⟩ := h; ⟨t, m _ _ a (ne_of a hr lst_ext), m _ _ b (ne_of b hr (fun z => nomatch z))⟩
theorem ExV_but {H H' : Hp} {e C r : Addr} {xs : List V} (h : ExV H e C) (hr : H r = some (.lst xs)) (m : But r H H') : ExV H' e C := by
  rcases h with ⟨dx, fs, ea, ed⟩ | ⟨t, ea⟩
  · exact .inl ⟨dx, fs, m _ _ ea (ne_of ea hr lst_ext), m _ _ ed (ne_of ed hr lst_ext)⟩
  · exact .inr ⟨t, m _ _ ea (ne_of ea hr lst_ext)⟩
theorem Line.but {H H' : Hp} {r C : Addr} {v x : V} {xs : List V} (h : Line H v x C) (hr : H r = some (.lst xs)) (m : But r H H') : Line H' v x C :=
  let ⟨t, e, a, b, c⟩ := h; ⟨t, e, a, m _ _ b (ne_of b hr (fun z => nomatch z)), ExV_but c hr m⟩
theorem Lines.but {H H' : Hp} {r : Addr} {v : V} {xs ys : List V} {cs : List Addr} (h : Lines H v ys cs) (hr : H r = some (.lst xs)) (m : But r H H') : Lines H' v ys cs := Paired.mapP h fun _ _ z => z.but hr m
theorem take_next {α : Type} {l : List α} {i : Nat} {x : α} (h : l[i]? = some x) : l.take (i + 1) = l.take i ++ [x] := by
  rw [List.take_succ, h]
  rfl
theorem pair_get {H : Hp} {v : V} : ∀ {xs : List V} {cs : List Addr} {i : Nat} {x : V}, Lines H v xs cs → xs[i]? = some x → ∃ C, cs[i]? = some C ∧ Line H v x C
  | _, _, _, _, .nil, e => by simp at e
  | _, _, 0, _, .cons r _, e => by simp at e; subst e; exact ⟨_, rfl, r⟩
  | _, _, i + 1, x, .cons _ t, e => by
    obtain ⟨C, a, b⟩ := pair_get (i := i) (x := x) t (by simpa using e)
    exact ⟨C, by simpa using a, b⟩
theorem nodup_at {cs : List Addr} (hn : cs.Nodup) {i j : Nat} {C D : Addr} (a : cs[i]? = some C) (b : cs[j]? = some D) : some (decide (C = D)) = some (decide (i = j)) := by
  congr 1
  apply decide_eq_decide.mpr
  obtain ⟨h1, e1⟩ := List.getElem?_eq_some_iff.mp a
  obtain ⟨h2, e2⟩ := List.getElem?_eq_some_iff.mp b
  constructor
  · intro q
    exact (List.getElem_inj hn).mp (e1.trans (q.trans e2.symm))
  · intro q
    subst q
    exact e1.symm.trans e2
theorem bools {K : PySem.W.Frag} {H : Hp} (g : Nat → Bool) : ∀ l : List Nat, DpAll K H (l.map fun m => V.bl (g m)) (l.map fun m => PyData.bool (g m))
  | [] => .nil
  | x :: l => .cons (.bl _) (bools g l)
abbrev lawN : List Str := ["_law_script", "_law_cell", "_law_well_here", "_law_some", "_law_thing", "_law_other", "_law_text", "_law_lines", "_law_bad", "_law_lacking", "_law_error", "_law_k", "_law_line", "_law_kept", "_law_spot"]
/-- what the law asks of the text -/
structure LTxt (P : Program) (w : World) (K : PySem.W.Frag) (mg : Str → Option Value) (base : Heap) (CP cBC cLK cBO cBS : Addr) (c1 c2 cs : List Addr) : Prop where
  t0 : Txt0 mg
  well : ∃ f fd, mg "_law_well" = some (.ref f) ∧ PySem.W.keepIn K (.ref f) = true ∧ Binds K fd ["_law_cell"] [] ∧ FnOk P w K mg base CX0 1 f fd ["_law_cell"] spWell
  one : ∃ f fd, mg "_law_one" = some (.ref f) ∧ PySem.W.keepIn K (.ref f) = true ∧ Binds K fd ["_law_well_here", "_law_some"] [] ∧ FnOk P w K mg base CX0 2 f fd ["_law_well_here", "_law_some"] (spOne K)
  first : ∃ f fd, mg "_law_first" = some (.ref f) ∧ PySem.W.keepIn K (.ref f) = true ∧ Binds K fd ["_law_thing"] [] ∧ FnOk P w K mg base CX0 3 f fd ["_law_thing"] (spPart c1)
  others : ∃ f fd, mg "_law_others" = some (.ref f) ∧ PySem.W.keepIn K (.ref f) = true ∧ Binds K fd ["_law_thing"] [] ∧ FnOk P w K mg base CX0 3 f fd ["_law_thing"] (spPart c2)
  kinds : ∃ f fd, mg "_law_kinds" = some (.ref f) ∧ PySem.W.keepIn K (.ref f) = true ∧ Binds K fd ["_law_error"] [] ∧ FnOk P w K mg base CX0 1 f fd ["_law_error"] (spKinds K cs)
  bc : ∃ f fd, New2 P w K mg base CP "BadConfig" "at" "why" cBC f fd
  lk : ∃ f fd, New2 P w K mg base CP "Lacking" "address" "attribute" cLK f fd
  bo : XcOk K CP cBO
  bs : XcOk K CP cBS
  gBO : mg "BadOrder" = some (.ref cBO)
  gBS : mg "BadSteps" = some (.ref cBS)
  xBO : PySem.W.excIn K cBO [.type "ValueError", .type "Exception", .type "BaseException", .type "object"] "ValueError.__new__" = true
  xBS : PySem.W.excIn K cBS [.type "ValueError", .type "Exception", .type "BaseException", .type "object"] "ValueError.__new__" = true
  sBO : PySem.W.findIn K (.ref cBO) "__str__" = some (some (.builtin "BaseException.__str__"))
  sBS : PySem.W.findIn K (.ref cBS) "__str__" = some (some (.builtin "BaseException.__str__"))
  gP : mg "PlanError" = some (.ref CP)
  cP : ((PySem.W.clsIn K CP).isSome && PySem.W.typeIn K (.ref CP) == some (.type "type")) = true
  z0 : Cls0 K
  all : ∀ C ∈ cs, XcOk K CP C ∧ C ≠ CP
  nd : cs.Nodup
  eq : cs = c1 ++ c2 ++ [cBC, cLK] ++ [cBO, cBS]
  len : c1.length = 8 ∧ c2.length = 9
  repr : mg "repr" = none
  str : mg "str" = none
  enum : mg "enumerate" = none
  isi : mg "isinstance" = none
  ve : mg "ValueError" = none
  range : mg "range" = none
  bool : mg "bool" = none
section
variable {P : Program} {w : World} {K : PySem.W.Frag} {mg : Str → Option Value} {base : Heap}
theorem scL : FnScope lawN ["_law_script"] (defScope sLaw) := ⟨rfl, rfl, rfl, by decide +kernel, rfl, by decide +kernel, by decide +kernel⟩
theorem ok_law {f CP cBC cLK cBO cBS : Addr} {fd : FuncData} {c1 c2 cs : List Addr} (F : Fun K "law" "law" sLaw f fd) (T : LTxt P w K mg base CP cBC cLK cBO cBS c1 c2 cs) : TopOk P w K mg base 4 f fd ["_law_script"] (spLaw K) := by
  obtain ⟨fW, dW, gW, kW, bW, oW⟩ := T.well
  obtain ⟨fO, dO, gO, kO, bO, oO⟩ := T.one
  obtain ⟨fF, dF, gF, kF, bF, oF⟩ := T.first
  obtain ⟨fS, dS, gS, kS, bS, oS⟩ := T.others
  obtain ⟨fK, dK, gK, kK, bK, oK⟩ := T.kinds
  obtain ⟨fB, dB, NB⟩ := T.bc
  obtain ⟨fL, dL, NL⟩ := T.lk
  refine top_ok F scL (fun vs H Q E h => ?_) (fun cdv s H vs Q E hr h => ?_)
  · obtain ⟨a, ns, rfl, _⟩ := h
    rfl
  · obtain ⟨a, ns, rfl, hS, hlen, k⟩ := h
    have h1 : Room 1 _ := hr.mono (by decide)
    have h2 : Room 2 _ := hr.mono (by decide)
    have hg : (callerA.deeper (PyProof.Rows.envOfC "law" (defScope sLaw) s.heap.objs.size f cdv)).guards = some [] := rfl
    have hu := hr.un
    have hu2 : (callerA.deeper (PyProof.Rows.envOfC "law" (defScope sLaw) s.heap.objs.size f cdv)).units + 2 < cLine := by omega
    have hu30 : (callerA.deeper (PyProof.Rows.envOfC "law" (defScope sLaw) s.heap.objs.size f cdv)).units + 30 < cLine := by omega
    have hu64 : (callerA.deeper (PyProof.Rows.envOfC "law" (defScope sLaw) s.heap.objs.size f cdv)).units + 64 < cLine := by omega
    refine ⟨_, (pss_cons (ps_for PassesOwn.never rfl (pi_list (pe_op op_cat (pe_slice sl_list (pv 0) po_none (po_some pe_int)) (pe_lst (pa_cons pe_int pa_nil)))) (pg_name (i := 1) scL.nd rfl (Or.inl rfl))
        (pss_cons (ps_set (i := 2) scL.nd rfl (Or.inl rfl) (pe_call oW h1 rfl gW kW bW .nil pass0 (pa_cons (pv 1) pa_nil)))
        (pss_cons (ps_set (i := 3) scL.nd rfl (Or.inl rfl) (pe_lst (pa_cons pe_non (pa_cons pe_int (pa_cons (pe_un un_neg pe_int) (pa_cons pe_str (pa_cons pe_str (pa_cons (pe_tup (pa_cons pe_str (pa_cons (pe_tup pa_nil) pa_nil))) (pa_cons (pe_cmpR op_eq pe_int pe_int (nomark _)) (pa_cons (pe_lst pa_nil) (pa_cons pe_dnewK (pa_cons (pe_lst (pa_cons pe_non pa_nil)) (pa_cons (pe_op op_pow pe_int pe_int) pa_nil)))))))))))))
        (pss_cons (ps_par (i := 4) (j := 5) (by rfl) scL.nd rfl rfl (by decide) rfl rfl (pa_cons (pe_call oO h2 rfl gO kO bO .nil pass0 (pa_cons (pv 2) (pa_cons (pv 3) pa_nil))) (pa_cons (pe_call oO h2 rfl gO kO bO .nil pass0 (pa_cons (pv 2) (pa_cons (pv 3) pa_nil))) pa_nil)) (by rfl))
        (pss_cons (ps_set (i := 6) scL.nd rfl (Or.inl rfl) (pe_call oO h2 rfl gO kO bO .nil pass0 (pa_cons (pv 2) (pa_cons (pe_lst (pa_cons pe_str (pa_cons pe_str (pa_cons pe_str pa_nil)))) pa_nil))))
        (pss_cons (ps_set (i := 7) scL.nd rfl (Or.inl rfl) (pe_op op_cat (pe_call oF hr rfl gF kF bF .nil pass0 (pa_cons (pv 4) pa_nil)) (pe_call oS hr rfl gS kS bS .nil pass0 (pa_cons (pv 4) pa_nil))))
        (pss_cons (ps_par (i := 8) (j := 9) (by rfl) scL.nd rfl rfl (by decide) rfl rfl (pa_cons (pe_newO NB.xc.oex NB.iC NB.tI NB.ok h2 NB.b pass0 rfl NB.g (pa_cons (pv 4) (pa_cons (pv 5) pa_nil))) (pa_cons (pe_newO NL.xc.oex NL.iC NL.tI NL.ok h2 NL.b pass0 rfl NL.g (pa_cons (pv 4) (pa_cons (pv 5) pa_nil))) pa_nil)) (by rfl))
        (pss_cons (ps_set (i := 7) scL.nd rfl (Or.inl rfl) (pe_op op_cat (pv 7) (pe_lst (pa_cons (pe_tup (pa_cons (pv 8) (pa_cons (pe_xget (pv 8)) pa_nil))) (pa_cons (pe_tup (pa_cons (pv 9) (pa_cons (pe_xget (pv 9)) pa_nil))) pa_nil)))))
        (pss_cons (ps_if (PW.pt (pw_or (pt_cmpR op_ne (pe_callB (call_reprX hg hu30) (by rfl) T.repr (by decide +kernel) (pa_cons (pe_xget (pv 8)) pa_nil)) (pe_callB (call_reprX hg hu30) (by rfl) T.repr (by decide +kernel) (pa_cons (pv 5) pa_nil)) (nomark _)) (pw_or1 (pt_cmpR op_ne (pe_callB (call_reprX hg hu30) (by rfl) T.repr (by decide +kernel) (pa_cons (pe_xget (pv 9)) pa_nil)) (pe_callB (call_reprX hg hu30) (by rfl) T.repr (by decide +kernel) (pa_cons (pv 5) pa_nil)) (nomark _))))) (pss_one (ps_ret pe_bl)) pss_nil)
        (pss_cons (ps_for PassesOwn.never rfl (pi_list (pe_lst (pa_cons (pe_new1 PySem.F.excBase_ValueError T.xBO T.gBO T.bo.kC rfl (pv 6)) (pa_cons (pe_new1 PySem.F.excBase_ValueError T.xBS T.gBS T.bs.kC rfl (pv 6)) pa_nil)))) (pg_name (i := 10) scL.nd rfl (Or.inl rfl))
          (pss_cons (ps_if (pt_cmpR op_ne (pe_callTy (call_strX hu2) (by rfl) T.str (by decide +kernel) (pa_cons (pv 10) pa_nil)) (pv 6) (nomark _)) (pss_one (ps_ret pe_bl)) pss_nil)
          (pss_one (ps_expr (pe_bm PySem.F.plainAttrs_list PySem.F.slot_list_append PySem.F.type_list_append mt_append (pv 7) (pa_cons (pe_tup (pa_cons (pv 10) (pa_cons (pv 4) pa_nil))) pa_nil))))))
        (pss_one (ps_for PassesOwn.never rfl (pi_enum (by rfl) T.enum (pa_cons (pv 7) pa_nil)) (pg_tup rfl (pgs_cons (pg_name (i := 11) scL.nd rfl (Or.inr rfl)) (pgs_cons (pg_name (i := 12) scL.nd rfl (Or.inl rfl)) pgs_nil)))
          (pss_cons (ps_asg (pv 12) (pg_tup rfl (pgs_cons (pg_name (i := 10) scL.nd rfl (Or.inl rfl)) (pgs_cons (pg_name (i := 13) scL.nd rfl (Or.inl rfl)) pgs_nil))))
          (pss_cons (ps_if (PW.pt (pw_or (pt_not (pt_val (pe_callB call_isX (by rfl) T.isi (by decide +kernel) (pa_cons (pv 10) (pa_cons (pe_glob (v := .ref CP) rfl T.gP rfl) pa_nil))))) (pw_or1 (pt_not (pt_val (pe_callB call_isX (by rfl) T.isi (by decide +kernel) (pa_cons (pv 10) (pa_cons (pe_bltn (v := .ty "ValueError") (by rfl) T.ve (by decide +kernel) rfl) pa_nil)))))))) (pss_one (ps_ret pe_bl)) pss_nil)
          (pss_cons (ps_if (pt_cmpR (op_neD hu64) (pe_call oK h1 rfl gK kK bK .nil pass0 (pa_cons (pv 10) pa_nil)) (pe_lc (own := [("_law_spot", 14)]) (g := gName 14) (tt := tYes) rfl scL.nd (pi_range1 (by rfl) T.range (pa_cons pe_int pa_nil)) (blkOk_by (own := [("_law_spot", 14)]) (N := lawN) (sc := defScope sLaw) (by decide +kernel)) (fun _ _ _ _ _ => pg_name (i := 14) scL.nd rfl (Or.inl rfl)) (fun _ _ _ _ _ => pts_nil) (fun _ _ _ _ _ => (pe_cmpR op_eq (pv 11) (pv 14) (nomark _)))) (nomark _)) (pss_one (ps_ret pe_bl)) pss_nil)
          (pss_one (ps_if (PW.pt (pw_or (pt_cmpR (op_neT hu64) (pv 13) (pv 4) (nomark _)) (pw_or1 (pt_cmpR op_ne (pe_callB call_isi (by rfl) T.isi (by decide +kernel) (pa_cons (pv 13) (pa_cons (pe_bltn (v := .ty "bool") (by rfl) T.bool (by decide +kernel) rfl) pa_nil))) (pe_callB call_isi (by rfl) T.isi (by decide +kernel) (pa_cons (pv 4) (pa_cons (pe_bltn (v := .ty "bool") (by rfl) T.bool (by decide +kernel) rfl) pa_nil))) (nomark _))))) (pss_one (ps_ret pe_bl)) pss_nil)))))))))))))))))
      (pss_one (ps_ret pe_bl))), ?_⟩
    -- script[:6] + [0]
    refine ⟨_, rfl, _, rfl, a, _, rfl, hS, fun q0 hq0 => ?_⟩
    have m0 := same_new (o := .lst (cutV (ns.map V.int) none (some 6))) hq0
    refine ⟨(by show 1 ≤ sizeLine; decide), fun q1 hq1 => ?_⟩
    have m1 := same_new (o := .lst [.int 0]) hq1
    have lc := cutV_length (ns.map V.int) none (some 6)
    rw [List.length_map] at lc
    refine ⟨q0, q1, _, _, rfl, rfl, m1 _ _ upd_same, upd_same, ?_, fun q2 hq2 => ?_⟩
    · rw [sizeLine_eq]
      show _ + 1 ≤ _
      omega
    have m2 := same_new (o := .lst (cutV (ns.map V.int) none (some 6) ++ [.int 0])) hq2
    have f2 : (upd _ q2 (.lst (cutV (ns.map V.int) none (some 6) ++ [.int 0]))) q2 = _ := at_new hq2
    have s2 := (m0.trans m1).trans m2
    generalize (upd _ q2 (.lst (cutV (ns.map V.int) none (some 6) ++ [.int 0]))) = G2 at f2 s2 ⊢
    clear m0 m1 m2
    refine ⟨q2, rfl, ⟨_, SqL.of f2⟩, for_list (K := K) (a := q2) (xs := cutV (ns.map V.int) none (some 6) ++ [.int 0])
      (fun i σ H' => Same G2 H' ∧ ∃ x1 x2 x3 x4 x5 x6 x7 x8 x9 x10 x11 x12 x13 : Option V, σ = [some (.ref a), x1, x2, x3, x4, x5, x6, x7, x8, x9, x10, x11, x12, x13, none])
      ⟨Same.refl _, none, none, none, none, none, none, none, none, none, none, none, none, none, rfl⟩ (fun i σ H' _ ⟨m, _⟩ => SqL.of (m _ _ f2)) ?_ ?_⟩
    · rintro i y σ H3 hi ⟨m3, x1, x2, x3, x4, x5, x6, x7, x8, x9, x10, x11, x12, x13, rfl⟩
      obtain ⟨z, rfl⟩ : ∃ z, y = V.int z := by
        rcases List.mem_append.mp (List.mem_of_getElem? hi) with h | h
        · exact cut_ints h
        · exact ⟨0, by simpa using h⟩
      -- well = _law_well(cell)
      refine ⟨_, rfl, z, rfl, fun p a0 b0 H4 m4 np W => ?_⟩
      -- the things
      refine ⟨_, rfl, (by show 0 ≤ sizeLine; decide), fun t0 ht0 => ?_⟩
      have n0 := same_new (o := .tup []) ht0
      have e0 := at_new (o := .tup []) ht0
      generalize (upd H4 t0 (.tup [])) = A0 at n0 e0 ⊢
      refine ⟨(by show 2 ≤ sizeLine; decide), fun t1 ht1 => ?_⟩
      have n1 := same_new (o := .tup [.str "make", .ref t0]) ht1
      have e1 := at_new (o := .tup [.str "make", .ref t0]) ht1
      replace e0 := n1 _ _ e0
      generalize (upd A0 t1 (.tup [.str "make", .ref t0])) = A1 at n1 e0 e1 ⊢
      refine ⟨rfl, (by show 0 ≤ sizeLine; decide), fun l0 hl0 => ?_⟩
      have n2 := same_new (o := .lst []) hl0
      have e2 := at_new (o := .lst []) hl0
      replace e0 := n2 _ _ e0
      replace e1 := n2 _ _ e1
      generalize (upd A1 l0 (.lst [])) = A2 at n2 e0 e1 e2 ⊢
      refine fun d0 hd0 => ?_
      have n3 := same_new (o := .dK []) hd0
      have e3 := at_new (o := .dK []) hd0
      replace e0 := n3 _ _ e0
      replace e1 := n3 _ _ e1
      replace e2 := n3 _ _ e2
      generalize (upd A2 d0 (.dK [])) = A3 at n3 e0 e1 e2 e3 ⊢
      refine ⟨(by show 1 ≤ sizeLine; decide), fun l1 hl1 => ?_⟩
      have n4 := same_new (o := .lst [.non]) hl1
      have e4 := at_new (o := .lst [.non]) hl1
      replace e0 := n4 _ _ e0
      replace e1 := n4 _ _ e1
      replace e2 := n4 _ _ e2
      replace e3 := n4 _ _ e3
      generalize (upd A3 l1 (.lst [.non])) = A4 at n4 e0 e1 e2 e3 e4 ⊢
      refine ⟨_, _, rfl, rfl, ⟨by decide, by decide, by decide⟩, (by show 11 ≤ sizeLine; decide), fun l2 hl2 => ?_⟩
      have mA := (((((m4.trans n0).trans n1).trans n2).trans n3).trans n4)
      have th : ∀ v ∈ [V.non, .int 0, .int (-1), .str "", .str "rows", .ref t1, .bl (decide (V.int 1 = V.int 1)), .ref l0, .ref d0, .ref l1, .int (10 ^ (Int.toNat 30))], Thing A4 v := by
        intro v hv
        simp only [List.mem_cons, List.not_mem_nil, or_false] at hv
        rcases hv with rfl | rfl | rfl | rfl | rfl | rfl | rfl | rfl | rfl | rfl | rfl
        · exact .non
        · exact .int _ (by decide +kernel)
        · exact .int _ (by decide +kernel)
        · exact .str _ (by decide +kernel) (by decide +kernel)
        · exact .str _ (by decide +kernel) (by decide +kernel)
        · exact .tup e1 e0
        · exact .bl _
        · exact .nil e2
        · exact .dict e3
        · exact .one e4
        · exact .int _ (by decide +kernel)
      have W4 : Well A4 p a0 b0 0 := ⟨n4 _ _ (n3 _ _ (n2 _ _ (n1 _ _ (n0 _ _ W.at_)))), W.b0, W.b1, W.c0, W.c1⟩
      generalize hA5 : upd A4 l2 _ = A5
      have n5 : Same A4 A5 := by
        rw [← hA5]
        exact same_new hl2
      obtain ⟨XS, e5, lXS, thX⟩ : ∃ XS, A5 l2 = some (.lst XS) ∧ XS.length = 11 ∧ ∀ v ∈ XS, Thing A5 v := ⟨_, by rw [← hA5]; exact upd_same, rfl, fun v hv => (th v hv).same n5⟩
      clear hA5 th e0 e1 e2 e3 e4
      have W5 : Well A5 p a0 b0 0 := ⟨n5 _ _ W4.at_, W.b0, W.b1, W.c0, W.c1⟩
      have S5 : Same H3 A5 := mA.trans n5
      clear W4 n5 mA n0 n1 n2 n3 n4 ht0 ht1 hl0 hd0 hl1 hl2 W m4
      have nlp : l2 ≠ p := ne_of e5 W5.at_ (fun z => by
        have z' := HO.lst.inj z
        rw [z'] at lXS
        cases lXS)
      -- thing, other
      refine ⟨_, rfl, _, rfl, p, l2, a0, b0, 0, XS, rfl, W5, by decide, e5, nlp, by omega, by omega, fun v a1 j1 H6 hv hc1 W6 B6 => ?_⟩
      refine ⟨_, rfl, _, rfl, p, l2, a1, b0, j1, XS, rfl, W6, by omega, B6 _ _ e5 nlp, nlp, by omega, by omega, fun u a2 j2 H7 hu' hc2 W7 B7 => ?_⟩
      have tv : Thing H7 v := ((thX v hv).but W5.at_ B6).but W6.at_ B7
      have tu : Thing H7 u := ((thX u hu').but W5.at_ B6).but W6.at_ B7
      have S7 : Same H3 H7 := fun b o e => B7 _ _ (B6 _ _ (S5 _ _ e) (ne_of_none e np)) (ne_of_none e np)
      refine ⟨_, _, rfl, ?_⟩
      -- text
      refine ⟨_, rfl, (by show 3 ≤ sizeLine; decide), fun l3 hl3 => ?_⟩
      have n8 := same_new (o := .lst [.str "", .str "no order", .str "a b"]) hl3
      have e8 := at_new (o := .lst [.str "", .str "no order", .str "a b"]) hl3
      generalize (upd H7 l3 (.lst [.str "", .str "no order", .str "a b"])) = A8 at n8 e8 ⊢
      have W8 : Well A8 p a2 b0 j2 := ⟨n8 _ _ W7.at_, W7.b0, W7.b1, W7.c0, W7.c1⟩
      refine ⟨p, l3, a2, b0, j2, _, rfl, W8, by omega, e8, ne_of e8 W8.at_ (fun z => nomatch z), by decide, by decide, fun y a3 j3 H9 hy hc3 W9 B9 => ?_⟩
      obtain ⟨y, rfl⟩ : ∃ x : Str, y = .str x := by
        simp only [List.mem_cons, List.not_mem_nil, or_false] at hy
        rcases hy with rfl | rfl | rfl <;> exact ⟨_, rfl⟩
      replace tv : Thing H9 v := (tv.same n8).but W8.at_ B9
      replace tu : Thing H9 u := (tu.same n8).but W8.at_ B9
      have S9 : Same H3 H9 := fun b o e => B9 _ _ (n8 _ _ (S7 _ _ e)) (ne_of_none e np)
      clear S7 S5 n8 e8 W8 W7 W6 W5 B6 B7 B9 thX hl3 hc1 hc2 hc3 hy hv hu'
      -- the lines
      refine ⟨_, rfl, v, rfl, fun r1 xs1 B1 o1 g1 L1 => ?_⟩
      refine ⟨_, rfl, v, rfl, fun r2 xs2 B2 o2 g2 L2' => ?_⟩
      have z1 : xs1.length = 8 := by rw [Paired.length L1]; exact T.len.1
      have z2 : xs2.length = 9 := by rw [Paired.length L2']; exact T.len.2
      refine ⟨r1, r2, _, _, rfl, rfl, o2 _ _ g1, g2, by rw [z1, z2]; decide, fun r3 hr3 => ?_⟩
      have n3 := same_new (o := .lst (xs1 ++ xs2)) hr3
      have g3 := at_new (o := .lst (xs1 ++ xs2)) hr3
      generalize (upd B2 r3 (.lst (xs1 ++ xs2))) = B3 at n3 g3 ⊢
      have L3 := ((L1.same o2).same n3).append (Lines.same L2' n3)
      have S3 : Same H9 B3 := (o1.trans o2).trans n3
      replace tv := tv.same S3
      replace tu := tu.same S3
      have S10 := S9.trans S3
      clear L1 L2' o1 o2 n3 g1 g2 hr3 S3 S9
      -- bad, lacking
      refine rd_new2 (by rfl) (by rfl) fun eB B4 m4 rB => ?_
      refine rd_new2 (by rfl) (by rfl) fun eL B5 m5 rL => ?_
      replace rB := rB.same m5
      refine ⟨_, _, rfl, ?_⟩
      have g5 := m5 _ _ (m4 _ _ g3)
      have L5 := (L3.same m4).same m5
      replace tv := (tv.same m4).same m5
      replace tu := (tu.same m4).same m5
      replace S10 := (S10.trans m4).trans m5
      clear L3 g3 m4 m5
      refine ⟨_, rfl, _, rfl, rd_xget2a (by rfl) NB.xc.xf NB.no1 (by decide +kernel) rB ⟨(by show 2 ≤ sizeLine; decide), fun t6 ht6 => ?_⟩⟩
      have n6 := same_new (o := .tup [.ref eB, v]) ht6
      have k6 := line_of2 rB ht6
      generalize (upd B5 t6 (.tup [.ref eB, v])) = B6 at n6 k6 ⊢
      replace rB := rB.same n6
      replace rL := rL.same n6
      refine ⟨_, rfl, rd_xget2a (by rfl) NL.xc.xf NL.no1 (by decide +kernel) rL ⟨(by show 2 ≤ sizeLine; decide), fun t7 ht7 => ?_⟩⟩
      have n7 := same_new (o := .tup [.ref eL, v]) ht7
      have k7 := line_of2 rL ht7
      generalize (upd B6 t7 (.tup [.ref eL, v])) = B7 at n7 k7 ⊢
      replace rB := rB.same n7
      replace rL := rL.same n7
      replace k6 := k6.same n7
      refine ⟨(by show 2 ≤ sizeLine; decide), fun l8 hl8 => ?_⟩
      have n8 := same_new (o := .lst [.ref t6, .ref t7]) hl8
      have g8 := at_new (o := .lst [.ref t6, .ref t7]) hl8
      generalize (upd B7 l8 (.lst [.ref t6, .ref t7])) = B8 at n8 g8 ⊢
      have z3 : (xs1 ++ xs2).length = 17 := by rw [List.length_append, z1, z2]
      refine ⟨r3, l8, _, _, rfl, rfl, n8 _ _ (n7 _ _ (n6 _ _ g5)), g8, (by rw [z3]; show 17 + 2 ≤ sizeLine; decide), fun r9 hr9 => ?_⟩
      have S8 := (n6.trans n7).trans n8
      have L8 : Lines B8 v (xs1 ++ xs2 ++ [.ref t6, .ref t7]) (c1 ++ c2 ++ [cBC, cLK]) := (L5.same S8).append (.cons (k6.same n8) (.cons (k7.same n8) .nil))
      have z8 : (xs1 ++ xs2 ++ [V.ref t6, .ref t7]).length = 19 := by rw [List.length_append, z3]; rfl
      replace rB := rB.same n8
      replace rL := rL.same n8
      replace tv := tv.same S8
      replace tu := tu.same S8
      replace S10 := S10.trans S8
      clear S8 n6 n7 n8 k6 k7 L5 g5 g8 hl8 ht6 ht7
      generalize (xs1 ++ xs2 ++ [V.ref t6, .ref t7]) = ls at L8 z8 ⊢
      have n9 := same_new (o := .lst ls) hr9
      have g9 := at_new (o := .lst ls) hr9
      generalize (upd B8 r9 (.lst ls)) = B9 at n9 g9 ⊢
      -- if repr(..) != repr(..)
      obtain ⟨tx, sh⟩ := (tu.same n9).shw (K := K)
      refine rd_xget2b (by rfl) NB.xc.xf NB.no2 (rB.same n9) ⟨_, tx, rfl, sh, ?_⟩
      refine ⟨_, rfl, _, tx, rfl, sh, rfl, _, rfl, ?_⟩
      refine iteNS rfl ?_
      refine rd_xget2b (by rfl) NL.xc.xf NL.no2 (rL.same n9) ⟨_, tx, rfl, sh, ?_⟩
      refine ⟨_, rfl, _, tx, rfl, sh, rfl, _, rfl, ?_⟩
      refine iteNS rfl ?_
      -- for error in [BadOrder(text), BadSteps(text)]
      refine ⟨_, rfl, fun e1 t1 he1 ht1 ne1 => ?_⟩
      have y1 : Bo (upd (upd B9 t1 (.tup [.str y])) e1 (exa e1 cBO t1)) e1 cBO y := ⟨t1, upd_same, by rw [upd_ne (Ne.symm ne1), upd_same]⟩
      have q1' : Same B9 (upd (upd B9 t1 (.tup [.str y])) e1 (exa e1 cBO t1)) := fun b o z => by rw [upd_ne (ne_of_none z he1), upd_ne (ne_of_none z ht1)]; exact z
      generalize (upd (upd B9 t1 (.tup [.str y])) e1 (exa e1 cBO t1)) = C1 at y1 q1' ⊢
      refine ⟨_, rfl, fun e2 t2 he2 ht2 ne2 => ?_⟩
      have y2 : Bo (upd (upd C1 t2 (.tup [.str y])) e2 (exa e2 cBS t2)) e2 cBS y := ⟨t2, upd_same, by rw [upd_ne (Ne.symm ne2), upd_same]⟩
      have q2' : Same C1 (upd (upd C1 t2 (.tup [.str y])) e2 (exa e2 cBS t2)) := fun b o z => by rw [upd_ne (ne_of_none z he2), upd_ne (ne_of_none z ht2)]; exact z
      generalize (upd (upd C1 t2 (.tup [.str y])) e2 (exa e2 cBS t2)) = C2 at y2 q2' ⊢
      replace y1 := y1.same q2'
      refine ⟨(by show 2 ≤ sizeLine; decide), fun le hle => ?_⟩
      have q3' := same_new (o := .lst [.ref e1, .ref e2]) hle
      have g10 := at_new (o := .lst [.ref e1, .ref e2]) hle
      generalize (upd C2 le (.lst [.ref e1, .ref e2])) = C3 at q3' g10 ⊢
      replace y1 := y1.same q3'
      replace y2 := y2.same q3'
      have n93 : Same B9 C3 := (q1'.trans q2').trans q3'
      have nle : le ≠ r9 := by
        intro z
        have zz := n93 _ _ g9
        rw [← z, g10] at zz
        have zl := HO.lst.inj (Option.some.inj zz)
        rw [← zl] at z8
        cases z8
      refine ⟨le, rfl, ⟨_, SqL.of g10⟩, for_list (K := K) (a := le) (xs := [.ref e1, .ref e2])
        (fun i σ H' => But r9 C3 H' ∧ (∃ ys, H' r9 = some (.lst (ls ++ ys)) ∧ Lines H' v ys ([cBO, cBS].take i)) ∧ ∃ x10 x11 x12 x13 : Option V, σ = [some (.ref a), some (.int z), some (.ref p), some (.ref l2), some v, some u, some (.str y), some (.ref r9), some (.ref eB), some (.ref eL), x10, x11, x12, x13, none])
        ⟨fun _ _ z _ => z, ⟨[], by rw [List.append_nil]; exact n93 _ _ g9, .nil⟩, _, _, _, _, rfl⟩ (fun i σ H' _ ⟨m, _⟩ => SqL.of (m _ _ g10 nle)) ?_ ?_⟩
      · rintro i er σ H' hi ⟨B, ⟨ys, hys, LY⟩, w10, w11, w12, w13, rfl⟩
        have z9 : ys.length = i ∧ i < 2 := by
          have h1 := Paired.length LY
          have h2 : i < 2 := (List.getElem?_eq_some_iff.mp hi).1
          rw [List.length_take] at h1
          exact ⟨by rw [h1]; show min i 2 = i; omega, h2⟩
        obtain ⟨e, C, rfl, xe, cx, cs'⟩ : ∃ e C, er = V.ref e ∧ Bo C3 e C y ∧ [cBO, cBS][i]? = some C ∧ PySem.W.findIn K (.ref C) "__str__" = some (some (.builtin "BaseException.__str__")) ∧ XcOk K CP C := by
          rcases (by omega : i = 0 ∨ i = 1) with rfl | rfl
          · exact ⟨e1, cBO, (Option.some.inj hi).symm, y1, rfl, T.sBO, T.bo⟩
          · exact ⟨e2, cBS, (Option.some.inj hi).symm, y2, rfl, T.sBS, T.bs⟩
        have xe' : Bo H' e C y := xe.but (n93 _ _ g9) B
        obtain ⟨tt, ha, hb⟩ := id xe'
        refine ⟨_, rfl, e, C, tt, y, rfl, ha, hb, cs'.1, (cs'.2.sub _).trans (congrArg some (by rfl)), _, rfl, rfl, _, rfl, ?_⟩
        refine iteNS rfl ?_
        refine ⟨_, rfl, .inl ⟨rfl, _, SqL.of hys⟩, _, rfl, _, rfl, (by show 2 ≤ sizeLine; decide), fun tn htn => ?_⟩
        have nn := same_new (o := .tup [.ref e, v]) htn
        have kn : Line (upd H' tn (.tup [.ref e, v])) v (.ref tn) C := ⟨tn, e, rfl, upd_same, .inr ⟨tt, nn _ _ ha⟩⟩
        generalize (upd H' tn (.tup [.ref e, v])) = D1 at nn kn ⊢
        have hy1 := nn _ _ hys
        have bb : But r9 D1 (upd D1 r9 (.lst (ls ++ ys ++ [.ref tn]))) := But.upd
        refine ⟨r9, _, _, rfl, rfl, hy1, ?_, ?_⟩
        · rw [List.length_append, z8, z9.1, sizeLine_eq]
          omega
        · refine ⟨fun b o q n => bb _ _ (nn _ _ (B _ _ q n)) n, ⟨ys ++ [.ref tn], by rw [upd_same, List.append_assoc], ?_⟩, _, _, _, _, rfl⟩
          rw [take_next cx]
          exact Lines.append (Lines.but (Lines.same LY nn) hy1 bb) (.cons (kn.but hy1 bb) .nil)
      · rintro σ H' ⟨B, ⟨ys, hys, LY⟩, w10, w11, w12, w13, rfl⟩
        have S8F : Same B8 H' := fun b o e => B _ _ (n93 _ _ (n9 _ _ e)) (ne_of_none e hr9)
        have LF : Lines H' v (ls ++ ys) cs := by
          rw [T.eq]
          exact (L8.same S8F).append LY
        have tF : Thing H' v := tv.same S8F
        have SF : Same H3 H' := S10.trans S8F
        clear S8F LY L8 B n93 nle q1' q2' q3' y1 y2 g10 hle he1 he2 ht1 ht2 ne1 ne2 n9 g9 sh rB rL hr9 tu tv S10
        refine ⟨_, rfl, r9, _, rfl, SqL.of hys, for_it (walk_enum (K := K) (a := r9) (xs := ls ++ ys)) (fun i σ H2 => Same H' H2 ∧ ∃ x10 x11 x12 x13 : Option V, σ = [some (.ref a), some (.int z), some (.ref p), some (.ref l2), some v, some u, some (.str y), some (.ref r9), some (.ref eB), some (.ref eL), x10, x11, x12, x13, none])
          ⟨Same.refl _, _, _, _, _, rfl⟩ (fun i σ H2 _ ⟨m, _⟩ => SqL.of (m _ _ hys)) ?_ ?_⟩
        · rintro i x σ H4 H5 hi ⟨mi, w10, w11, w12, w13, rfl⟩ ⟨T0, kx, lx, rfl, hT0, rfl, ek, el⟩
          cases ek
          obtain ⟨C, hC, tl, e, rfl, htl, ev⟩ := pair_get LF el
          have mT := same_new (o := .tup [.int (i : Nat), .ref tl]) hT0
          have fT := at_new (o := .tup [.int (i : Nat), .ref tl]) hT0
          have m5 := mi.trans mT
          generalize (upd H4 T0 (.tup [.int (i : Nat), .ref tl])) = H5 at mT fT m5 ⊢
          refine ⟨T0, _, rfl, SqT.of fT, rfl, _, _, rfl, _, _, rfl, rfl, ?_⟩
          refine ⟨_, rfl, tl, _, rfl, SqT.of (m5 _ _ htl), rfl, _, _, rfl, _, _, rfl, rfl, ?_⟩
          replace ev := ev.same m5
          obtain ⟨xc, ncp⟩ := T.all C (List.mem_of_getElem? hC)
          have ec := xc.exc T.z0
          refine ⟨_, rfl, e, C, _, _, true, rfl, ev, ec, .own _, xc.kitP T.cP, _, rfl, ?_⟩
          refine iteF ?_
          refine ⟨_, rfl, e, C, _, _, true, rfl, ev, ec, .ty _, xc.kitV, _, rfl, ?_⟩
          refine iteF ?_
          refine ⟨_, rfl, e, C, fun j => decide (i = j), rfl, ev, ec, fun j D hj => ?_, fun pk Hk mk gk => ?_⟩
          · obtain ⟨yc, ycp⟩ := T.all D (List.mem_of_getElem? hj)
            rw [xc.kit yc ycp, nodup_at T.nd hC hj]
          · refine ⟨21, rfl, by decide, by decide, fun D hD => ?_⟩
            refine lc_range (lo := 0) (n := 21) (fun j H2 => Same Hk H2 ∧ H2 D = some (.lst ((List.range j).map fun m => V.bl (decide (i = m))))) ⟨same_new hD, upd_same⟩ ?_ ?_
            · rintro j H2 hj ⟨mj, fj⟩
              refine ⟨rfl, _, rfl, _, rfl, rfl, _, fj, ?_, ?_, ?_⟩
              · rw [List.length_map, List.length_range]
                exact small1000 (by omega)
              · refine fun b o q => ?_
                have nb : b ≠ D := ne_of_none q hD
                rw [upd_ne nb]
                exact mj _ _ q
              · rw [upd_same, List.range_succ, List.map_append]
                have e1 : decide (V.int ((i : Nat) : Int) = V.int (0 + (j : Nat))) = decide (i = j) := by
                  apply decide_eq_decide.mpr
                  constructor
                  · intro q
                    have q' := V.int.inj q
                    omega
                  · intro q
                    rw [q]
                    exact congrArg V.int (by omega)
                rw [e1]
                rfl
            · rintro H2 ⟨mj, fj⟩
              have dd : Dp K H2 (.ref D) (.list ((List.range 21).map fun m => PyData.bool (decide (i = m)))) := .lst (SqL.of fj) (bools _ _)
              have dk : Dp K H2 (.ref pk) (.list ((List.range 21).map fun m => PyData.bool (decide (i = m)))) := .lst (SqL.of (mj _ _ gk)) (bools _ _)
              have hsh : SeqAt.shaped (.list ((List.range 21).map fun m => PyData.bool (decide (i = m)))) = true := by rfl
              refine ⟨_, _, dk, dd, hsh, hsh, _, rfl, ?_⟩
              rw [SeqAt.eqv_refl _ (SeqAt.canLay_of_shaped hsh)]
              refine iteF ?_
              have m2 := (m5.trans mk).trans mj
              have t2 := tF.same m2
              refine ⟨_, rfl, _, rfl, t2.ne ⟨_, rfl, ?_⟩⟩
              refine iteF ?_
              obtain ⟨ty, bb, hty, hkit⟩ := t2.isB (K := K)
              refine ⟨_, rfl, _, _, ty, _, bb, rfl, .ty _, hty, hkit, _, rfl, _, _, ty, _, bb, rfl, .ty _, hty, hkit, rfl, _, rfl, ?_⟩
              refine iteNS rfl ?_
              exact ⟨m2, _, _, _, _, rfl⟩
        · rintro σ H2 ⟨mi, w10, w11, w12, w13, rfl⟩
          exact ⟨m3.trans (SF.trans mi), _, _, _, _, _, _, _, _, _, _, _, _, _, rfl⟩
    · rintro σ H3 ⟨m3, _⟩
      exact k H3
end
end K6

namespace K6
open PySem L2 XR
theorem walk {l : PySem.W.OpenLaw} {q : Program} {loose : List Str} {XP : (Str → Option Value) → Heap → Prop} {YP : World → Heap → Prop} {d : DefRec} {K : Params → PySem.W.Frag} (hn : l.most = some 63) (hdf : d.params.defaults = [])
    (hY : ∀ (w : World) (h : Heap), YP w h → (K w.params).In h)
    (F : ∀ (w : World) (mg : Str → Option Value) (fa : Addr) (h : Heap), (K w.params).In h → h.Ns mainGlobals mg → mg d.name = some (.ref fa) →
      ∃ fd : FuncData, (∀ (s : Shared) (u : Value), BindsTo s fd ⟨[u], []⟩ [("_law_script", u)]) ∧ ∀ base : Heap, (K w.params).In base → base.Ns mainGlobals mg → TopOk l.prog w (K w.params) mg base 4 fa fd ["_law_script"] (spLaw (K w.params))) :
    PySem.W.WalkO q loose XP YP l.row.toRowW d [] (fun f vs => PySem.call f vs) :=
  walk_top (n := 63) (k := 4) (x := "_law_script") (sp := spLaw) hn (by decide) hdf ⟨rfl, by decide, by decide⟩ hY F fun _ _ a ns hl _ hS => ⟨a, ns, rfl, hS, hl, fun _ => rfl⟩
theorem all_mk {l : PySem.W.OpenLaw} {w : World} {K : PySem.W.Frag} {h : Heap} {mg : Str → Option Value} {fa : Addr} (X : K.In h) (G : h.Ns mainGlobals mg) (hfa : mg "law" = some (.ref fa))
    {CP c2 c3 c4 c6 c7 c8 c10 c11 c12 c13 c14 c15 c16 c17 c18 c19 c20 c5 c9 c21 c22 f2 f3 f4 f6 f7 f8 f10 f11 f12 f13 f14 f15 f16 f17 f18 f19 f20 f5 f9 f25 f26 f27 f28 f29 f30 f31 : Addr}
    {nm2 q2 : Str} {N2 : Addr} {bs2 : List Value} {sn2 : List Str} {su2 : List Value} {ab2 : Bool} {co2 : Option Bool} {dd2 : Option Addr} {m02 m12 m22 m32 m52 : Option Value}
    {nm3 q3 : Str} {N3 : Addr} {bs3 : List Value} {sn3 : List Str} {su3 : List Value} {ab3 : Bool} {co3 : Option Bool} {dd3 : Option Addr} {m03 m13 m23 m33 m53 : Option Value}
    {nm4 q4 : Str} {N4 : Addr} {bs4 : List Value} {sn4 : List Str} {su4 : List Value} {ab4 : Bool} {co4 : Option Bool} {dd4 : Option Addr} {m04 m14 m24 m34 m54 : Option Value}
    {nm6 q6 : Str} {N6 : Addr} {bs6 : List Value} {sn6 : List Str} {su6 : List Value} {ab6 : Bool} {co6 : Option Bool} {dd6 : Option Addr} {m06 m16 m26 m36 m56 : Option Value}
    {nm7 q7 : Str} {N7 : Addr} {bs7 : List Value} {sn7 : List Str} {su7 : List Value} {ab7 : Bool} {co7 : Option Bool} {dd7 : Option Addr} {m07 m17 m27 m37 m57 : Option Value}
    {nm8 q8 : Str} {N8 : Addr} {bs8 : List Value} {sn8 : List Str} {su8 : List Value} {ab8 : Bool} {co8 : Option Bool} {dd8 : Option Addr} {m08 m18 m28 m38 m58 : Option Value}
    {nm10 q10 : Str} {N10 : Addr} {bs10 : List Value} {sn10 : List Str} {su10 : List Value} {ab10 : Bool} {co10 : Option Bool} {dd10 : Option Addr} {m010 m110 m210 m310 m510 : Option Value}
    {nm11 q11 : Str} {N11 : Addr} {bs11 : List Value} {sn11 : List Str} {su11 : List Value} {ab11 : Bool} {co11 : Option Bool} {dd11 : Option Addr} {m011 m111 m211 m311 m511 : Option Value}
    {nm12 q12 : Str} {N12 : Addr} {bs12 : List Value} {sn12 : List Str} {su12 : List Value} {ab12 : Bool} {co12 : Option Bool} {dd12 : Option Addr} {m012 m112 m212 m312 m512 : Option Value}
    {nm13 q13 : Str} {N13 : Addr} {bs13 : List Value} {sn13 : List Str} {su13 : List Value} {ab13 : Bool} {co13 : Option Bool} {dd13 : Option Addr} {m013 m113 m213 m313 m513 : Option Value}
    {nm14 q14 : Str} {N14 : Addr} {bs14 : List Value} {sn14 : List Str} {su14 : List Value} {ab14 : Bool} {co14 : Option Bool} {dd14 : Option Addr} {m014 m114 m214 m314 m514 : Option Value}
    {nm15 q15 : Str} {N15 : Addr} {bs15 : List Value} {sn15 : List Str} {su15 : List Value} {ab15 : Bool} {co15 : Option Bool} {dd15 : Option Addr} {m015 m115 m215 m315 m515 : Option Value}
    {nm16 q16 : Str} {N16 : Addr} {bs16 : List Value} {sn16 : List Str} {su16 : List Value} {ab16 : Bool} {co16 : Option Bool} {dd16 : Option Addr} {m016 m116 m216 m316 m516 : Option Value}
    {nm17 q17 : Str} {N17 : Addr} {bs17 : List Value} {sn17 : List Str} {su17 : List Value} {ab17 : Bool} {co17 : Option Bool} {dd17 : Option Addr} {m017 m117 m217 m317 m517 : Option Value}
    {nm18 q18 : Str} {N18 : Addr} {bs18 : List Value} {sn18 : List Str} {su18 : List Value} {ab18 : Bool} {co18 : Option Bool} {dd18 : Option Addr} {m018 m118 m218 m318 m518 : Option Value}
    {nm19 q19 : Str} {N19 : Addr} {bs19 : List Value} {sn19 : List Str} {su19 : List Value} {ab19 : Bool} {co19 : Option Bool} {dd19 : Option Addr} {m019 m119 m219 m319 m519 : Option Value}
    {nm20 q20 : Str} {N20 : Addr} {bs20 : List Value} {sn20 : List Str} {su20 : List Value} {ab20 : Bool} {co20 : Option Bool} {dd20 : Option Addr} {m020 m120 m220 m320 m520 : Option Value}
    {nm5 q5 : Str} {N5 : Addr} {bs5 : List Value} {sn5 : List Str} {su5 : List Value} {ab5 : Bool} {co5 : Option Bool} {dd5 : Option Addr} {m05 m15 m25 m35 m55 : Option Value}
    {nm9 q9 : Str} {N9 : Addr} {bs9 : List Value} {sn9 : List Str} {su9 : List Value} {ab9 : Bool} {co9 : Option Bool} {dd9 : Option Addr} {m09 m19 m29 m39 m59 : Option Value}
    {nm21 q21 : Str} {N21 : Addr} {bs21 : List Value} {sn21 : List Str} {su21 : List Value} {ab21 : Bool} {co21 : Option Bool} {dd21 : Option Addr} {m021 m121 m221 m321 m521 : Option Value}
    {nm22 q22 : Str} {N22 : Addr} {bs22 : List Value} {sn22 : List Str} {su22 : List Value} {ab22 : Bool} {co22 : Option Bool} {dd22 : Option Addr} {m022 m122 m222 m322 m522 : Option Value}
    {od2 an2 : Option Addr} {sl2 : Array (Option Value)} {oc2 kV2 dc2 pm2 cd2 ct2 : Value}
    {od3 an3 : Option Addr} {sl3 : Array (Option Value)} {oc3 kV3 dc3 pm3 cd3 ct3 : Value}
    {od4 an4 : Option Addr} {sl4 : Array (Option Value)} {oc4 kV4 dc4 pm4 cd4 ct4 : Value}
    {od6 an6 : Option Addr} {sl6 : Array (Option Value)} {oc6 kV6 dc6 pm6 cd6 ct6 : Value}
    {od7 an7 : Option Addr} {sl7 : Array (Option Value)} {oc7 kV7 dc7 pm7 cd7 ct7 : Value}
    {od8 an8 : Option Addr} {sl8 : Array (Option Value)} {oc8 kV8 dc8 pm8 cd8 ct8 : Value}
    {od10 an10 : Option Addr} {sl10 : Array (Option Value)} {oc10 kV10 dc10 pm10 cd10 ct10 : Value}
    {od11 an11 : Option Addr} {sl11 : Array (Option Value)} {oc11 kV11 dc11 pm11 cd11 ct11 : Value}
    {od12 an12 : Option Addr} {sl12 : Array (Option Value)} {oc12 kV12 dc12 pm12 cd12 ct12 : Value}
    {od13 an13 : Option Addr} {sl13 : Array (Option Value)} {oc13 kV13 dc13 pm13 cd13 ct13 : Value}
    {od14 an14 : Option Addr} {sl14 : Array (Option Value)} {oc14 kV14 dc14 pm14 cd14 ct14 : Value}
    {od15 an15 : Option Addr} {sl15 : Array (Option Value)} {oc15 kV15 dc15 pm15 cd15 ct15 : Value}
    {od16 an16 : Option Addr} {sl16 : Array (Option Value)} {oc16 kV16 dc16 pm16 cd16 ct16 : Value}
    {od17 an17 : Option Addr} {sl17 : Array (Option Value)} {oc17 kV17 dc17 pm17 cd17 ct17 : Value}
    {od18 an18 : Option Addr} {sl18 : Array (Option Value)} {oc18 kV18 dc18 pm18 cd18 ct18 : Value}
    {od19 an19 : Option Addr} {sl19 : Array (Option Value)} {oc19 kV19 dc19 pm19 cd19 ct19 : Value}
    {od20 an20 : Option Addr} {sl20 : Array (Option Value)} {oc20 kV20 dc20 pm20 cd20 ct20 : Value}
    {od5 an5 : Option Addr} {sl5 : Array (Option Value)} {oc5 kV5 dc5 pm5 cd5 ct5 : Value}
    {od9 an9 : Option Addr} {sl9 : Array (Option Value)} {oc9 kV9 dc9 pm9 cd9 ct9 : Value}
    {od25 an25 : Option Addr} {sl25 : Array (Option Value)} {oc25 kV25 dc25 pm25 cd25 ct25 : Value}
    {od26 an26 : Option Addr} {sl26 : Array (Option Value)} {oc26 kV26 dc26 pm26 cd26 ct26 : Value}
    {od27 an27 : Option Addr} {sl27 : Array (Option Value)} {oc27 kV27 dc27 pm27 cd27 ct27 : Value}
    {od28 an28 : Option Addr} {sl28 : Array (Option Value)} {oc28 kV28 dc28 pm28 cd28 ct28 : Value}
    {od29 an29 : Option Addr} {sl29 : Array (Option Value)} {oc29 kV29 dc29 pm29 cd29 ct29 : Value}
    {od30 an30 : Option Addr} {sl30 : Array (Option Value)} {oc30 kV30 dc30 pm30 cd30 ct30 : Value}
    {od31 an31 : Option Addr} {sl31 : Array (Option Value)} {oc31 kV31 dc31 pm31 cd31 ct31 : Value}
    (aP : PySem.W.nsIn K mainGlobals "PlanError" = some (some (.ref CP)))
    (rP : PySem.W.readsIn K CP (.type "type") = true)
    (gP : PySem.W.specialIn K (.ref CP) "__getattribute__" = some (some (.builtin "type.__getattribute__")))
    (vP : PySem.W.findCls K (.ref CP) (.type "type") "__init__" = some (.val (.builtin "ValueError.__init__")))
    (iP : PySem.W.isClsIn K CP = true)
    (tP : PySem.W.typeIn K (.ref CP) = some (.type "type"))
    (hn : PySem.W.specialIn K (.builtin "object.__class__") "__get__" = some (some (.builtin "getset_descriptor.__get__")))
    (ht : PySem.W.takesIn K (.builtin "object.__class__") = some true)
    (a2 : PySem.W.nsIn K mainGlobals "Misfit" = some (some (.ref c2)))
    (x2 : K.lookup c2 = some (excClassObj nm2 q2 c2 N2 bs2 (K6.tail CP) true sn2 su2 ab2 co2 dd2 m02 m12 m22 m32 m52 "ValueError.__new__"))
    (s2 : PySem.W.findIn K (.ref c2) "__setattr__" = some (some (.builtin "object.__setattr__")))
    (g2 : PySem.W.findIn K (.ref c2) "__getattribute__" = some (some (.builtin "BaseException.__getattribute__")))
    (k2 : PySem.W.findIn K (.ref c2) "__getattr__" = some none)
    (h2 : PySem.W.findIn K (.ref c2) "__class__" = some (some (.builtin "object.__class__")))
    (p2 : PySem.W.keepIn K (.ref c2) = true)
    (t2 : PySem.W.typeIn K (.ref c2) = some (.type "type"))
    (a3 : PySem.W.nsIn K mainGlobals "NoKind" = some (some (.ref c3)))
    (x3 : K.lookup c3 = some (excClassObj nm3 q3 c3 N3 bs3 (K6.tail CP) true sn3 su3 ab3 co3 dd3 m03 m13 m23 m33 m53 "ValueError.__new__"))
    (s3 : PySem.W.findIn K (.ref c3) "__setattr__" = some (some (.builtin "object.__setattr__")))
    (g3 : PySem.W.findIn K (.ref c3) "__getattribute__" = some (some (.builtin "BaseException.__getattribute__")))
    (k3 : PySem.W.findIn K (.ref c3) "__getattr__" = some none)
    (h3 : PySem.W.findIn K (.ref c3) "__class__" = some (some (.builtin "object.__class__")))
    (p3 : PySem.W.keepIn K (.ref c3) = true)
    (t3 : PySem.W.typeIn K (.ref c3) = some (.type "type"))
    (a4 : PySem.W.nsIn K mainGlobals "NoConfig" = some (some (.ref c4)))
    (x4 : K.lookup c4 = some (excClassObj nm4 q4 c4 N4 bs4 (K6.tail CP) true sn4 su4 ab4 co4 dd4 m04 m14 m24 m34 m54 "ValueError.__new__"))
    (s4 : PySem.W.findIn K (.ref c4) "__setattr__" = some (some (.builtin "object.__setattr__")))
    (g4 : PySem.W.findIn K (.ref c4) "__getattribute__" = some (some (.builtin "BaseException.__getattribute__")))
    (k4 : PySem.W.findIn K (.ref c4) "__getattr__" = some none)
    (h4 : PySem.W.findIn K (.ref c4) "__class__" = some (some (.builtin "object.__class__")))
    (p4 : PySem.W.keepIn K (.ref c4) = true)
    (t4 : PySem.W.typeIn K (.ref c4) = some (.type "type"))
    (a6 : PySem.W.nsIn K mainGlobals "NoValue" = some (some (.ref c6)))
    (x6 : K.lookup c6 = some (excClassObj nm6 q6 c6 N6 bs6 (K6.tail CP) true sn6 su6 ab6 co6 dd6 m06 m16 m26 m36 m56 "ValueError.__new__"))
    (s6 : PySem.W.findIn K (.ref c6) "__setattr__" = some (some (.builtin "object.__setattr__")))
    (g6 : PySem.W.findIn K (.ref c6) "__getattribute__" = some (some (.builtin "BaseException.__getattribute__")))
    (k6 : PySem.W.findIn K (.ref c6) "__getattr__" = some none)
    (h6 : PySem.W.findIn K (.ref c6) "__class__" = some (some (.builtin "object.__class__")))
    (p6 : PySem.W.keepIn K (.ref c6) = true)
    (t6 : PySem.W.typeIn K (.ref c6) = some (.type "type"))
    (a7 : PySem.W.nsIn K mainGlobals "Unsure" = some (some (.ref c7)))
    (x7 : K.lookup c7 = some (excClassObj nm7 q7 c7 N7 bs7 (K6.tail CP) true sn7 su7 ab7 co7 dd7 m07 m17 m27 m37 m57 "ValueError.__new__"))
    (s7 : PySem.W.findIn K (.ref c7) "__setattr__" = some (some (.builtin "object.__setattr__")))
    (g7 : PySem.W.findIn K (.ref c7) "__getattribute__" = some (some (.builtin "BaseException.__getattribute__")))
    (k7 : PySem.W.findIn K (.ref c7) "__getattr__" = some none)
    (h7 : PySem.W.findIn K (.ref c7) "__class__" = some (some (.builtin "object.__class__")))
    (p7 : PySem.W.keepIn K (.ref c7) = true)
    (t7 : PySem.W.typeIn K (.ref c7) = some (.type "type"))
    (a8 : PySem.W.nsIn K mainGlobals "BadMany" = some (some (.ref c8)))
    (x8 : K.lookup c8 = some (excClassObj nm8 q8 c8 N8 bs8 (K6.tail CP) true sn8 su8 ab8 co8 dd8 m08 m18 m28 m38 m58 "ValueError.__new__"))
    (s8 : PySem.W.findIn K (.ref c8) "__setattr__" = some (some (.builtin "object.__setattr__")))
    (g8 : PySem.W.findIn K (.ref c8) "__getattribute__" = some (some (.builtin "BaseException.__getattribute__")))
    (k8 : PySem.W.findIn K (.ref c8) "__getattr__" = some none)
    (h8 : PySem.W.findIn K (.ref c8) "__class__" = some (some (.builtin "object.__class__")))
    (p8 : PySem.W.keepIn K (.ref c8) = true)
    (t8 : PySem.W.typeIn K (.ref c8) = some (.type "type"))
    (a10 : PySem.W.nsIn K mainGlobals "Refused" = some (some (.ref c10)))
    (x10 : K.lookup c10 = some (excClassObj nm10 q10 c10 N10 bs10 (K6.tail CP) true sn10 su10 ab10 co10 dd10 m010 m110 m210 m310 m510 "ValueError.__new__"))
    (s10 : PySem.W.findIn K (.ref c10) "__setattr__" = some (some (.builtin "object.__setattr__")))
    (g10 : PySem.W.findIn K (.ref c10) "__getattribute__" = some (some (.builtin "BaseException.__getattribute__")))
    (k10 : PySem.W.findIn K (.ref c10) "__getattr__" = some none)
    (h10 : PySem.W.findIn K (.ref c10) "__class__" = some (some (.builtin "object.__class__")))
    (p10 : PySem.W.keepIn K (.ref c10) = true)
    (t10 : PySem.W.typeIn K (.ref c10) = some (.type "type"))
    (a11 : PySem.W.nsIn K mainGlobals "Ring" = some (some (.ref c11)))
    (x11 : K.lookup c11 = some (excClassObj nm11 q11 c11 N11 bs11 (K6.tail CP) true sn11 su11 ab11 co11 dd11 m011 m111 m211 m311 m511 "ValueError.__new__"))
    (s11 : PySem.W.findIn K (.ref c11) "__setattr__" = some (some (.builtin "object.__setattr__")))
    (g11 : PySem.W.findIn K (.ref c11) "__getattribute__" = some (some (.builtin "BaseException.__getattribute__")))
    (k11 : PySem.W.findIn K (.ref c11) "__getattr__" = some none)
    (h11 : PySem.W.findIn K (.ref c11) "__class__" = some (some (.builtin "object.__class__")))
    (p11 : PySem.W.keepIn K (.ref c11) = true)
    (t11 : PySem.W.typeIn K (.ref c11) = some (.type "type"))
    (a12 : PySem.W.nsIn K mainGlobals "Taken" = some (some (.ref c12)))
    (x12 : K.lookup c12 = some (excClassObj nm12 q12 c12 N12 bs12 (K6.tail CP) true sn12 su12 ab12 co12 dd12 m012 m112 m212 m312 m512 "ValueError.__new__"))
    (s12 : PySem.W.findIn K (.ref c12) "__setattr__" = some (some (.builtin "object.__setattr__")))
    (g12 : PySem.W.findIn K (.ref c12) "__getattribute__" = some (some (.builtin "BaseException.__getattribute__")))
    (k12 : PySem.W.findIn K (.ref c12) "__getattr__" = some none)
    (h12 : PySem.W.findIn K (.ref c12) "__class__" = some (some (.builtin "object.__class__")))
    (p12 : PySem.W.keepIn K (.ref c12) = true)
    (t12 : PySem.W.typeIn K (.ref c12) = some (.type "type"))
    (a13 : PySem.W.nsIn K mainGlobals "Gone" = some (some (.ref c13)))
    (x13 : K.lookup c13 = some (excClassObj nm13 q13 c13 N13 bs13 (K6.tail CP) true sn13 su13 ab13 co13 dd13 m013 m113 m213 m313 m513 "ValueError.__new__"))
    (s13 : PySem.W.findIn K (.ref c13) "__setattr__" = some (some (.builtin "object.__setattr__")))
    (g13 : PySem.W.findIn K (.ref c13) "__getattribute__" = some (some (.builtin "BaseException.__getattribute__")))
    (k13 : PySem.W.findIn K (.ref c13) "__getattr__" = some none)
    (h13 : PySem.W.findIn K (.ref c13) "__class__" = some (some (.builtin "object.__class__")))
    (p13 : PySem.W.keepIn K (.ref c13) = true)
    (t13 : PySem.W.typeIn K (.ref c13) = some (.type "type"))
    (a14 : PySem.W.nsIn K mainGlobals "InUse" = some (some (.ref c14)))
    (x14 : K.lookup c14 = some (excClassObj nm14 q14 c14 N14 bs14 (K6.tail CP) true sn14 su14 ab14 co14 dd14 m014 m114 m214 m314 m514 "ValueError.__new__"))
    (s14 : PySem.W.findIn K (.ref c14) "__setattr__" = some (some (.builtin "object.__setattr__")))
    (g14 : PySem.W.findIn K (.ref c14) "__getattribute__" = some (some (.builtin "BaseException.__getattribute__")))
    (k14 : PySem.W.findIn K (.ref c14) "__getattr__" = some none)
    (h14 : PySem.W.findIn K (.ref c14) "__class__" = some (some (.builtin "object.__class__")))
    (p14 : PySem.W.keepIn K (.ref c14) = true)
    (t14 : PySem.W.typeIn K (.ref c14) = some (.type "type"))
    (a15 : PySem.W.nsIn K mainGlobals "Occupied" = some (some (.ref c15)))
    (x15 : K.lookup c15 = some (excClassObj nm15 q15 c15 N15 bs15 (K6.tail CP) true sn15 su15 ab15 co15 dd15 m015 m115 m215 m315 m515 "ValueError.__new__"))
    (s15 : PySem.W.findIn K (.ref c15) "__setattr__" = some (some (.builtin "object.__setattr__")))
    (g15 : PySem.W.findIn K (.ref c15) "__getattribute__" = some (some (.builtin "BaseException.__getattribute__")))
    (k15 : PySem.W.findIn K (.ref c15) "__getattr__" = some none)
    (h15 : PySem.W.findIn K (.ref c15) "__class__" = some (some (.builtin "object.__class__")))
    (p15 : PySem.W.keepIn K (.ref c15) = true)
    (t15 : PySem.W.typeIn K (.ref c15) = some (.type "type"))
    (a16 : PySem.W.nsIn K mainGlobals "Owned" = some (some (.ref c16)))
    (x16 : K.lookup c16 = some (excClassObj nm16 q16 c16 N16 bs16 (K6.tail CP) true sn16 su16 ab16 co16 dd16 m016 m116 m216 m316 m516 "ValueError.__new__"))
    (s16 : PySem.W.findIn K (.ref c16) "__setattr__" = some (some (.builtin "object.__setattr__")))
    (g16 : PySem.W.findIn K (.ref c16) "__getattribute__" = some (some (.builtin "BaseException.__getattribute__")))
    (k16 : PySem.W.findIn K (.ref c16) "__getattr__" = some none)
    (h16 : PySem.W.findIn K (.ref c16) "__class__" = some (some (.builtin "object.__class__")))
    (p16 : PySem.W.keepIn K (.ref c16) = true)
    (t16 : PySem.W.typeIn K (.ref c16) = some (.type "type"))
    (a17 : PySem.W.nsIn K mainGlobals "NotThere" = some (some (.ref c17)))
    (x17 : K.lookup c17 = some (excClassObj nm17 q17 c17 N17 bs17 (K6.tail CP) true sn17 su17 ab17 co17 dd17 m017 m117 m217 m317 m517 "ValueError.__new__"))
    (s17 : PySem.W.findIn K (.ref c17) "__setattr__" = some (some (.builtin "object.__setattr__")))
    (g17 : PySem.W.findIn K (.ref c17) "__getattribute__" = some (some (.builtin "BaseException.__getattribute__")))
    (k17 : PySem.W.findIn K (.ref c17) "__getattr__" = some none)
    (h17 : PySem.W.findIn K (.ref c17) "__class__" = some (some (.builtin "object.__class__")))
    (p17 : PySem.W.keepIn K (.ref c17) = true)
    (t17 : PySem.W.typeIn K (.ref c17) = some (.type "type"))
    (a18 : PySem.W.nsIn K mainGlobals "Locked" = some (some (.ref c18)))
    (x18 : K.lookup c18 = some (excClassObj nm18 q18 c18 N18 bs18 (K6.tail CP) true sn18 su18 ab18 co18 dd18 m018 m118 m218 m318 m518 "ValueError.__new__"))
    (s18 : PySem.W.findIn K (.ref c18) "__setattr__" = some (some (.builtin "object.__setattr__")))
    (g18 : PySem.W.findIn K (.ref c18) "__getattribute__" = some (some (.builtin "BaseException.__getattribute__")))
    (k18 : PySem.W.findIn K (.ref c18) "__getattr__" = some none)
    (h18 : PySem.W.findIn K (.ref c18) "__class__" = some (some (.builtin "object.__class__")))
    (p18 : PySem.W.keepIn K (.ref c18) = true)
    (t18 : PySem.W.typeIn K (.ref c18) = some (.type "type"))
    (a19 : PySem.W.nsIn K mainGlobals "Stale" = some (some (.ref c19)))
    (x19 : K.lookup c19 = some (excClassObj nm19 q19 c19 N19 bs19 (K6.tail CP) true sn19 su19 ab19 co19 dd19 m019 m119 m219 m319 m519 "ValueError.__new__"))
    (s19 : PySem.W.findIn K (.ref c19) "__setattr__" = some (some (.builtin "object.__setattr__")))
    (g19 : PySem.W.findIn K (.ref c19) "__getattribute__" = some (some (.builtin "BaseException.__getattribute__")))
    (k19 : PySem.W.findIn K (.ref c19) "__getattr__" = some none)
    (h19 : PySem.W.findIn K (.ref c19) "__class__" = some (some (.builtin "object.__class__")))
    (p19 : PySem.W.keepIn K (.ref c19) = true)
    (t19 : PySem.W.typeIn K (.ref c19) = some (.type "type"))
    (a20 : PySem.W.nsIn K mainGlobals "NotGeneric" = some (some (.ref c20)))
    (x20 : K.lookup c20 = some (excClassObj nm20 q20 c20 N20 bs20 (K6.tail CP) true sn20 su20 ab20 co20 dd20 m020 m120 m220 m320 m520 "ValueError.__new__"))
    (s20 : PySem.W.findIn K (.ref c20) "__setattr__" = some (some (.builtin "object.__setattr__")))
    (g20 : PySem.W.findIn K (.ref c20) "__getattribute__" = some (some (.builtin "BaseException.__getattribute__")))
    (k20 : PySem.W.findIn K (.ref c20) "__getattr__" = some none)
    (h20 : PySem.W.findIn K (.ref c20) "__class__" = some (some (.builtin "object.__class__")))
    (p20 : PySem.W.keepIn K (.ref c20) = true)
    (t20 : PySem.W.typeIn K (.ref c20) = some (.type "type"))
    (a5 : PySem.W.nsIn K mainGlobals "BadConfig" = some (some (.ref c5)))
    (x5 : K.lookup c5 = some (excClassObj nm5 q5 c5 N5 bs5 (K6.tail CP) true sn5 su5 ab5 co5 dd5 m05 m15 m25 m35 m55 "ValueError.__new__"))
    (s5 : PySem.W.findIn K (.ref c5) "__setattr__" = some (some (.builtin "object.__setattr__")))
    (g5 : PySem.W.findIn K (.ref c5) "__getattribute__" = some (some (.builtin "BaseException.__getattribute__")))
    (k5 : PySem.W.findIn K (.ref c5) "__getattr__" = some none)
    (h5 : PySem.W.findIn K (.ref c5) "__class__" = some (some (.builtin "object.__class__")))
    (p5 : PySem.W.keepIn K (.ref c5) = true)
    (t5 : PySem.W.typeIn K (.ref c5) = some (.type "type"))
    (a9 : PySem.W.nsIn K mainGlobals "Lacking" = some (some (.ref c9)))
    (x9 : K.lookup c9 = some (excClassObj nm9 q9 c9 N9 bs9 (K6.tail CP) true sn9 su9 ab9 co9 dd9 m09 m19 m29 m39 m59 "ValueError.__new__"))
    (s9 : PySem.W.findIn K (.ref c9) "__setattr__" = some (some (.builtin "object.__setattr__")))
    (g9 : PySem.W.findIn K (.ref c9) "__getattribute__" = some (some (.builtin "BaseException.__getattribute__")))
    (k9 : PySem.W.findIn K (.ref c9) "__getattr__" = some none)
    (h9 : PySem.W.findIn K (.ref c9) "__class__" = some (some (.builtin "object.__class__")))
    (p9 : PySem.W.keepIn K (.ref c9) = true)
    (t9 : PySem.W.typeIn K (.ref c9) = some (.type "type"))
    (a21 : PySem.W.nsIn K mainGlobals "BadOrder" = some (some (.ref c21)))
    (x21 : K.lookup c21 = some (excClassObj nm21 q21 c21 N21 bs21 (K6.tail CP) true sn21 su21 ab21 co21 dd21 m021 m121 m221 m321 m521 "ValueError.__new__"))
    (s21 : PySem.W.findIn K (.ref c21) "__setattr__" = some (some (.builtin "object.__setattr__")))
    (g21 : PySem.W.findIn K (.ref c21) "__getattribute__" = some (some (.builtin "BaseException.__getattribute__")))
    (k21 : PySem.W.findIn K (.ref c21) "__getattr__" = some none)
    (h21 : PySem.W.findIn K (.ref c21) "__class__" = some (some (.builtin "object.__class__")))
    (p21 : PySem.W.keepIn K (.ref c21) = true)
    (t21 : PySem.W.typeIn K (.ref c21) = some (.type "type"))
    (a22 : PySem.W.nsIn K mainGlobals "BadSteps" = some (some (.ref c22)))
    (x22 : K.lookup c22 = some (excClassObj nm22 q22 c22 N22 bs22 (K6.tail CP) true sn22 su22 ab22 co22 dd22 m022 m122 m222 m322 m522 "ValueError.__new__"))
    (s22 : PySem.W.findIn K (.ref c22) "__setattr__" = some (some (.builtin "object.__setattr__")))
    (g22 : PySem.W.findIn K (.ref c22) "__getattribute__" = some (some (.builtin "BaseException.__getattribute__")))
    (k22 : PySem.W.findIn K (.ref c22) "__getattr__" = some none)
    (h22 : PySem.W.findIn K (.ref c22) "__class__" = some (some (.builtin "object.__class__")))
    (p22 : PySem.W.keepIn K (.ref c22) = true)
    (t22 : PySem.W.typeIn K (.ref c22) = some (.type "type"))
    (i2 : PySem.W.findIn K (.ref c2) "__init__" = some (some (.ref f2)))
    (j2 : PySem.W.typeIn K (.ref f2) = some (.type "function"))
    (n2_0 : PySem.W.findIn K (.ref c2) "expression" = some none)
    (l2 : K.lookup f2 = some ⟨oc2, od2, .func (PySem.W.fnOf "__init__" "Misfit.__init__" (defArgs sI2) (defBody sI2) (defScope sI2) .none kV2 dc2 pm2 an2 cd2 ct2), sl2⟩)
    (y2 : PySem.W.codeIn K cd2 "Misfit.__init__" = true)
    (z2 : PySem.W.keepIn K (.ref f2) = true)
    (i3 : PySem.W.findIn K (.ref c3) "__init__" = some (some (.ref f3)))
    (j3 : PySem.W.typeIn K (.ref f3) = some (.type "function"))
    (n3_0 : PySem.W.findIn K (.ref c3) "part" = some none)
    (l3 : K.lookup f3 = some ⟨oc3, od3, .func (PySem.W.fnOf "__init__" "NoKind.__init__" (defArgs sI3) (defBody sI3) (defScope sI3) .none kV3 dc3 pm3 an3 cd3 ct3), sl3⟩)
    (y3 : PySem.W.codeIn K cd3 "NoKind.__init__" = true)
    (z3 : PySem.W.keepIn K (.ref f3) = true)
    (i4 : PySem.W.findIn K (.ref c4) "__init__" = some (some (.ref f4)))
    (j4 : PySem.W.typeIn K (.ref f4) = some (.type "function"))
    (n4_0 : PySem.W.findIn K (.ref c4) "at" = some none)
    (l4 : K.lookup f4 = some ⟨oc4, od4, .func (PySem.W.fnOf "__init__" "NoConfig.__init__" (defArgs sI4) (defBody sI4) (defScope sI4) .none kV4 dc4 pm4 an4 cd4 ct4), sl4⟩)
    (y4 : PySem.W.codeIn K cd4 "NoConfig.__init__" = true)
    (z4 : PySem.W.keepIn K (.ref f4) = true)
    (i6 : PySem.W.findIn K (.ref c6) "__init__" = some (some (.ref f6)))
    (j6 : PySem.W.typeIn K (.ref f6) = some (.type "function"))
    (n6_0 : PySem.W.findIn K (.ref c6) "param" = some none)
    (l6 : K.lookup f6 = some ⟨oc6, od6, .func (PySem.W.fnOf "__init__" "NoValue.__init__" (defArgs sI6) (defBody sI6) (defScope sI6) .none kV6 dc6 pm6 an6 cd6 ct6), sl6⟩)
    (y6 : PySem.W.codeIn K cd6 "NoValue.__init__" = true)
    (z6 : PySem.W.keepIn K (.ref f6) = true)
    (i7 : PySem.W.findIn K (.ref c7) "__init__" = some (some (.ref f7)))
    (j7 : PySem.W.typeIn K (.ref f7) = some (.type "function"))
    (n7_0 : PySem.W.findIn K (.ref c7) "address" = some none)
    (l7 : K.lookup f7 = some ⟨oc7, od7, .func (PySem.W.fnOf "__init__" "Unsure.__init__" (defArgs sI7) (defBody sI7) (defScope sI7) .none kV7 dc7 pm7 an7 cd7 ct7), sl7⟩)
    (y7 : PySem.W.codeIn K cd7 "Unsure.__init__" = true)
    (z7 : PySem.W.keepIn K (.ref f7) = true)
    (i8 : PySem.W.findIn K (.ref c8) "__init__" = some (some (.ref f8)))
    (j8 : PySem.W.typeIn K (.ref f8) = some (.type "function"))
    (n8_0 : PySem.W.findIn K (.ref c8) "address" = some none)
    (l8 : K.lookup f8 = some ⟨oc8, od8, .func (PySem.W.fnOf "__init__" "BadMany.__init__" (defArgs sI8) (defBody sI8) (defScope sI8) .none kV8 dc8 pm8 an8 cd8 ct8), sl8⟩)
    (y8 : PySem.W.codeIn K cd8 "BadMany.__init__" = true)
    (z8 : PySem.W.keepIn K (.ref f8) = true)
    (i10 : PySem.W.findIn K (.ref c10) "__init__" = some (some (.ref f10)))
    (j10 : PySem.W.typeIn K (.ref f10) = some (.type "function"))
    (n10_0 : PySem.W.findIn K (.ref c10) "addresses" = some none)
    (l10 : K.lookup f10 = some ⟨oc10, od10, .func (PySem.W.fnOf "__init__" "Refused.__init__" (defArgs sI10) (defBody sI10) (defScope sI10) .none kV10 dc10 pm10 an10 cd10 ct10), sl10⟩)
    (y10 : PySem.W.codeIn K cd10 "Refused.__init__" = true)
    (z10 : PySem.W.keepIn K (.ref f10) = true)
    (i11 : PySem.W.findIn K (.ref c11) "__init__" = some (some (.ref f11)))
    (j11 : PySem.W.typeIn K (.ref f11) = some (.type "function"))
    (n11_0 : PySem.W.findIn K (.ref c11) "steps" = some none)
    (l11 : K.lookup f11 = some ⟨oc11, od11, .func (PySem.W.fnOf "__init__" "Ring.__init__" (defArgs sI11) (defBody sI11) (defScope sI11) .none kV11 dc11 pm11 an11 cd11 ct11), sl11⟩)
    (y11 : PySem.W.codeIn K cd11 "Ring.__init__" = true)
    (z11 : PySem.W.keepIn K (.ref f11) = true)
    (i12 : PySem.W.findIn K (.ref c12) "__init__" = some (some (.ref f12)))
    (j12 : PySem.W.typeIn K (.ref f12) = some (.type "function"))
    (n12_0 : PySem.W.findIn K (.ref c12) "tag" = some none)
    (l12 : K.lookup f12 = some ⟨oc12, od12, .func (PySem.W.fnOf "__init__" "Taken.__init__" (defArgs sI12) (defBody sI12) (defScope sI12) .none kV12 dc12 pm12 an12 cd12 ct12), sl12⟩)
    (y12 : PySem.W.codeIn K cd12 "Taken.__init__" = true)
    (z12 : PySem.W.keepIn K (.ref f12) = true)
    (i13 : PySem.W.findIn K (.ref c13) "__init__" = some (some (.ref f13)))
    (j13 : PySem.W.typeIn K (.ref f13) = some (.type "function"))
    (n13_0 : PySem.W.findIn K (.ref c13) "tag" = some none)
    (l13 : K.lookup f13 = some ⟨oc13, od13, .func (PySem.W.fnOf "__init__" "Gone.__init__" (defArgs sI13) (defBody sI13) (defScope sI13) .none kV13 dc13 pm13 an13 cd13 ct13), sl13⟩)
    (y13 : PySem.W.codeIn K cd13 "Gone.__init__" = true)
    (z13 : PySem.W.keepIn K (.ref f13) = true)
    (i14 : PySem.W.findIn K (.ref c14) "__init__" = some (some (.ref f14)))
    (j14 : PySem.W.typeIn K (.ref f14) = some (.type "function"))
    (n14_0 : PySem.W.findIn K (.ref c14) "tag" = some none)
    (l14 : K.lookup f14 = some ⟨oc14, od14, .func (PySem.W.fnOf "__init__" "InUse.__init__" (defArgs sI14) (defBody sI14) (defScope sI14) .none kV14 dc14 pm14 an14 cd14 ct14), sl14⟩)
    (y14 : PySem.W.codeIn K cd14 "InUse.__init__" = true)
    (z14 : PySem.W.keepIn K (.ref f14) = true)
    (i15 : PySem.W.findIn K (.ref c15) "__init__" = some (some (.ref f15)))
    (j15 : PySem.W.typeIn K (.ref f15) = some (.type "function"))
    (n15_0 : PySem.W.findIn K (.ref c15) "address" = some none)
    (l15 : K.lookup f15 = some ⟨oc15, od15, .func (PySem.W.fnOf "__init__" "Occupied.__init__" (defArgs sI15) (defBody sI15) (defScope sI15) .none kV15 dc15 pm15 an15 cd15 ct15), sl15⟩)
    (y15 : PySem.W.codeIn K cd15 "Occupied.__init__" = true)
    (z15 : PySem.W.keepIn K (.ref f15) = true)
    (i16 : PySem.W.findIn K (.ref c16) "__init__" = some (some (.ref f16)))
    (j16 : PySem.W.typeIn K (.ref f16) = some (.type "function"))
    (n16_0 : PySem.W.findIn K (.ref c16) "address" = some none)
    (l16 : K.lookup f16 = some ⟨oc16, od16, .func (PySem.W.fnOf "__init__" "Owned.__init__" (defArgs sI16) (defBody sI16) (defScope sI16) .none kV16 dc16 pm16 an16 cd16 ct16), sl16⟩)
    (y16 : PySem.W.codeIn K cd16 "Owned.__init__" = true)
    (z16 : PySem.W.keepIn K (.ref f16) = true)
    (i17 : PySem.W.findIn K (.ref c17) "__init__" = some (some (.ref f17)))
    (j17 : PySem.W.typeIn K (.ref f17) = some (.type "function"))
    (n17_0 : PySem.W.findIn K (.ref c17) "address" = some none)
    (l17 : K.lookup f17 = some ⟨oc17, od17, .func (PySem.W.fnOf "__init__" "NotThere.__init__" (defArgs sI17) (defBody sI17) (defScope sI17) .none kV17 dc17 pm17 an17 cd17 ct17), sl17⟩)
    (y17 : PySem.W.codeIn K cd17 "NotThere.__init__" = true)
    (z17 : PySem.W.keepIn K (.ref f17) = true)
    (i18 : PySem.W.findIn K (.ref c18) "__init__" = some (some (.ref f18)))
    (j18 : PySem.W.typeIn K (.ref f18) = some (.type "function"))
    (n18_0 : PySem.W.findIn K (.ref c18) "holder" = some none)
    (l18 : K.lookup f18 = some ⟨oc18, od18, .func (PySem.W.fnOf "__init__" "Locked.__init__" (defArgs sI18) (defBody sI18) (defScope sI18) .none kV18 dc18 pm18 an18 cd18 ct18), sl18⟩)
    (y18 : PySem.W.codeIn K cd18 "Locked.__init__" = true)
    (z18 : PySem.W.keepIn K (.ref f18) = true)
    (i19 : PySem.W.findIn K (.ref c19) "__init__" = some (some (.ref f19)))
    (j19 : PySem.W.typeIn K (.ref f19) = some (.type "function"))
    (n19_0 : PySem.W.findIn K (.ref c19) "serial" = some none)
    (l19 : K.lookup f19 = some ⟨oc19, od19, .func (PySem.W.fnOf "__init__" "Stale.__init__" (defArgs sI19) (defBody sI19) (defScope sI19) .none kV19 dc19 pm19 an19 cd19 ct19), sl19⟩)
    (y19 : PySem.W.codeIn K cd19 "Stale.__init__" = true)
    (z19 : PySem.W.keepIn K (.ref f19) = true)
    (i20 : PySem.W.findIn K (.ref c20) "__init__" = some (some (.ref f20)))
    (j20 : PySem.W.typeIn K (.ref f20) = some (.type "function"))
    (n20_0 : PySem.W.findIn K (.ref c20) "address" = some none)
    (l20 : K.lookup f20 = some ⟨oc20, od20, .func (PySem.W.fnOf "__init__" "NotGeneric.__init__" (defArgs sI20) (defBody sI20) (defScope sI20) .none kV20 dc20 pm20 an20 cd20 ct20), sl20⟩)
    (y20 : PySem.W.codeIn K cd20 "NotGeneric.__init__" = true)
    (z20 : PySem.W.keepIn K (.ref f20) = true)
    (i5 : PySem.W.findIn K (.ref c5) "__init__" = some (some (.ref f5)))
    (j5 : PySem.W.typeIn K (.ref f5) = some (.type "function"))
    (n5_0 : PySem.W.findIn K (.ref c5) "at" = some none)
    (n5_1 : PySem.W.findIn K (.ref c5) "why" = some none)
    (l5 : K.lookup f5 = some ⟨oc5, od5, .func (PySem.W.fnOf "__init__" "BadConfig.__init__" (defArgs sI5) (defBody sI5) (defScope sI5) .none kV5 dc5 pm5 an5 cd5 ct5), sl5⟩)
    (y5 : PySem.W.codeIn K cd5 "BadConfig.__init__" = true)
    (z5 : PySem.W.keepIn K (.ref f5) = true)
    (i9 : PySem.W.findIn K (.ref c9) "__init__" = some (some (.ref f9)))
    (j9 : PySem.W.typeIn K (.ref f9) = some (.type "function"))
    (n9_0 : PySem.W.findIn K (.ref c9) "address" = some none)
    (n9_1 : PySem.W.findIn K (.ref c9) "attribute" = some none)
    (l9 : K.lookup f9 = some ⟨oc9, od9, .func (PySem.W.fnOf "__init__" "Lacking.__init__" (defArgs sI9) (defBody sI9) (defScope sI9) .none kV9 dc9 pm9 an9 cd9 ct9), sl9⟩)
    (y9 : PySem.W.codeIn K cd9 "Lacking.__init__" = true)
    (z9 : PySem.W.keepIn K (.ref f9) = true)
    (e21 : PySem.W.excIn K c21 [.type "ValueError", .type "Exception", .type "BaseException", .type "object"] "ValueError.__new__" = true)
    (r21 : PySem.W.findIn K (.ref c21) "__str__" = some (some (.builtin "BaseException.__str__")))
    (e22 : PySem.W.excIn K c22 [.type "ValueError", .type "Exception", .type "BaseException", .type "object"] "ValueError.__new__" = true)
    (r22 : PySem.W.findIn K (.ref c22) "__str__" = some (some (.builtin "BaseException.__str__")))
    (a25 : PySem.W.nsIn K mainGlobals "_law_well" = some (some (.ref f25)))
    (l25 : K.lookup f25 = some ⟨oc25, od25, .func (PySem.W.fnOf "_law_well" "_law_well" (defArgs sWell) (defBody sWell) (defScope sWell) .none kV25 dc25 pm25 an25 cd25 ct25), sl25⟩)
    (y25 : PySem.W.codeIn K cd25 "_law_well" = true)
    (z25 : PySem.W.keepIn K (.ref f25) = true)
    (a26 : PySem.W.nsIn K mainGlobals "_law_draw" = some (some (.ref f26)))
    (l26 : K.lookup f26 = some ⟨oc26, od26, .func (PySem.W.fnOf "_law_draw" "_law_draw" (defArgs sDraw) (defBody sDraw) (defScope sDraw) .none kV26 dc26 pm26 an26 cd26 ct26), sl26⟩)
    (y26 : PySem.W.codeIn K cd26 "_law_draw" = true)
    (z26 : PySem.W.keepIn K (.ref f26) = true)
    (a27 : PySem.W.nsIn K mainGlobals "_law_one" = some (some (.ref f27)))
    (l27 : K.lookup f27 = some ⟨oc27, od27, .func (PySem.W.fnOf "_law_one" "_law_one" (defArgs sOne) (defBody sOne) (defScope sOne) .none kV27 dc27 pm27 an27 cd27 ct27), sl27⟩)
    (y27 : PySem.W.codeIn K cd27 "_law_one" = true)
    (z27 : PySem.W.keepIn K (.ref f27) = true)
    (a28 : PySem.W.nsIn K mainGlobals "_law_first" = some (some (.ref f28)))
    (l28 : K.lookup f28 = some ⟨oc28, od28, .func (PySem.W.fnOf "_law_first" "_law_first" (defArgs sFirst) (defBody sFirst) (defScope sFirst) .none kV28 dc28 pm28 an28 cd28 ct28), sl28⟩)
    (y28 : PySem.W.codeIn K cd28 "_law_first" = true)
    (z28 : PySem.W.keepIn K (.ref f28) = true)
    (a29 : PySem.W.nsIn K mainGlobals "_law_others" = some (some (.ref f29)))
    (l29 : K.lookup f29 = some ⟨oc29, od29, .func (PySem.W.fnOf "_law_others" "_law_others" (defArgs sOthers) (defBody sOthers) (defScope sOthers) .none kV29 dc29 pm29 an29 cd29 ct29), sl29⟩)
    (y29 : PySem.W.codeIn K cd29 "_law_others" = true)
    (z29 : PySem.W.keepIn K (.ref f29) = true)
    (a30 : PySem.W.nsIn K mainGlobals "_law_kinds" = some (some (.ref f30)))
    (l30 : K.lookup f30 = some ⟨oc30, od30, .func (PySem.W.fnOf "_law_kinds" "_law_kinds" (defArgs sKinds) (defBody sKinds) (defScope sKinds) .none kV30 dc30 pm30 an30 cd30 ct30), sl30⟩)
    (y30 : PySem.W.codeIn K cd30 "_law_kinds" = true)
    (z30 : PySem.W.keepIn K (.ref f30) = true)
    (a31 : PySem.W.nsIn K mainGlobals "law" = some (some (.ref f31)))
    (l31 : K.lookup f31 = some ⟨oc31, od31, .func (PySem.W.fnOf "law" "law" (defArgs sLaw) (defBody sLaw) (defScope sLaw) .none kV31 dc31 pm31 an31 cd31 ct31), sl31⟩)
    (y31 : PySem.W.codeIn K cd31 "law" = true)
    (z31 : PySem.W.keepIn K (.ref f31) = true)
    (b_int : PySem.W.nsIn K mainGlobals "int" = some none)
    (b_len : PySem.W.nsIn K mainGlobals "len" = some none)
    (b_repr : PySem.W.nsIn K mainGlobals "repr" = some none)
    (b_str : PySem.W.nsIn K mainGlobals "str" = some none)
    (b_enumerate : PySem.W.nsIn K mainGlobals "enumerate" = some none)
    (b_isinstance : PySem.W.nsIn K mainGlobals "isinstance" = some none)
    (b_ValueError : PySem.W.nsIn K mainGlobals "ValueError" = some none)
    (b_range : PySem.W.nsIn K mainGlobals "range" = some none)
    (b_bool : PySem.W.nsIn K mainGlobals "bool" = some none)
    (nd : [CP, c2, c3, c4, c6, c7, c8, c10, c11, c12, c13, c14, c15, c16, c17, c18, c19, c20, c5, c9, c21, c22].Nodup)
    : ∃ fd : FuncData, (∀ (s : Shared) (v : Value), BindsTo s fd ⟨[v], []⟩ [("_law_script", v)]) ∧ ∀ base : Heap, K.In base → base.Ns mainGlobals mg → TopOk l.prog w K mg base 4 fa fd ["_law_script"] (spLaw K) := by
  have e := hfa.symm.trans (PySem.W.mg_of X G a31)
  cases e
  have pc : ((PySem.W.clsIn K CP).isSome && PySem.W.typeIn K (.ref CP) == some (.type "type")) = true := by
    have i2 : (PySem.W.clsIn K CP).isSome = true := iP
    rw [i2, tP]
    rfl
  have PI : PIni K mg "PlanError" CP (.type "type") := ⟨PySem.W.mg_of X G aP, ⟨rP, gP⟩, vP⟩
  have z0 : Cls0 K := ⟨hn, ht⟩
  have t0 : Txt0 mg := ⟨PySem.W.mg_none_of X G b_int, PySem.W.mg_none_of X G b_len⟩
  have X2 : XcOk K CP c2 := ⟨⟨_, _, _, _, _, _, _, _, _, _, _, _, _, _, x2⟩, s2, g2, k2, h2, p2, t2⟩
  have G2 := PySem.W.mg_of X G a2
  have X3 : XcOk K CP c3 := ⟨⟨_, _, _, _, _, _, _, _, _, _, _, _, _, _, x3⟩, s3, g3, k3, h3, p3, t3⟩
  have G3 := PySem.W.mg_of X G a3
  have X4 : XcOk K CP c4 := ⟨⟨_, _, _, _, _, _, _, _, _, _, _, _, _, _, x4⟩, s4, g4, k4, h4, p4, t4⟩
  have G4 := PySem.W.mg_of X G a4
  have X6 : XcOk K CP c6 := ⟨⟨_, _, _, _, _, _, _, _, _, _, _, _, _, _, x6⟩, s6, g6, k6, h6, p6, t6⟩
  have G6 := PySem.W.mg_of X G a6
  have X7 : XcOk K CP c7 := ⟨⟨_, _, _, _, _, _, _, _, _, _, _, _, _, _, x7⟩, s7, g7, k7, h7, p7, t7⟩
  have G7 := PySem.W.mg_of X G a7
  have X8 : XcOk K CP c8 := ⟨⟨_, _, _, _, _, _, _, _, _, _, _, _, _, _, x8⟩, s8, g8, k8, h8, p8, t8⟩
  have G8 := PySem.W.mg_of X G a8
  have X10 : XcOk K CP c10 := ⟨⟨_, _, _, _, _, _, _, _, _, _, _, _, _, _, x10⟩, s10, g10, k10, h10, p10, t10⟩
  have G10 := PySem.W.mg_of X G a10
  have X11 : XcOk K CP c11 := ⟨⟨_, _, _, _, _, _, _, _, _, _, _, _, _, _, x11⟩, s11, g11, k11, h11, p11, t11⟩
  have G11 := PySem.W.mg_of X G a11
  have X12 : XcOk K CP c12 := ⟨⟨_, _, _, _, _, _, _, _, _, _, _, _, _, _, x12⟩, s12, g12, k12, h12, p12, t12⟩
  have G12 := PySem.W.mg_of X G a12
  have X13 : XcOk K CP c13 := ⟨⟨_, _, _, _, _, _, _, _, _, _, _, _, _, _, x13⟩, s13, g13, k13, h13, p13, t13⟩
  have G13 := PySem.W.mg_of X G a13
  have X14 : XcOk K CP c14 := ⟨⟨_, _, _, _, _, _, _, _, _, _, _, _, _, _, x14⟩, s14, g14, k14, h14, p14, t14⟩
  have G14 := PySem.W.mg_of X G a14
  have X15 : XcOk K CP c15 := ⟨⟨_, _, _, _, _, _, _, _, _, _, _, _, _, _, x15⟩, s15, g15, k15, h15, p15, t15⟩
  have G15 := PySem.W.mg_of X G a15
  have X16 : XcOk K CP c16 := ⟨⟨_, _, _, _, _, _, _, _, _, _, _, _, _, _, x16⟩, s16, g16, k16, h16, p16, t16⟩
  have G16 := PySem.W.mg_of X G a16
  have X17 : XcOk K CP c17 := ⟨⟨_, _, _, _, _, _, _, _, _, _, _, _, _, _, x17⟩, s17, g17, k17, h17, p17, t17⟩
  have G17 := PySem.W.mg_of X G a17
  have X18 : XcOk K CP c18 := ⟨⟨_, _, _, _, _, _, _, _, _, _, _, _, _, _, x18⟩, s18, g18, k18, h18, p18, t18⟩
  have G18 := PySem.W.mg_of X G a18
  have X19 : XcOk K CP c19 := ⟨⟨_, _, _, _, _, _, _, _, _, _, _, _, _, _, x19⟩, s19, g19, k19, h19, p19, t19⟩
  have G19 := PySem.W.mg_of X G a19
  have X20 : XcOk K CP c20 := ⟨⟨_, _, _, _, _, _, _, _, _, _, _, _, _, _, x20⟩, s20, g20, k20, h20, p20, t20⟩
  have G20 := PySem.W.mg_of X G a20
  have X5 : XcOk K CP c5 := ⟨⟨_, _, _, _, _, _, _, _, _, _, _, _, _, _, x5⟩, s5, g5, k5, h5, p5, t5⟩
  have G5 := PySem.W.mg_of X G a5
  have X9 : XcOk K CP c9 := ⟨⟨_, _, _, _, _, _, _, _, _, _, _, _, _, _, x9⟩, s9, g9, k9, h9, p9, t9⟩
  have G9 := PySem.W.mg_of X G a9
  have X21 : XcOk K CP c21 := ⟨⟨_, _, _, _, _, _, _, _, _, _, _, _, _, _, x21⟩, s21, g21, k21, h21, p21, t21⟩
  have G21 := PySem.W.mg_of X G a21
  have X22 : XcOk K CP c22 := ⟨⟨_, _, _, _, _, _, _, _, _, _, _, _, _, _, x22⟩, s22, g22, k22, h22, p22, t22⟩
  have G22 := PySem.W.mg_of X G a22
  have F2 := fun_mk (st := sI2) l2 y2 z2
  have B2 := F2.binds (ps := ["self", "expression"]) fun _ _ _ _ _ _ us hl => match us, hl with | [_, _], _ => rfl
  have F3 := fun_mk (st := sI3) l3 y3 z3
  have B3 := F3.binds (ps := ["self", "part"]) fun _ _ _ _ _ _ us hl => match us, hl with | [_, _], _ => rfl
  have F4 := fun_mk (st := sI4) l4 y4 z4
  have B4 := F4.binds (ps := ["self", "at"]) fun _ _ _ _ _ _ us hl => match us, hl with | [_, _], _ => rfl
  have F6 := fun_mk (st := sI6) l6 y6 z6
  have B6 := F6.binds (ps := ["self", "param"]) fun _ _ _ _ _ _ us hl => match us, hl with | [_, _], _ => rfl
  have F7 := fun_mk (st := sI7) l7 y7 z7
  have B7 := F7.binds (ps := ["self", "address"]) fun _ _ _ _ _ _ us hl => match us, hl with | [_, _], _ => rfl
  have F8 := fun_mk (st := sI8) l8 y8 z8
  have B8 := F8.binds (ps := ["self", "address"]) fun _ _ _ _ _ _ us hl => match us, hl with | [_, _], _ => rfl
  have F10 := fun_mk (st := sI10) l10 y10 z10
  have B10 := F10.binds (ps := ["self", "addresses"]) fun _ _ _ _ _ _ us hl => match us, hl with | [_, _], _ => rfl
  have F11 := fun_mk (st := sI11) l11 y11 z11
  have B11 := F11.binds (ps := ["self", "steps"]) fun _ _ _ _ _ _ us hl => match us, hl with | [_, _], _ => rfl
  have F12 := fun_mk (st := sI12) l12 y12 z12
  have B12 := F12.binds (ps := ["self", "tag"]) fun _ _ _ _ _ _ us hl => match us, hl with | [_, _], _ => rfl
  have F13 := fun_mk (st := sI13) l13 y13 z13
  have B13 := F13.binds (ps := ["self", "tag"]) fun _ _ _ _ _ _ us hl => match us, hl with | [_, _], _ => rfl
  have F14 := fun_mk (st := sI14) l14 y14 z14
  have B14 := F14.binds (ps := ["self", "tag"]) fun _ _ _ _ _ _ us hl => match us, hl with | [_, _], _ => rfl
  have F15 := fun_mk (st := sI15) l15 y15 z15
  have B15 := F15.binds (ps := ["self", "address"]) fun _ _ _ _ _ _ us hl => match us, hl with | [_, _], _ => rfl
  have F16 := fun_mk (st := sI16) l16 y16 z16
  have B16 := F16.binds (ps := ["self", "address"]) fun _ _ _ _ _ _ us hl => match us, hl with | [_, _], _ => rfl
  have F17 := fun_mk (st := sI17) l17 y17 z17
  have B17 := F17.binds (ps := ["self", "address"]) fun _ _ _ _ _ _ us hl => match us, hl with | [_, _], _ => rfl
  have F18 := fun_mk (st := sI18) l18 y18 z18
  have B18 := F18.binds (ps := ["self", "holder"]) fun _ _ _ _ _ _ us hl => match us, hl with | [_, _], _ => rfl
  have F19 := fun_mk (st := sI19) l19 y19 z19
  have B19 := F19.binds (ps := ["self", "serial"]) fun _ _ _ _ _ _ us hl => match us, hl with | [_, _], _ => rfl
  have F20 := fun_mk (st := sI20) l20 y20 z20
  have B20 := F20.binds (ps := ["self", "address"]) fun _ _ _ _ _ _ us hl => match us, hl with | [_, _], _ => rfl
  have F5 := fun_mk (st := sI5) l5 y5 z5
  have B5 := F5.binds (ps := ["self", "at", "why"]) fun _ _ _ _ _ _ us hl => match us, hl with | [_, _, _], _ => rfl
  have F9 := fun_mk (st := sI9) l9 y9 z9
  have B9 := F9.binds (ps := ["self", "address", "attribute"]) fun _ _ _ _ _ _ us hl => match us, hl with | [_, _, _], _ => rfl
  have F25 := fun_mk (st := sWell) l25 y25 z25
  have B25 := F25.binds (ps := ["_law_cell"]) fun _ _ _ _ _ _ us hl => match us, hl with | [_], _ => rfl
  have A25 := PySem.W.mg_of X G a25
  have F26 := fun_mk (st := sDraw) l26 y26 z26
  have B26 := F26.binds (ps := ["_law_well_here", "_law_below"]) fun _ _ _ _ _ _ us hl => match us, hl with | [_, _], _ => rfl
  have A26 := PySem.W.mg_of X G a26
  have F27 := fun_mk (st := sOne) l27 y27 z27
  have B27 := F27.binds (ps := ["_law_well_here", "_law_some"]) fun _ _ _ _ _ _ us hl => match us, hl with | [_, _], _ => rfl
  have A27 := PySem.W.mg_of X G a27
  have F28 := fun_mk (st := sFirst) l28 y28 z28
  have B28 := F28.binds (ps := ["_law_thing"]) fun _ _ _ _ _ _ us hl => match us, hl with | [_], _ => rfl
  have A28 := PySem.W.mg_of X G a28
  have F29 := fun_mk (st := sOthers) l29 y29 z29
  have B29 := F29.binds (ps := ["_law_thing"]) fun _ _ _ _ _ _ us hl => match us, hl with | [_], _ => rfl
  have A29 := PySem.W.mg_of X G a29
  have F30 := fun_mk (st := sKinds) l30 y30 z30
  have B30 := F30.binds (ps := ["_law_error"]) fun _ _ _ _ _ _ us hl => match us, hl with | [_], _ => rfl
  have A30 := PySem.W.mg_of X G a30
  have F31 := fun_mk (st := sLaw) l31 y31 z31
  have B31 := F31.binds (ps := ["_law_script"]) fun _ _ _ _ _ _ us hl => match us, hl with | [_], _ => rfl
  have A31 := PySem.W.mg_of X G a31
  have hall : ∀ C ∈ [c2, c3, c4, c6, c7, c8, c10, c11, c12, c13, c14, c15, c16, c17, c18, c19, c20, c5, c9, c21, c22], XcOk K CP C ∧ C ≠ CP := by
    have ncp : ∀ C ∈ [c2, c3, c4, c6, c7, c8, c10, c11, c12, c13, c14, c15, c16, c17, c18, c19, c20, c5, c9, c21, c22], C ≠ CP := fun C hC z => (List.nodup_cons.mp nd).1 (z ▸ hC)
    intro C hC
    refine ⟨?_, ncp C hC⟩
    simp only [List.mem_cons, List.not_mem_nil, or_false] at hC
    rcases hC with rfl | rfl | rfl | rfl | rfl | rfl | rfl | rfl | rfl | rfl | rfl | rfl | rfl | rfl | rfl | rfl | rfl | rfl | rfl | rfl | rfl
    · exact X2
    · exact X3
    · exact X4
    · exact X6
    · exact X7
    · exact X8
    · exact X10
    · exact X11
    · exact X12
    · exact X13
    · exact X14
    · exact X15
    · exact X16
    · exact X17
    · exact X18
    · exact X19
    · exact X20
    · exact X5
    · exact X9
    · exact X21
    · exact X22
  refine ⟨PySem.W.fnOf "law" "law" (defArgs sLaw) (defBody sLaw) (defScope sLaw) .none kV31 dc31 pm31 an31 cd31 ct31, fun s v => .of_eq rfl, fun base _ _ => ok_law F31 (CP := CP) (cBC := c5) (cLK := c9) (cBO := c21) (cBS := c22) (c1 := [c2, c3, c4, c6, c7, c8, c10, c11]) (c2 := [c12, c13, c14, c15, c16, c17, c18, c19, c20]) (cs := [c2, c3, c4, c6, c7, c8, c10, c11, c12, c13, c14, c15, c16, c17, c18, c19, c20, c5, c9, c21, c22]) ?_⟩
  have N2 : New1 l.prog w K mg base CP "Misfit" "expression" c2 f2 _ := ⟨X2, G2, i2, j2, n2_0, ok_I2 F2 PI X2.oex n2_0, B2⟩
  have N3 : New1 l.prog w K mg base CP "NoKind" "part" c3 f3 _ := ⟨X3, G3, i3, j3, n3_0, ok_I3 F3 PI X3.oex n3_0, B3⟩
  have N4 : New1 l.prog w K mg base CP "NoConfig" "at" c4 f4 _ := ⟨X4, G4, i4, j4, n4_0, ok_I4 F4 PI X4.oex n4_0, B4⟩
  have N6 : New1 l.prog w K mg base CP "NoValue" "param" c6 f6 _ := ⟨X6, G6, i6, j6, n6_0, ok_I6 F6 PI X6.oex n6_0, B6⟩
  have N7 : New1 l.prog w K mg base CP "Unsure" "address" c7 f7 _ := ⟨X7, G7, i7, j7, n7_0, ok_I7 F7 PI X7.oex n7_0, B7⟩
  have N8 : New1 l.prog w K mg base CP "BadMany" "address" c8 f8 _ := ⟨X8, G8, i8, j8, n8_0, ok_I8 F8 PI X8.oex n8_0, B8⟩
  have N10 : New1 l.prog w K mg base CP "Refused" "addresses" c10 f10 _ := ⟨X10, G10, i10, j10, n10_0, ok_I10 F10 PI X10.oex n10_0, B10⟩
  have N11 : New1 l.prog w K mg base CP "Ring" "steps" c11 f11 _ := ⟨X11, G11, i11, j11, n11_0, ok_I11 F11 PI X11.oex n11_0, B11⟩
  have N12 : New1 l.prog w K mg base CP "Taken" "tag" c12 f12 _ := ⟨X12, G12, i12, j12, n12_0, ok_I12 F12 PI X12.oex n12_0, B12⟩
  have N13 : New1 l.prog w K mg base CP "Gone" "tag" c13 f13 _ := ⟨X13, G13, i13, j13, n13_0, ok_I13 F13 PI X13.oex n13_0, B13⟩
  have N14 : New1 l.prog w K mg base CP "InUse" "tag" c14 f14 _ := ⟨X14, G14, i14, j14, n14_0, ok_I14 F14 PI X14.oex n14_0, B14⟩
  have N15 : New1 l.prog w K mg base CP "Occupied" "address" c15 f15 _ := ⟨X15, G15, i15, j15, n15_0, ok_I15 F15 PI X15.oex n15_0, B15⟩
  have N16 : New1 l.prog w K mg base CP "Owned" "address" c16 f16 _ := ⟨X16, G16, i16, j16, n16_0, ok_I16 F16 PI X16.oex n16_0, B16⟩
  have N17 : New1 l.prog w K mg base CP "NotThere" "address" c17 f17 _ := ⟨X17, G17, i17, j17, n17_0, ok_I17 F17 PI X17.oex n17_0, B17⟩
  have N18 : New1 l.prog w K mg base CP "Locked" "holder" c18 f18 _ := ⟨X18, G18, i18, j18, n18_0, ok_I18 F18 PI X18.oex n18_0, B18⟩
  have N19 : New1 l.prog w K mg base CP "Stale" "serial" c19 f19 _ := ⟨X19, G19, i19, j19, n19_0, ok_I19 F19 PI X19.oex n19_0, B19⟩
  have N20 : New1 l.prog w K mg base CP "NotGeneric" "address" c20 f20 _ := ⟨X20, G20, i20, j20, n20_0, ok_I20 F20 PI X20.oex n20_0, B20⟩
  have N5 : New2 l.prog w K mg base CP "BadConfig" "at" "why" c5 f5 _ := ⟨X5, G5, i5, j5, n5_0, n5_1, ok_I5 F5 PI X5.oex n5_0 n5_1, B5⟩
  have N9 : New2 l.prog w K mg base CP "Lacking" "address" "attribute" c9 f9 _ := ⟨X9, G9, i9, j9, n9_0, n9_1, ok_I9 F9 PI X9.oex n9_0 n9_1, B9⟩
  exact {
    t0 := t0
    well := ⟨_, _, A25, z25, B25, ok_well F25 t0⟩
    one := ⟨_, _, A27, z27, B27, ok_one F27 t0 F26 A26 B26⟩
    first := ⟨_, _, A28, z28, B28, ok_first F28 N2 N3 N4 N6 N7 N8 N10 N11⟩
    others := ⟨_, _, A29, z29, B29, ok_others F29 N12 N13 N14 N15 N16 N17 N18 N19 N20⟩
    kinds := ⟨_, _, A30, z30, B30, ok_kinds F30 (PySem.W.mg_none_of X G b_isinstance) G2 G3 G4 G6 G7 G8 G10 G11 G12 G13 G14 G15 G16 G17 G18 G19 G20 G5 G9 G21 G22⟩
    bc := ⟨_, _, N5⟩
    lk := ⟨_, _, N9⟩
    bo := X21
    bs := X22
    gBO := G21
    gBS := G22
    xBO := e21
    xBS := e22
    sBO := r21
    sBS := r22
    gP := PI.gB
    cP := pc
    z0 := z0
    all := hall
    nd := (List.nodup_cons.mp nd).2
    eq := rfl
    len := ⟨rfl, rfl⟩
    repr := PySem.W.mg_none_of X G b_repr
    str := PySem.W.mg_none_of X G b_str
    enum := PySem.W.mg_none_of X G b_enumerate
    isi := PySem.W.mg_none_of X G b_isinstance
    ve := PySem.W.mg_none_of X G b_ValueError
    range := PySem.W.mg_none_of X G b_range
    bool := PySem.W.mg_none_of X G b_bool }
end K6
open PySem PySem.W PyProof.Rows
set_option maxRecDepth 100000 in
set_option maxHeartbeats 0 in
theorem PySem.Challenge.cw_planfirst_k06_errors_by_hand_holds : PySem.Challenge.rw_planfirst_k06_errors_by_hand.Holds := by
  w_on; o_law; k_head; (case hw => w_witness2)
  k_fill
  refine K6.walk (l := PySem.Challenge.rw_planfirst_k06_errors_by_hand) rfl rfl (fun w h Y => PySem.W.kIn_of Y) ?F
  case F =>
    intro w mg fa h KX G hmg
    refine' K6.all_mk KX G hmg ?aP ?rP ?gP ?vP ?iP ?tP ?hn ?ht ?a2 ?x2 ?s2 ?g2 ?k2 ?h2 ?p2 ?t2 ?a3 ?x3 ?s3 ?g3 ?k3 ?h3 ?p3 ?t3 ?a4 ?x4 ?s4 ?g4 ?k4 ?h4 ?p4 ?t4 ?a6 ?x6 ?s6 ?g6 ?k6 ?h6 ?p6 ?t6 ?a7 ?x7 ?s7 ?g7 ?k7 ?h7 ?p7 ?t7 ?a8 ?x8 ?s8 ?g8 ?k8 ?h8 ?p8 ?t8 ?a10 ?x10 ?s10 ?g10 ?k10 ?h10 ?p10 ?t10 ?a11 ?x11 ?s11 ?g11 ?k11 ?h11 ?p11 ?t11 ?a12 ?x12 ?s12 ?g12 ?k12 ?h12 ?p12 ?t12 ?a13 ?x13 ?s13 ?g13 ?k13 ?h13 ?p13 ?t13 ?a14 ?x14 ?s14 ?g14 ?k14 ?h14 ?p14 ?t14 ?a15 ?x15 ?s15 ?g15 ?k15 ?h15 ?p15 ?t15 ?a16 ?x16 ?s16 ?g16 ?k16 ?h16 ?p16 ?t16 ?a17 ?x17 ?s17 ?g17 ?k17 ?h17 ?p17 ?t17 ?a18 ?x18 ?s18 ?g18 ?k18 ?h18 ?p18 ?t18 ?a19 ?x19 ?s19 ?g19 ?k19 ?h19 ?p19 ?t19 ?a20 ?x20 ?s20 ?g20 ?k20 ?h20 ?p20 ?t20 ?a5 ?x5 ?s5 ?g5 ?k5 ?h5 ?p5 ?t5 ?a9 ?x9 ?s9 ?g9 ?k9 ?h9 ?p9 ?t9 ?a21 ?x21 ?s21 ?g21 ?k21 ?h21 ?p21 ?t21 ?a22 ?x22 ?s22 ?g22 ?k22 ?h22 ?p22 ?t22 ?i2 ?j2 ?n2_0 ?l2 ?y2 ?z2 ?i3 ?j3 ?n3_0 ?l3 ?y3 ?z3 ?i4 ?j4 ?n4_0 ?l4 ?y4 ?z4 ?i6 ?j6 ?n6_0 ?l6 ?y6 ?z6 ?i7 ?j7 ?n7_0 ?l7 ?y7 ?z7 ?i8 ?j8 ?n8_0 ?l8 ?y8 ?z8 ?i10 ?j10 ?n10_0 ?l10 ?y10 ?z10 ?i11 ?j11 ?n11_0 ?l11 ?y11 ?z11 ?i12 ?j12 ?n12_0 ?l12 ?y12 ?z12 ?i13 ?j13 ?n13_0 ?l13 ?y13 ?z13 ?i14 ?j14 ?n14_0 ?l14 ?y14 ?z14 ?i15 ?j15 ?n15_0 ?l15 ?y15 ?z15 ?i16 ?j16 ?n16_0 ?l16 ?y16 ?z16 ?i17 ?j17 ?n17_0 ?l17 ?y17 ?z17 ?i18 ?j18 ?n18_0 ?l18 ?y18 ?z18 ?i19 ?j19 ?n19_0 ?l19 ?y19 ?z19 ?i20 ?j20 ?n20_0 ?l20 ?y20 ?z20 ?i5 ?j5 ?n5_0 ?n5_1 ?l5 ?y5 ?z5 ?i9 ?j9 ?n9_0 ?n9_1 ?l9 ?y9 ?z9 ?e21 ?r21 ?e22 ?r22 ?a25 ?l25 ?y25 ?z25 ?a26 ?l26 ?y26 ?z26 ?a27 ?l27 ?y27 ?z27 ?a28 ?l28 ?y28 ?z28 ?a29 ?l29 ?y29 ?z29 ?a30 ?l30 ?y30 ?z30 ?a31 ?l31 ?y31 ?z31 ?b_int ?b_len ?b_repr ?b_str ?b_enumerate ?b_isinstance ?b_ValueError ?b_range ?b_bool ?nd
    (case aP => k_is)
    (case rP => k_is)
    (case gP => k_is)
    (case vP => k_is)
    (case iP => k_is)
    (case tP => k_is)
    (case hn => k_is)
    (case ht => k_is)
    (case a2 => k_is)
    (case x2 => k_is)
    (case s2 => k_is)
    (case g2 => k_is)
    (case k2 => k_is)
    (case h2 => k_is)
    (case p2 => k_is)
    (case t2 => k_is)
    (case a3 => k_is)
    (case x3 => k_is)
    (case s3 => k_is)
    (case g3 => k_is)
    (case k3 => k_is)
    (case h3 => k_is)
    (case p3 => k_is)
    (case t3 => k_is)
    (case a4 => k_is)
    (case x4 => k_is)
    (case s4 => k_is)
    (case g4 => k_is)
    (case k4 => k_is)
    (case h4 => k_is)
    (case p4 => k_is)
    (case t4 => k_is)
    (case a6 => k_is)
    (case x6 => k_is)
    (case s6 => k_is)
    (case g6 => k_is)
    (case k6 => k_is)
    (case h6 => k_is)
    (case p6 => k_is)
    (case t6 => k_is)
    (case a7 => k_is)
    (case x7 => k_is)
    (case s7 => k_is)
    (case g7 => k_is)
    (case k7 => k_is)
    (case h7 => k_is)
    (case p7 => k_is)
    (case t7 => k_is)
    (case a8 => k_is)
    (case x8 => k_is)
    (case s8 => k_is)
    (case g8 => k_is)
    (case k8 => k_is)
    (case h8 => k_is)
    (case p8 => k_is)
    (case t8 => k_is)
    (case a10 => k_is)
    (case x10 => k_is)
    (case s10 => k_is)
    (case g10 => k_is)
    (case k10 => k_is)
    (case h10 => k_is)
    (case p10 => k_is)
    (case t10 => k_is)
    (case a11 => k_is)
    (case x11 => k_is)
    (case s11 => k_is)
    (case g11 => k_is)
    (case k11 => k_is)
    (case h11 => k_is)
    (case p11 => k_is)
    (case t11 => k_is)
    (case a12 => k_is)
    (case x12 => k_is)
    (case s12 => k_is)
    (case g12 => k_is)
    (case k12 => k_is)
    (case h12 => k_is)
    (case p12 => k_is)
    (case t12 => k_is)
    (case a13 => k_is)
    (case x13 => k_is)
    (case s13 => k_is)
    (case g13 => k_is)
    (case k13 => k_is)
    (case h13 => k_is)
    (case p13 => k_is)
    (case t13 => k_is)
    (case a14 => k_is)
    (case x14 => k_is)
    (case s14 => k_is)
    (case g14 => k_is)
    (case k14 => k_is)
    (case h14 => k_is)
    (case p14 => k_is)
    (case t14 => k_is)
    (case a15 => k_is)
    (case x15 => k_is)
    (case s15 => k_is)
    (case g15 => k_is)
    (case k15 => k_is)
    (case h15 => k_is)
    (case p15 => k_is)
    (case t15 => k_is)
    (case a16 => k_is)
    (case x16 => k_is)
    (case s16 => k_is)
    (case g16 => k_is)
    (case k16 => k_is)
    (case h16 => k_is)
    (case p16 => k_is)
    (case t16 => k_is)
    (case a17 => k_is)
    (case x17 => k_is)
    (case s17 => k_is)
    (case g17 => k_is)
    (case k17 => k_is)
    (case h17 => k_is)
    (case p17 => k_is)
    (case t17 => k_is)
    (case a18 => k_is)
    (case x18 => k_is)
    (case s18 => k_is)
    (case g18 => k_is)
    (case k18 => k_is)
    (case h18 => k_is)
    (case p18 => k_is)
    (case t18 => k_is)
    (case a19 => k_is)
    (case x19 => k_is)
    (case s19 => k_is)
    (case g19 => k_is)
    (case k19 => k_is)
    (case h19 => k_is)
    (case p19 => k_is)
    (case t19 => k_is)
    (case a20 => k_is)
    (case x20 => k_is)
    (case s20 => k_is)
    (case g20 => k_is)
    (case k20 => k_is)
    (case h20 => k_is)
    (case p20 => k_is)
    (case t20 => k_is)
    (case a5 => k_is)
    (case x5 => k_is)
    (case s5 => k_is)
    (case g5 => k_is)
    (case k5 => k_is)
    (case h5 => k_is)
    (case p5 => k_is)
    (case t5 => k_is)
    (case a9 => k_is)
    (case x9 => k_is)
    (case s9 => k_is)
    (case g9 => k_is)
    (case k9 => k_is)
    (case h9 => k_is)
    (case p9 => k_is)
    (case t9 => k_is)
    (case a21 => k_is)
    (case x21 => k_is)
    (case s21 => k_is)
    (case g21 => k_is)
    (case k21 => k_is)
    (case h21 => k_is)
    (case p21 => k_is)
    (case t21 => k_is)
    (case a22 => k_is)
    (case x22 => k_is)
    (case s22 => k_is)
    (case g22 => k_is)
    (case k22 => k_is)
    (case h22 => k_is)
    (case p22 => k_is)
    (case t22 => k_is)
    (case i2 => k_is)
    (case j2 => k_is)
    (case n2_0 => k_is)
    (case l2 => k_is)
    (case y2 => k_is)
    (case z2 => k_is)
    (case i3 => k_is)
    (case j3 => k_is)
    (case n3_0 => k_is)
    (case l3 => k_is)
    (case y3 => k_is)
    (case z3 => k_is)
    (case i4 => k_is)
    (case j4 => k_is)
    (case n4_0 => k_is)
    (case l4 => k_is)
    (case y4 => k_is)
    (case z4 => k_is)
    (case i6 => k_is)
    (case j6 => k_is)
    (case n6_0 => k_is)
    (case l6 => k_is)
    (case y6 => k_is)
    (case z6 => k_is)
    (case i7 => k_is)
    (case j7 => k_is)
    (case n7_0 => k_is)
    (case l7 => k_is)
    (case y7 => k_is)
    (case z7 => k_is)
    (case i8 => k_is)
    (case j8 => k_is)
    (case n8_0 => k_is)
    (case l8 => k_is)
    (case y8 => k_is)
    (case z8 => k_is)
    (case i10 => k_is)
    (case j10 => k_is)
    (case n10_0 => k_is)
    (case l10 => k_is)
    (case y10 => k_is)
    (case z10 => k_is)
    (case i11 => k_is)
    (case j11 => k_is)
    (case n11_0 => k_is)
    (case l11 => k_is)
    (case y11 => k_is)
    (case z11 => k_is)
    (case i12 => k_is)
    (case j12 => k_is)
    (case n12_0 => k_is)
    (case l12 => k_is)
    (case y12 => k_is)
    (case z12 => k_is)
    (case i13 => k_is)
    (case j13 => k_is)
    (case n13_0 => k_is)
    (case l13 => k_is)
    (case y13 => k_is)
    (case z13 => k_is)
    (case i14 => k_is)
    (case j14 => k_is)
    (case n14_0 => k_is)
    (case l14 => k_is)
    (case y14 => k_is)
    (case z14 => k_is)
    (case i15 => k_is)
    (case j15 => k_is)
    (case n15_0 => k_is)
    (case l15 => k_is)
    (case y15 => k_is)
    (case z15 => k_is)
    (case i16 => k_is)
    (case j16 => k_is)
    (case n16_0 => k_is)
    (case l16 => k_is)
    (case y16 => k_is)
    (case z16 => k_is)
    (case i17 => k_is)
    (case j17 => k_is)
    (case n17_0 => k_is)
    (case l17 => k_is)
    (case y17 => k_is)
    (case z17 => k_is)
    (case i18 => k_is)
    (case j18 => k_is)
    (case n18_0 => k_is)
    (case l18 => k_is)
    (case y18 => k_is)
    (case z18 => k_is)
    (case i19 => k_is)
    (case j19 => k_is)
    (case n19_0 => k_is)
    (case l19 => k_is)
    (case y19 => k_is)
    (case z19 => k_is)
    (case i20 => k_is)
    (case j20 => k_is)
    (case n20_0 => k_is)
    (case l20 => k_is)
    (case y20 => k_is)
    (case z20 => k_is)
    (case i5 => k_is)
    (case j5 => k_is)
    (case n5_0 => k_is)
    (case n5_1 => k_is)
    (case l5 => k_is)
    (case y5 => k_is)
    (case z5 => k_is)
    (case i9 => k_is)
    (case j9 => k_is)
    (case n9_0 => k_is)
    (case n9_1 => k_is)
    (case l9 => k_is)
    (case y9 => k_is)
    (case z9 => k_is)
    (case e21 => k_exc)
    (case r21 => k_is)
    (case e22 => k_exc)
    (case r22 => k_is)
    (case a25 => k_is)
    (case l25 => k_is)
    (case y25 => k_is)
    (case z25 => k_is)
    (case a26 => k_is)
    (case l26 => k_is)
    (case y26 => k_is)
    (case z26 => k_is)
    (case a27 => k_is)
    (case l27 => k_is)
    (case y27 => k_is)
    (case z27 => k_is)
    (case a28 => k_is)
    (case l28 => k_is)
    (case y28 => k_is)
    (case z28 => k_is)
    (case a29 => k_is)
    (case l29 => k_is)
    (case y29 => k_is)
    (case z29 => k_is)
    (case a30 => k_is)
    (case l30 => k_is)
    (case y30 => k_is)
    (case z30 => k_is)
    (case a31 => k_is)
    (case l31 => k_is)
    (case y31 => k_is)
    (case z31 => k_is)
    (case b_int => k_is)
    (case b_len => k_is)
    (case b_repr => k_is)
    (case b_str => k_is)
    (case b_enumerate => k_is)
    (case b_isinstance => k_is)
    (case b_ValueError => k_is)
    (case b_range => k_is)
    (case b_bool => k_is)
    (case nd => decide)
