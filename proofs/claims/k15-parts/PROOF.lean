import PyProof.Rows.All
import Wide.All
import OpenK.AllK
import Wide.FinOn
import KE.KExcMore
import HandS.ForMost
import HandS.ForExc
import HandS.ExcInit
import HandS.ExcField
import HandS.ExcIs
import HandS.IsInst
import HandS.ExcValue
import HandS.ClsMeth
import HandS.RaiseMore
import HandS.DictComp
import HandS.TryMany
import HandS.Lambda
import HandS.More
import HandS.Walk
import PyProof.NeKinds
import HandS.OwnEq
import PyProof.InstNe
import HandS.Zip
import HandS.TupAny
import HandS.Text
import HandS.DeepEq
import HandS.Style
import HandS.Words
import HandS.MakeKwOnly
import PySem.Challenge.RW_planfirst_k15_parts_that_are_equal
set_option Elab.async false
set_option linter.all false
set_option maxRecDepth 100000
set_option maxHeartbeats 4000000
/-! Rules of my own for the hand layer: exceptions of own classes as values that are kept. -/
namespace XR
open PySem PySem.Spec PyProof.Rows L2
section
variable {X : Cx} {pins : List (Addr × Obj)} {σ : L2.St} {H : Hp} {s : Shared}

/-! ### PlanError.__init__(self, ..): the base class is an own class -/
structure PIni (K : PySem.W.Frag) (mg : Str → Option Value) (x : Str) (B : Addr) (mc : Value) : Prop where
  gB : mg x = some (.ref B)
  cr : ClX.CRead K B mc
  vB : PySem.W.findCls K (.ref B) mc "__init__" = some (.val (.builtin "ValueError.__init__"))
theorem pe_pinit {e : Expr} {es : List Expr} {ta : TA} {x : Str} {B : Addr} {mc : Value} {p1 p2 pos : Pos} {pl : Sem Bool} (P : PIni X.K X.mg x B mc) (hg : Gl X x) (ha : PA X (e :: es) ta)
    (hc : eval (.Call (.Attribute (.Name x p1) "__init__" p2) (e :: es) [] pos) X.env = (do
      let o ← eval (.Name x p1) X.env
      standAt p2.atName
      let (f, first) ← holding [o] (getMethod o "__init__" pl)
      callWith pos f first (backTo pos (starEach (e :: es) X.env)) (backToKw pos (keywordEach [] X.env))) := by rfl)
    (he : starEach (e :: es) X.env = (false, eval e X.env) :: starEach es X.env := by rfl) (hpl : (backTo pos (starEach es X.env)).any (·.1) = false := by rfl) (hdb : (x == ("__debug__" : Str)) = false := by decide) :
    PE X (.Call (.Attribute (.Name x p1) "__init__" p2) (e :: es) [] pos) (tVeI X.K ta) := by
  refine ⟨fun pins s σ H Q I h => ?_⟩
  refine PySem.W.methodCall_KW (ld_glob I hg P.gB ?_ hdb) hc
  refine PySem.W.method_cls I.kIn P.cr.ga (PySem.W.cls_value I.kIn P.cr.rd P.vB (by decide +kernel) ?_)
  show wpAny _ _ (callWith pos (Value.builtin "ValueError.__init__") [] (backTo pos (starEach (e :: es) X.env)) []) _ _ _
  refine PyProof.Rows.callWith_method1 (thn (ha.run pos pins _ σ H _ (I.tok _) h) fun us s1 hh => ?_) he hpl
  obtain ⟨vs, H1, I1, r1, a, C, ws, ev, hl, T, ea, q⟩ := hh
  subst ev
  cases r1 with
  | @cons _ u0 _ ur ra rr =>
    obtain rfl : u0 = Value.ref a := ra
    refine oinit_ok T I1 ea ?_ fun s' J => ⟨.non, H1, J, rfl, q⟩
    rw [← Paired.length rr, sizeLine_eq]
    omega

/-! ### C(e, ..) as a value -/
@[irreducible] def tNewO (C : Addr) (sp : Sp) (ta : TA) : TE := fun σ H Q => ta σ H fun vs H1 => vs.length ≤ 1000 ∧ ∀ a, H1 a = none →
  sp (.ref a :: vs) (upd H1 a (exo a C none)) (fun v H2 => v = .non ∧ Q (.ref a) H2) (fun _ _ _ => False)
theorem pe_newO {CX : CXT} {x : Str} {C fI : Addr} {k : Nat} {fd : FuncData} {ps : List Str} {sp : Sp} {e : Expr} {es : List Expr} {ta : TA} {p pos : Pos} (T : OexC X.K C)
    (iC : PySem.W.findIn X.K (.ref C) "__init__" = some (some (.ref fI))) (tI : PySem.W.typeIn X.K (.ref fI) = some (.type "function"))
    (F1 : FnOk X.prog X.w X.K X.mg X.base CX k fI fd ps sp) (hr : Room (k + 1) X.A) (hb : Binds X.K fd ps []) (hx : Passes CX X (fun _ _ _ => False)) (hg : Gl X x) (hm : X.mg x = some (.ref C)) (ha : PA X (e :: es) ta)
    (hdb : (x == ("__debug__" : Str)) = false := by decide) (he : starEach (e :: es) X.env = (false, eval e X.env) :: starEach es X.env := by rfl) (hpl : (backTo pos (starEach es X.env)).any (·.1) = false := by rfl) :
    PE X (.Call (.Name x p) (e :: es) [] pos) (tNewO C sp ta) := by
  refine ⟨fun pins s σ H Q I h => ?_⟩
  unfold tNewO at h
  obtain ⟨nm, q, N, bs, bm, sn, sub, ab, col, dd, k0, k1, k2, k3, k5, hC, hbm⟩ := T.cls
  refine wpAny_Call_Name_kw (ld_glob I hg hm ?_ hdb)
  refine PySem.W.callWith_K (h₀ := X.base) I.ok.mod.kin T.kC (thn (ha.run pos pins s σ H _ I h) fun us s1 hh => ?_) he hpl
  obtain ⟨vs, H1, I1, r1, hz, q1⟩ := hh
  refine ⟨I1.kIn, ?_⟩
  show wpAny _ _ (call (.ref C) us) _ _ _
  obtain ⟨hp, g, dr, tk, os⟩ := s1
  have le1 : hp.objs.size ≤ hp.objs.size + 1 := Nat.le_succ _
  have hq := q1 (hp.objs.size + 1) (I1.hok.fresh le1)
  have keep : ∀ b o, hp.get? b = some o → ((hp.push (PySem.W.kdv_tup us)).push (PySem.HandSPX.excO C hp.objs.size)).get? b = some o := fun b o z => Heap.get?_push_of_some _ (Heap.get?_push_of_some _ z)
  have at1 : ((hp.push (PySem.W.kdv_tup us)).push (PySem.HandSPX.excO C hp.objs.size)).get? (hp.objs.size + 1) = some (PySem.HandSPX.excO C hp.objs.size) := by heap_get
  have I2 : Inv X pins σ (upd H1 (hp.objs.size + 1) (exo (hp.objs.size + 1) C none)) ⟨(hp.push (PySem.W.kdv_tup us)).push (PySem.HandSPX.excO C hp.objs.size), g, dr, tk, os⟩ :=
    I1.laid (t' := tk) (a := hp.objs.size + 1) (o := exo (hp.objs.size + 1) C none) (h' := (hp.push (PySem.W.kdv_tup us)).push (PySem.HandSPX.excO C hp.objs.size)) keep le1 (exo_ok at1)
  have r2 : Vals (V.ref (hp.objs.size + 1) :: vs) (Value.ref (hp.objs.size + 1) :: us) := .cons rfl r1
  have hl : (Value.ref (hp.objs.size + 1) :: us ++ []).length = ps.length := by
    have z := r2.length
    rw [F1.len _ _ _ _ hq] at z
    simpa using z.symm
  have hus : us.length ≤ sizeLine := by
    rw [← Paired.length r1, sizeLine_eq]
    omega
  have hbb := hb _ (Value.ref (hp.objs.size + 1) :: us) I2.kIn hl
  rw [List.append_nil] at hbb
  refine wpAny_call (PySem.HandSPX.call_own F.excBase_ValueError (fun Y => PySem.HandSPX.refsVE_contains Y bm hbm) (I1.kIn _ _ hC) (PySem.W.looks_findIn I1.kIn iC) (fun self => PySem.W.bind_fn I1.kIn self tI) hus
    (codeAny_mono (F1.run _ X.stack _ _ ⟨Value.ref (hp.objs.size + 1) :: us, []⟩ (Value.ref (hp.objs.size + 1) :: us) _ _ (fun _ _ _ => False) (hr.make C us []) (I2.env0.make C us []) hbb r2 hq) fun r s' z => ?_))
  cases r with
  | error er => exact hx pins σ _ _ er s' I2 z
  | ok fl =>
    cases fl with
    | ret u =>
      obtain ⟨v, H2, os2, bare2, un2, hok2, rv, ev, q2⟩ := z
      subst ev
      exact ⟨rv, .ref (hp.objs.size + 1), H2, I2.call' (ch := []) os2 un2 hok2 bare2 (fun b z => absurd z (by simp)), rfl, q2⟩
    | next => exact False.elim z
    | brk => exact False.elim z
    | cont => exact False.elim z

/-! ### e.f, e such a value -/
@[irreducible] def tXget (K : PySem.W.Frag) (f : Str) (te : TE) : TE := fun σ H Q => te σ H fun x H1 => ∃ (a C dx : Addr) (fs : List (Str × V)) (v : V), x = .ref a ∧ XfC K C ∧ PySem.W.findIn K (.ref C) f = some none ∧
  H1 a = some (exo a C (some dx)) ∧ H1 dx = some (exd dx fs) ∧ fs.lookup f = some v ∧ Q v H1
theorem exo_inst {a C dx : Addr} {fs : List (Str × V)} (I : Inv X pins σ H s) (ea : H a = some (exo a C (some dx))) (ed : H dx = some (exd dx fs)) :
    ∃ (t1 : Addr) (od : Obj) (mA : Str → Option Value), PySem.W.InstAt s.heap a { cls := .ref C, dict := some dx, data := .fields #[.ref t1, .none, .none, .none, .bool false, .none] } C (some od) ∧ (∀ f, RelO (fs.lookup f) (mA f)) ∧ ∀ f, PySem.W.lookIn f od = some (mA f) := by
  obtain ⟨t1, ho⟩ := exo_at I.hok ea
  obtain ⟨mA, hns, rel⟩ := exd_at I.hok ed
  obtain ⟨od, hod, hl⟩ := lookIn_ns hns
  exact ⟨t1, od, mA, ⟨ho, rfl, rfl, hod⟩, rel, hl⟩
theorem pe_xget {e : Expr} {te : TE} {f : Str} {pos : Pos} (he : PE X e te) (hb : attributeBase e f X.env (eval e X.env) = eval e X.env := by rfl) : PE X (.Attribute e f pos) (tXget X.K f te) := by
  refine ⟨fun pins s σ H Q I h => ?_⟩
  unfold tXget at h
  refine attr_of hb (thn (he.run pins s σ H _ I h) fun u s1 hh => ?_)
  obtain ⟨x, H1, I1, rx, a, C, dx, fs, v, ex, T, hno, ea, ed, l, q⟩ := hh
  subst ex
  obtain rfl : u = Value.ref a := rx
  obtain ⟨t1, od, mA, J, rel, hl⟩ := exo_inst I1 ea ed
  obtain ⟨u, hu, ru⟩ := RelO.some_of (v := v) (o := mA f) (by rw [← l]; exact rel f)
  exact HandSPX.exc_get I1.kIn J T.ga T.gg T.exC (PySem.W.findObj_own T.hdC hno rfl (by rw [hl, hu])) (handed_of ru) ⟨v, H1, I1.tok _, ru, q⟩
end
end XR

/-! Own errors over PlanError: what is asked of a class, its __init__, raising it. -/
namespace XR
open PySem PySem.Spec PyProof.Rows L2
/-- all but what stands at w is as it was -/
def But (w : Addr) (H H' : Hp) : Prop := ∀ b o, H b = some o → b ≠ w → H' b = some o
theorem But.trans {w : Addr} {H H1 H2 : Hp} (a : But w H H1) (b : But w H1 H2) : But w H H2 := fun c o h n => b c o (a c o h n) n
theorem But.upd {w : Addr} {H : Hp} {o : HO} : But w H (upd H w o) := fun b u e n => by rw [upd_ne n]; exact e
theorem But.of {w : Addr} {H H' : Hp} (m : Same H H') : But w H H' := fun b u e _ => m b u e
theorem But.same {w : Addr} {H G H' : Hp} (m : But w G H') (h : Same H G) (n : H w = none) : Same H H' := fun b o e => m b o (h b o e) (ne_of_none e n)
theorem same_new {p : Addr} {H : Hp} {o : HO} (h : H p = none) : Same H (L2.upd H p o) := fun b u e => by rw [upd_ne (ne_of_none e h)]; exact e
theorem at_new {H : Hp} {a : Addr} {o : HO} (_ : H a = none) : L2.upd H a o a = some o := upd_same
abbrev tail (CP : Addr) : List Value := [.ref CP, .type "ValueError", .type "Exception", .type "BaseException", .type "object"]
structure XcOk (K : PySem.W.Frag) (CP C : Addr) : Prop where
  lk : ∃ nm q N bs sn sub ab col dd k0 k1 k2 k3 k5, K.lookup C = some (excClassObj nm q C N bs (tail CP) true sn sub ab col dd k0 k1 k2 k3 k5 "ValueError.__new__")
  sa : PySem.W.findIn K (.ref C) "__setattr__" = some (some (.builtin "object.__setattr__"))
  ga : PySem.W.findIn K (.ref C) "__getattribute__" = some (some (.builtin "BaseException.__getattribute__"))
  gg : PySem.W.findIn K (.ref C) "__getattr__" = some none
  ha : PySem.W.findIn K (.ref C) "__class__" = some (some (.builtin "object.__class__"))
  kC : PySem.W.keepIn K (.ref C) = true
  tyC : PySem.W.typeIn K (.ref C) = some (.type "type")
structure Cls0 (K : PySem.W.Frag) : Prop where
  hn : PySem.W.specialIn K (.builtin "object.__class__") "__get__" = some (some (.builtin "getset_descriptor.__get__"))
  ht : PySem.W.takesIn K (.builtin "object.__class__") = some true
section
variable {K : PySem.W.Frag} {CP C D : Addr}
theorem XcOk.cls (x : XcOk K CP C) : ∃ cd : ClassData, PySem.W.clsIn K C = some cd ∧ cd.mro = .ref C :: tail CP ∧ cd.hasDict = true := by
  obtain ⟨nm, q, N, bs, sn, sub, ab, col, dd, k0, k1, k2, k3, k5, h⟩ := x.lk
  refine ⟨{ name := nm, bases := bs, mro := .ref C :: tail CP, ns := N, qualname := q, hasDict := true, slotNames := sn, subclasses := sub, abstract := ab, collection := col, hasDel := false }, ?_, rfl, rfl⟩
  unfold PySem.W.clsIn
  rw [h]
theorem XcOk.mro (x : XcOk K CP C) (v : Value) : PySem.W.mroIn K C v = some ((Value.ref C :: tail CP).contains v) := by
  obtain ⟨cd, h1, h2, _⟩ := x.cls
  unfold PySem.W.mroIn
  rw [h1, Option.bind_some, h2]
  rfl
theorem XcOk.sub (x : XcOk K CP C) (v : Value) : PySem.W.subIn K (.ref C) v = some ((Value.ref C :: tail CP).contains v) := x.mro v
theorem XcOk.hd (x : XcOk K CP C) : PySem.W.hasDictIn K C = true := by
  obtain ⟨cd, h1, _, h3⟩ := x.cls
  unfold PySem.W.hasDictIn
  rw [h1]
  exact h3
theorem XcOk.oex (x : XcOk K CP C) : OexC K C := by
  obtain ⟨nm, q, N, bs, sn, sub, ab, col, dd, k0, k1, k2, k3, k5, h⟩ := x.lk
  exact ⟨⟨nm, q, N, bs, tail CP, sn, sub, ab, col, dd, k0, k1, k2, k3, k5, h, rfl⟩, x.sa, (x.sub _).trans (congrArg some (by rfl)), x.tyC, x.kC⟩
theorem XcOk.xf (x : XcOk K CP C) : XfC K C := ⟨x.ga, x.gg, (x.sub _).trans (congrArg some (by rfl)), x.hd⟩
theorem XcOk.isCls (x : XcOk K CP C) : ((PySem.W.clsIn K C).isSome && PySem.W.typeIn K (.ref C) == some (.type "type")) = true := by
  obtain ⟨cd, h1, _⟩ := x.cls
  rw [h1, x.tyC]
  rfl
/-- except D, of an error of the class C -/
theorem XcOk.exm (x : XcOk K CP C) (y : XcOk K CP D) (hp : D ≠ CP) : PySem.W.exmOne K (.ref C) (.ref D) = some (decide (C = D)) := by
  have e1 : (PySem.W.subIn K (.ref D) (.type "BaseException") == some true) = true := by
    rw [y.sub]
    rfl
  show (if (PySem.W.subIn K (.ref D) (.type "BaseException") == some true) = true then (if ((PySem.W.clsIn K D).isSome && PySem.W.typeIn K (.ref D) == some (.type "type")) = true then PySem.W.subIn K (.ref C) (.ref D) else none) else none) = _
  rw [if_pos e1, if_pos y.isCls, x.sub]
  congr 1
  by_cases e : C = D
  · subst e
    simp
  · have b1 : (Value.ref D == Value.ref C) = false := beq_eq_false_iff_ne.mpr fun z => e (Value.ref.inj z).symm
    have b2 : (Value.ref D == Value.ref CP) = false := beq_eq_false_iff_ne.mpr fun z => hp (Value.ref.inj z)
    rw [List.contains_cons, List.contains_cons, b1, b2, decide_eq_false e]
    rfl
end
def spI (C : Addr) (fld : Str) : Sp := fun vs H Q _ => ∃ (a : Addr) (v : V), vs = [.ref a, v] ∧ H a = some (exo a C none) ∧
  ∀ (dx : Addr) (H' : Hp), H dx = none → dx ≠ a → H' = upd (upd H dx (exd dx [(fld, v)])) a (exo a C (some dx)) → Q .non H'
/-- an error of one value -/
structure New1 (P : Program) (w : World) (K : PySem.W.Frag) (mg : Str → Option Value) (base : Heap) (CP : Addr) (x fld : Str) (C fI : Addr) (fd : FuncData) : Prop where
  xc : XcOk K CP C
  g : mg x = some (.ref C)
  iC : PySem.W.findIn K (.ref C) "__init__" = some (some (.ref fI))
  tI : PySem.W.typeIn K (.ref fI) = some (.type "function")
  no : PySem.W.findIn K (.ref C) fld = some none
  ok : FnOk P w K mg base CX0 1 fI fd ["self", fld] (spI C fld)
  b : Binds K fd ["self", fld] []
/-- raise C(v): the way out -/
@[irreducible] def RaiseK (C : Addr) (fld : Str) (v : V) (H : Hp) (Q : XK) : Prop := [v].length ≤ 1000 ∧ ∀ a, H a = none → spI C fld (.ref a :: ([v] ++ [])) (upd H a (exo a C none))
  (fun u H2 => u = .non ∧ ∃ (d : Addr) (fs : List (Str × V)), H2 a = some (exo a C (some d)) ∧ H2 d = some (exd d fs) ∧ H d = none ∧ Q (.ref C) (some d) (upd (del H2 a) d (.xd fs))) (fun _ _ _ => False)
theorem raiseK {C : Addr} {fld : Str} {v : V} {H : Hp} {Q : XK} (h : ∀ (d : Addr) (H' : Hp), H d = none → Same H H' → H' d = some (.xd [(fld, v)]) → Q (.ref C) (some d) H') : RaiseK C fld v H Q := by
  unfold RaiseK
  refine ⟨(by show 1 ≤ 1000; decide), fun a ha => ⟨a, v, rfl, upd_same, fun dx H' hd hne e => ⟨rfl, dx, [(fld, v)], ?_, ?_, ?_, ?_⟩⟩⟩
  · rw [e, upd_same]
  · rw [e, upd_ne hne, upd_same]
  · rw [upd_ne hne] at hd
    exact hd
  · rw [upd_ne hne] at hd
    refine h dx _ hd (fun b o z => ?_) upd_same
    have n1 := ne_of_none z ha
    have n2 := ne_of_none z hd
    rw [upd_ne n2, del_ne n1, e, upd_ne n1, upd_ne n2, upd_ne n1]
    exact z
def tRaiseI (C : Addr) (fld : Str) (W : WX) (te : TE) : TS := fun _ σ H => te σ H fun v H1 => RaiseK C fld v H1 fun cls d H' => W cls d σ H'
section
variable {X : Cx}
theorem ps_raiseI {x fld : Str} {CP C fI : Addr} {fd : FuncData} {e : Expr} {te : TE} {W : WX} {p pos pos2 : Pos} (N : New1 X.prog X.w X.K X.mg X.base CP x fld C fI fd) (hc : X.calm = true) (hr : Room 2 X.A) (tk : Takes X W) (hg : Gl X x) (he : PE X e te)
    (hdb : (x == ("__debug__" : Str)) = false := by decide) (h1 : starEach [e] X.env = (false, eval e X.env) :: starEach [] X.env := by rfl) (hpl : (backTo pos (starEach [] X.env)).any (·.1) = false := by rfl) :
    PS X (.Raise (some (.Call (.Name x p) [e] [] pos)) none pos2) (tRaiseI C fld W te) := by
  have M := pmk_oex (X := X) (pos := pos) (p := p) N.xc.oex N.iC N.tI N.ok hr N.b .nil (fun _ _ _ _ _ _ _ z => z.elim) hg N.g (pa_cons he pa_nil h1) hdb h1 hpl
  have R := ps_raise (pos := pos2) hc tk M
  have e : tRaiseI C fld W te = fun _ σ H => tMkO C (spI C fld) [] (tCons te tNil) σ H fun cls d H' => W cls d σ H' := by
    unfold tRaiseI RaiseK
    rfl
  rw [e]
  exact R
end
end XR

/-! try with several clauses «except X as n» -/
namespace XR
open PySem PySem.Spec PyProof.Rows L2
/-- what such clauses wish of an exception of the body, one after the other -/
def wManyA (K : PySem.W.Frag) (Wout : WX) (D : Ends) : List (Value × Nat × (Addr → Value → Option Addr → TS)) → WX
  | [] => Wout
  | (c, i, ts) :: r => fun cls d σ H => ∃ b, PySem.W.exmOne K cls c = some b ∧
      (b = true → ∀ a, H a = none → ts a cls d { nx := fun σ' H' => D.nx (σ'.set i none) H', rt := D.rt, bk := fun σ' H' => D.bk (σ'.set i none) H', ct := fun σ' H' => D.ct (σ'.set i none) H' } (σ.set i (some (.ref a))) H) ∧
      (b = false → wManyA K Wout D r cls d σ H)
inductive HdsA (X : Cx) : List ExceptHandler → List (Value × Nat × (Addr → Value → Option Addr → TS)) → Prop
  | nil : HdsA X [] []
  | cons {x n : Str} {c : Value} {i : Nat} {ts : Addr → Value → Option Addr → TS} {b0 : Stmt} {suite : List Stmt} {np pos' : Pos} {hds : List ExceptHandler} {l : List (Value × Nat × (Addr → Value → Option Addr → TS))} (hc : Names X x c)
      (hi : X.N[i]? = some n) (hln : X.env.kindOf n = some .local)
      (hsu : ∀ (a : Addr) (oe : Obj) (cls : Value) (d : Option Addr) (pn : List (Addr × Obj)), Zc cls d oe → (∃ vs, oe.data = .fields vs) → PSs (X.suite a ((a, oe) :: pn)) (b0 :: suite) (ts a cls d)) (r : HdsA X hds l) :
      HdsA X (.ExceptHandler (some (.Name x np)) (some n) (b0 :: suite) pos' :: hds) ((c, i, ts) :: l)
section
variable {X : Cx} {body : List Stmt} {h0 : ExceptHandler} {hds : List ExceptHandler} {l : List (Value × Nat × (Addr → Value → Option Addr → TS))} {pos : Pos} {tb : WX → TS} {Wout : WX}
theorem ps_tryA (hs : X.stack = X.env :: X.outer) (hf : X.env.frame = some X.env.locals) (hN : X.N.Nodup) (tk : Takes X Wout)
    (hb : ∀ (W : WX) (pn : List (Addr × Obj)) (xe : Value → Shared → Prop), Takes (X.tr pn xe) W → PassesOwn (model X.prog X.w) X.A X.env xe → PSs (X.tr pn xe) body (tb W))
    (hh : HdsA X (h0 :: hds) l) : PS X (.Try body (h0 :: hds) [] [] pos) (fun D σ H => tb (wManyA X.K Wout D l) D σ H) := by
  refine ⟨fun pins s σ H D I h => ?_⟩
  have ok := I.ok
  have hfr : X.A.frames = some (X.env :: X.outer) := by rw [ok.frames, hs]
  refine wpAny_Try_except ?_
  refine wpAny_mono ((hb (wManyA X.K Wout D l) (X.pn ++ pins) (fun e s1 => wpAny (model X.prog X.w) X.A (noteFrame e X.env) (fun _ s2 => wpAny (model X.prog X.w) X.A (setFlight e none) (fun _ s3 =>
    wpAny (model X.prog X.w) X.A (handleBy e X.env (h0 :: hds)) (SP X pins D) X.xe s3) X.xe s2) X.xe s1) (fun u s' xx => ?_) PassesOwn.looking).run [] s σ H D (I.toTry _) h) (fun f s1 hsp => ?_) (fun e s1 he => he)
  · obtain ⟨a, B, sI, pins', σ', H', cls, d, rfl, J', nb, up, sky, na, os, ag, w⟩ := xx
    have J : Inv X pins σ' H' sI := J'.ofTry ok
    have sky' : Sky B (X.env :: X.outer) a (Zc cls d) X.env.locals s'.heap := by rw [← hs]; exact sky
    show wpAny (model X.prog X.w) X.A (noteFrame (.ref a) X.env) _ _ _
    refine Sky.land Zc.steady hfr hf sky' fun h3 fl3 up3 => ?_
    have J3 : Inv X pins σ' H' { s' with heap := h3 } := J.landed nb fl3.1 (up.trans up3) os ag
    obtain ⟨oe3, vs3, he3, hz3, hd3⟩ := fl3.there
    have nfr : a ∉ frs (X.env :: X.outer) := fun hm => by
      obtain ⟨_, o', e', hnf⟩ := fl3.2.2.1.mem hm
      rw [he3] at e'
      cases e'
      exact hnf _ hd3
    have nL : a ≠ X.env.locals := fun z => nfr (List.mem_filterMap.mpr ⟨X.env, List.mem_cons_self, by rw [hf, z]⟩)
    have nF : a ∉ X.fs := fun hm => by
      obtain ⟨e, he, q⟩ := List.mem_filterMap.mp hm
      exact nfr (List.mem_filterMap.mpr ⟨e, List.mem_cons_of_mem _ he, q⟩)
    have S3 := J3.suite he3 hd3 na nL nF
    have go : ∀ {hds' : List ExceptHandler} {l' : List (Value × Nat × (Addr → Value → Option Addr → TS))}, HdsA X hds' l' → wManyA X.K Wout D l' cls d σ' H' →
        wpAny (model X.prog X.w) X.A (handleBy (.ref a) X.env hds') (SP X pins D) X.xe { s' with heap := h3 } := by
      intro hds' l' hk
      induction hk with
      | nil =>
        intro w
        refine wpAny_handleBy_nil ?_
        obtain ⟨k1, k2, k3, oe, vs, T, oT, ts', he, hz, hd, h1, hr⟩ := id fl3
        unfold PySem.passOn
        refine wpAny_bind (wpAny_field he hd h1 ?_)
        rw [if_neg (show ¬ ((Value.ref T == Value.none) = true) from by simp)]
        have fin : wpAny (model X.prog X.w) X.A (setFlight (.ref a) X.env.frame) (fun _ s4 => wpAny (model X.prog X.w) X.A (throw (.ref a) : Sem Flow) (SP X pins D) X.xe s4) X.xe { s' with heap := h3 } := by
          rw [hf]
          refine HandSPX.setFlight_upZ fl3 fun h4 hh4 up4 => wpAny_throw (tk _ _ ?_)
          exact ⟨a, B, sI, pins, σ', H', cls, d, rfl, J, nb, (up.trans up3).trans up4, .inr (.inr (by rw [hs]; exact hh4)), na, os, ag, w⟩
        first
          | exact wpAny_bind (wpAny_pure (wpAny_bind fin))
          | exact wpAny_bind fin
      | @cons x n c i ts b0 suite np pos' hds2 l2 hc hi hln hsu r ih =>
        intro w
        obtain ⟨b, hb1, hyes, hno⟩ := w
        refine wpAny_handleBy_cons (codeAny_handlers_test ?_) (by intro q; cases q)
        have LT : PySem.W.Looks (model X.prog X.w) h3 (typeOf (.ref a)) cls := fun A Q E s k q => wpAny_typeOf_ref (k _ _ he3) (by rw [hz3.1]; exact q)
        have LM := PySem.W.exm_one (M := model X.prog X.w) (J3.kIn) LT hb1
        have test : ∀ {Q : Value → Shared → Prop} {E : Value → Shared → Prop}, Q c { s' with heap := h3 } → wpAny (model X.prog X.w) (X.A.mark (some (.ref a))) (eval (.Name x np) X.env) Q E { s' with heap := h3 } := fun {Q E} q => by
          obtain ⟨hg, hdbg, hm | ⟨hm, hv, hnn⟩⟩ := hc
          · exact ld_glob (X := X.suite a ((a, oe3) :: (X.pn ++ pins))) S3 hg hm q hdbg
          · exact ld_blt (X := X.suite a ((a, oe3) :: (X.pn ++ pins))) S3 hg hm hv q hnn hdbg
        refine test (LM.here ?_)
        cases b with
        | true =>
          refine codeAny_handlers_suite_as ?_
          refine HandSPX.lands_againZ fl3 fun h4 fl4 up4 => ?_
          have J4 : Inv X pins σ' H' { s' with heap := h4 } := J.landed nb fl4.1 ((up.trans up3).trans up4) os ag
          obtain ⟨oe4, vs4, he4, hz4, hd4⟩ := fl4.there
          have S4 := J4.suite he4 hd4 na nL nF
          refine store_ok (X := X.suite a ((a, oe4) :: (X.pn ++ pins))) (v := .ref a) S4 hN hi (.inl hln) rfl (fun s5 S5 => ?_) (.inr hln)
          refine wpAny_mono ((hsu a oe4 cls d (X.pn ++ pins) hz4 ⟨_, hd4⟩).run [] s5 _ H' _ S5 (hyes rfl a na)) (fun f s6 hsp => ?_) (fun _ _ z => False.elim z)
          have end_ : ∀ {σ6 : L2.St} {H6 : Hp} {Q : Shared → Prop}, Inv (X.suite a ((a, oe4) :: (X.pn ++ pins))) [] σ6 H6 s6 → (∀ s7, Inv X pins (σ6.set i none) H6 s7 → Q s7) →
              wpAny (model X.prog X.w) X.A (do bindName X.env n .none; unbindBehindTheSuite X.env n pos') (fun _ s7 => Q s7) X.xe s6 := fun {σ6 H6 Q} S6 hq => gone_ok (S6.unsuite ok) hN hi hln hq
          cases f with
          | next =>
            obtain ⟨σ6, H6, S6, q6⟩ := hsp
            exact end_ S6 fun s7 J7 => ⟨_, _, J7, q6⟩
          | brk =>
            obtain ⟨σ6, H6, S6, q6⟩ := hsp
            exact end_ S6 fun s7 J7 => ⟨_, _, J7, q6⟩
          | cont =>
            obtain ⟨σ6, H6, S6, q6⟩ := hsp
            exact end_ S6 fun s7 J7 => ⟨_, _, J7, q6⟩
          | ret u =>
            obtain ⟨v6, σ6, H6, S6, r6, q6⟩ := hsp
            exact end_ S6 fun s7 J7 => ⟨_, _, _, J7, r6, q6⟩
        | false =>
          show wpAny _ X.A (handleBy (.ref a) X.env hds2) _ _ _
          exact ih (hno rfl)
    exact go hh w
  · cases f with
    | next =>
      obtain ⟨σ', H', J', q⟩ := hsp
      exact wpAny_execs_nil ⟨σ', H', J'.ofTry ok, q⟩
    | brk =>
      obtain ⟨σ', H', J', q⟩ := hsp
      exact ⟨σ', H', J'.ofTry ok, q⟩
    | cont =>
      obtain ⟨σ', H', J', q⟩ := hsp
      exact ⟨σ', H', J'.ofTry ok, q⟩
    | ret u =>
      obtain ⟨v, σ', H', J', r, q⟩ := hsp
      exact ⟨v, σ', H', J'.ofTry ok, r, q⟩
end
end XR

/-! value trees -/
namespace VT
open PySem L2 XR
inductive D where
  | non
  | bl (b : Bool)
  | int (i : Int)
  | str (x : Str)
  | unk
  | tup (l : List D)
  | map (ks : List Str) (ds : List D)
mutual
def dep : D → Nat
  | .tup l => depL l + 1
  | .map _ ds => depL ds + 1
  | _ => 0
def depL : List D → Nat
  | [] => 0
  | d :: r => max (dep d) (depL r)
end
mutual
def sz : D → Nat
  | .tup l => szL l + 1
  | .map _ ds => szL ds + 1
  | _ => 0
def szL : List D → Nat
  | [] => 0
  | d :: r => sz d + 1 + szL r
end
theorem dep_mem : ∀ {l : List D} {d : D}, d ∈ l → dep d ≤ depL l
  | x :: r, d, h => by
    rw [depL]
    rcases List.mem_cons.mp h with rfl | h
    · exact Nat.le_max_left _ _
    · exact Nat.le_trans (dep_mem h) (Nat.le_max_right _ _)
theorem depL_le {n : Nat} : ∀ {l : List D}, (∀ d ∈ l, dep d ≤ n) → depL l ≤ n
  | [], _ => Nat.zero_le _
  | x :: r, h => by
    rw [depL]
    exact Nat.max_le.mpr ⟨h x List.mem_cons_self, depL_le fun d hd => h d (List.mem_cons_of_mem _ hd)⟩
theorem sz_mem : ∀ {l : List D} {d : D}, d ∈ l → sz d < szL l
  | x :: r, d, h => by
    rw [szL]
    rcases List.mem_cons.mp h with rfl | h
    · omega
    · have := sz_mem h
      omega
/-- a dict of texts -/
def mkv (ks : List Str) (vs : List V) : List (Key × V) := (ks.zip vs).map fun p => (Sum.inr p.1, p.2)
theorem mkv_length {ks : List Str} {vs : List V} (h : ks.length = vs.length) : (mkv ks vs).length = ks.length := by
  unfold mkv
  rw [List.length_map, List.length_zip, ← h, Nat.min_self]
theorem mkv_keys : ∀ {ks : List Str} {vs : List V}, ks.length = vs.length → (mkv ks vs).map (·.1) = ks.map Sum.inr
  | [], [], _ => rfl
  | k :: ks, v :: vs, h => by
    show (Sum.inr k : Key) :: (mkv ks vs).map (·.1) = Sum.inr k :: ks.map Sum.inr
    rw [mkv_keys (Nat.succ.inj h)]
theorem mkv_val : ∀ {ks : List Str} {vs : List V} {i : Nat} {k : Str} {v : V}, ks.Nodup → ks[i]? = some k → vs[i]? = some v → valV (mkv ks vs) (Sum.inr k) = some v
  | k0 :: ks, v0 :: vs, 0, k, v, _, hk, hv => by
    cases hk; cases hv
    exact valV_pos rfl
  | k0 :: ks, v0 :: vs, i + 1, k, v, nd, hk, hv => by
    have hk' : ks[i]? = some k := hk
    have hv' : vs[i]? = some v := hv
    have nd' := List.nodup_cons.mp nd
    have ne : ¬ (Sum.inr k0 : Key) = Sum.inr k := fun z => nd'.1 (by cases z; exact List.mem_of_getElem? hk')
    show valV ((Sum.inr k0, v0) :: mkv ks vs) (Sum.inr k) = some v
    rw [valV_neg ne]
    exact mkv_val nd'.2 hk' hv'
theorem mkv_none : ∀ {ks : List Str} {vs : List V} {k : Str}, k ∉ ks → valV (mkv ks vs) (Sum.inr k) = none
  | [], _, _, _ => rfl
  | k0 :: ks, [], _, _ => rfl
  | k0 :: ks, v0 :: vs, k, h => by
    have ne : ¬ (Sum.inr k0 : Key) = Sum.inr k := fun z => h (by cases z; exact List.mem_cons_self)
    show valV ((Sum.inr k0, v0) :: mkv ks vs) (Sum.inr k) = none
    rw [valV_neg ne]
    exact mkv_none fun z => h (List.mem_cons_of_mem _ z)
def TxOk (x : Str) : Prop := PyData.strOk x = true ∧ x.length ≤ 2000000
/-- the value v stands for the tree d -/
inductive Rep (CU : Addr) (H : Hp) : V → D → Prop
  | non : Rep CU H .non .non
  | bl (b : Bool) : Rep CU H (.bl b) (.bl b)
  | int (i : Int) : Rep CU H (.int i) (.int i)
  | str (x : Str) (h : TxOk x) : Rep CU H (.str x) (.str x)
  | unk {a dx : Addr} (h : H a = some (.ins CU dx [])) : Rep CU H (.ref a) .unk
  | tup {a : Addr} {xs : List V} {ds : List D} (h : H a = some (.tup xs)) (hl : xs.length = ds.length) (hz : ds.length ≤ 60) (hs : ∀ (i : Nat) (v : V) (d : D), xs[i]? = some v → ds[i]? = some d → Rep CU H v d) : Rep CU H (.ref a) (.tup ds)
  | map {a : Addr} {vs : List V} {ks : List Str} {ds : List D} (h : H a = some (.dK (mkv ks vs))) (hv : vs.length = ds.length) (hk : ks.length = ds.length) (hz : ds.length ≤ 60) (nd : ks.Nodup) (ko : ∀ k ∈ ks, TxOk k)
      (hs : ∀ (i : Nat) (v : V) (d : D), vs[i]? = some v → ds[i]? = some d → Rep CU H v d) : Rep CU H (.ref a) (.map ks ds)
/-- the objects of which trees are made -/
def Tr (CU : Addr) (o : HO) : Prop := (∃ dx, o = .ins CU dx []) ∨ (∃ xs, o = .tup xs) ∨ ∃ kvs, o = .dK kvs
section
variable {CU : Addr} {H H' : Hp} {v : V} {d : D}
theorem Rep.mono (m : ∀ a o, H a = some o → Tr CU o → H' a = some o) (h : Rep CU H v d) : Rep CU H' v d := by
  induction h with
  | non => exact .non
  | bl b => exact .bl b
  | int i => exact .int i
  | str x h => exact .str x h
  | unk h => exact .unk (m _ _ h (.inl ⟨_, rfl⟩))
  | tup h hl hz _ ih => exact .tup (m _ _ h (.inr (.inl ⟨_, rfl⟩))) hl hz ih
  | map h hv hk hz nd ko _ ih => exact .map (m _ _ h (.inr (.inr ⟨_, rfl⟩))) hv hk hz nd ko ih
theorem Rep.same (m : Same H H') (h : Rep CU H v d) : Rep CU H' v d := h.mono fun a o e _ => m a o e
theorem tr_lst {xs : List V} : ¬ Tr CU (.lst xs) := fun h => by
  rcases h with ⟨_, z⟩ | ⟨_, z⟩ | ⟨_, z⟩ <;> cases z
theorem Rep.but {w : Addr} {ow : HO} (m : But w H H') (e : H w = some ow) (n : ¬ Tr CU ow) (h : Rep CU H v d) : Rep CU H' v d := h.mono fun a o ea t => m a o ea fun z => n (by rw [z, e] at ea; cases ea; exact t)
theorem ext_get {α : Type} {xs ys : List α} (hl : xs.length = ys.length) (h : ∀ (i : Nat) (x y : α), xs[i]? = some x → ys[i]? = some y → x = y) : xs = ys := by
  refine List.ext_getElem hl fun i h1 h2 => h i _ _ (List.getElem?_eq_getElem h1) (List.getElem?_eq_getElem h2)
theorem mkv_inj : ∀ {ks ks' : List Str} {vs vs' : List V}, ks.length = vs.length → ks'.length = vs'.length → mkv ks vs = mkv ks' vs' → ks = ks' ∧ vs = vs'
  | [], [], [], [], _, _, _ => ⟨rfl, rfl⟩
  | [], k' :: ks', [], v' :: vs', _, _, h => nomatch h
  | k :: ks, [], v :: vs, [], _, _, h => nomatch h
  | k :: ks, k' :: ks', v :: vs, v' :: vs', h1, h2, h => by
    have h0 : ((Sum.inr k : Key), v) :: mkv ks vs = (Sum.inr k', v') :: mkv ks' vs' := h
    have e := List.cons.inj h0
    obtain ⟨e1, e2⟩ := mkv_inj (Nat.succ.inj h1) (Nat.succ.inj h2) e.2
    have e3 := Prod.mk.inj e.1
    refine ⟨?_, ?_⟩
    · rw [e1, Sum.inr.inj e3.1]
    · rw [e2, e3.2]
theorem Rep.fn {d' : D} (h : Rep CU H v d) (h' : Rep CU H v d') : d = d' := by
  induction h generalizing d' with
  | non => cases h'; rfl
  | bl b => cases h'; rfl
  | int i => cases h'; rfl
  | str x h => cases h'; rfl
  | unk h =>
    cases h' with
    | unk h2 => rfl
    | tup h2 => rw [h] at h2; cases h2
    | map h2 => rw [h] at h2; cases h2
  | @tup a xs ds h hl hz hs ih =>
    cases h' with
    | unk h2 => rw [h] at h2; cases h2
    | map h2 => rw [h] at h2; cases h2
    | @tup _ xs' ds' h2 hl2 hz2 hs2 =>
      rw [h] at h2
      cases h2
      congr 1
      refine ext_get (hl.symm.trans hl2) fun i x y hx hy => ?_
      have hi : i < xs.length := by rw [hl]; exact (List.getElem?_eq_some_iff.mp hx).1
      exact ih i _ x (List.getElem?_eq_getElem hi) hx (hs2 i _ y (List.getElem?_eq_getElem hi) hy)
  | @map a vs ks ds h hv hk hz nd ko hs ih =>
    cases h' with
    | unk h2 => rw [h] at h2; cases h2
    | tup h2 => rw [h] at h2; cases h2
    | @map _ vs' ks' ds' h2 hv2 hk2 hz2 nd2 ko2 hs2 =>
      rw [h] at h2
      obtain ⟨e1, e2⟩ := mkv_inj (hk.trans hv.symm) (hk2.trans hv2.symm) (HO.dK.inj (Option.some.inj h2))
      subst e1
      subst e2
      congr 1
      refine ext_get (hv.symm.trans hv2) fun i x y hx hy => ?_
      have hi : i < vs.length := by rw [hv]; exact (List.getElem?_eq_some_iff.mp hx).1
      exact ih i _ x (List.getElem?_eq_getElem hi) hx (hs2 i _ y (List.getElem?_eq_getElem hi) hy)
/-- a tree in which the object at a does not stand -/
theorem Rep.off {a : Addr} {D0 : D} {o : HO} (h0 : Rep CU H (.ref a) D0) (h : Rep CU H v d) (hs : sz d < sz D0) : Rep CU (upd H a o) v d := by
  have key : ∀ {b : Addr} {d' : D} {u : HO}, Rep CU H (.ref b) d' → sz d' < sz D0 → H b = some u → upd H a o b = some u := fun {b d' u} r hz e => by
    rw [upd_ne]
    · exact e
    · intro z
      subst z
      rw [r.fn h0] at hz
      exact Nat.lt_irrefl _ hz
  induction h with
  | non => exact .non
  | bl b => exact .bl b
  | int i => exact .int i
  | str x h => exact .str x h
  | unk h => exact .unk (key (.unk h) hs h)
  | @tup b xs ds h hl hz hs' ih =>
    refine .tup (key (.tup h hl hz hs') hs h) hl hz fun i v d hx hd => ih i v d hx hd ?_
    have := sz_mem (List.mem_of_getElem? hd)
    rw [sz] at hs
    omega
  | @map b vs ks ds h hv hk hz nd ko hs' ih =>
    refine .map (key (.map h hv hk hz nd ko hs') hs h) hv hk hz nd ko fun i v d hx hd => ih i v d hx hd ?_
    have := sz_mem (List.mem_of_getElem? hd)
    rw [sz] at hs
    omega
end
end VT

/-! a cut in a walk: what holds behind a statement or an expression, said once -/
namespace XR
open PySem PySem.Spec PyProof.Rows L2
variable {X : Cx}
def tVia (t : TS) : TS := fun D σ H => ∃ F : L2.St → Hp → Prop, t { D with nx := F } σ H ∧ ∀ σ' H', F σ' H' → D.nx σ' H'
theorem ps_via {st : Stmt} {t : TS} (h : PS X st t) : PS X st (tVia t) := by
  refine ⟨fun pins s σ H D I hw => ?_⟩
  obtain ⟨F, ht, hF⟩ := hw
  refine thn (h.run pins s σ H _ I ht) fun f s1 q => ?_
  cases f with
  | next => obtain ⟨σ', H', I2, q⟩ := q; exact ⟨σ', H', I2, hF _ _ q⟩
  | brk => exact q
  | cont => exact q
  | ret v => exact q
def eVia (t : TE) : TE := fun σ H Q => ∃ F : VK, t σ H F ∧ ∀ v H', F v H' → Q v H'
theorem pe_via {e : Expr} {t : TE} (h : PE X e t) : PE X e (eVia t) := by
  refine ⟨fun pins s σ H Q I hw => ?_⟩
  obtain ⟨F, ht, hF⟩ := hw
  refine thn (h.run pins s σ H _ I ht) fun v s1 ⟨x, H1, I2, r, q⟩ => ⟨x, H1, I2, r, hF _ _ q⟩
/-- one expression, two rules -/
def eAlt (t u : TE) : TE := fun σ H Q => t σ H Q ∨ u σ H Q
theorem pe_alt {e : Expr} {t u : TE} (h : PE X e t) (h2 : PE X e u) : PE X e (eAlt t u) := by
  refine ⟨fun pins s σ H Q I hw => ?_⟩
  rcases hw with hw | hw
  · exact h.run pins s σ H Q I hw
  · exact h2.run pins s σ H Q I hw
end XR

/-! list comprehensions, item by item -/
namespace XR
open PySem L2
theorem yes_i {te : TE} {σ : L2.St} {H : Hp} {N : VK} {M : Hp → Prop} (h : te σ H N) : tYes σ H (fun b H3 => if b = true then te σ H3 N else M H3) := by
  show (if true = true then te σ H N else M H)
  rw [if_pos rfl]
  exact h
theorem lc_rel {J : It} {n : Nat} {G : Hp → Prop} {Y : Nat → Hp → V → Hp → Prop} (w : Walk J n G Y) {g : TG} {te : TE} {vs : List Nat} {σ : L2.St} {H1 : Hp} {D : Addr} {Qd : Hp → Prop} (hD : H1 D = none) (hz : n < sizeLine) (R : Nat → Hp → V → Prop)
    (mS : ∀ i H H' v, Same H H' → R i H v → R i H' v) (mD : ∀ i H H' v l, But D H H' → H D = some (.lst l) → R i H v → R i H' v) (hG : ∀ H', Same H1 H' → G H')
    (hs : ∀ i x H2 H3, i < n → Same H1 H2 → Y i H2 x H3 → ∀ N : V → Hp → Prop, (∀ y H5, Same H2 H5 → R i H5 y → N y H5) → g x (wipe σ vs) H3 fun σ2 H4 => wipe σ2 vs = wipe σ vs ∧ te σ2 H4 N)
    (mono : ∀ x H3 (Q Q' : L2.St → Hp → Prop), (∀ σ2 H4, Q σ2 H4 → Q' σ2 H4) → g x (wipe σ vs) H3 Q → g x (wipe σ vs) H3 Q')
    (hd : ∀ H' ys, Same H1 H' → H' D = some (.lst ys) → ys.length = n → (∀ i v, ys[i]? = some v → R i H' v) → Qd H') :
    ∃ W : Nat → Nat → Hp → Prop, (∃ m, W 0 m (upd H1 D (.lst []))) ∧ ∀ i m H, W i m H →
      (J.stop i H ∧ Qd H) ∨ (J.go i H ∧ ∃ Nx : Hp → Prop, (∀ H', Nx H' → ∃ m', m' < m ∧ W (i + 1) m' H') ∧ ∀ x H', J.yld i H x H' → g x (wipe σ vs) H' fun σ2 H2 => wipe σ2 vs = wipe σ vs ∧ tYes σ2 H2 fun b H3 =>
        if b = true then te σ2 H3 fun y H4 => ∃ acc, H4 D = some (.lst acc) ∧ acc.length < sizeLine ∧ Nx (upd H4 D (.lst (acc ++ [y]))) else Nx H3) := by
  refine lc_it w (fun i H' => Same H1 H' ∧ ∃ acc, H' D = some (.lst acc) ∧ acc.length = i ∧ ∀ j v, acc[j]? = some v → R j H' v) ⟨same_new hD, [], upd_same, rfl, fun j v h => nomatch h⟩ (fun i H' _ q => hG H' q.1) ?_ ?_
  · rintro i x H2 H3 hi ⟨m, acc, f, hl, hr⟩ hy
    refine mono x H3 _ _ (fun σ2 H4 q => ⟨q.1, yes_i q.2⟩) (hs i x H2 H3 hi m hy _ fun y H5 m5 ry => ?_)
    have f5 := m5 _ _ f
    refine ⟨acc, f5, by omega, fun b o e => ?_, acc ++ [y], upd_same, by rw [List.length_append, hl]; rfl, fun j v hj => ?_⟩
    · rw [upd_ne (ne_of_none e hD)]
      exact m5 _ _ (m _ _ e)
    · have bu : But D H5 (upd H5 D (.lst (acc ++ [y]))) := But.upd
      by_cases hjl : j < acc.length
      · rw [List.getElem?_append_left hjl] at hj
        exact mD j _ _ v _ bu f5 (mS j _ _ v m5 (hr j v hj))
      · have hlt := (List.getElem?_eq_some_iff.mp hj).1
        rw [List.length_append] at hlt
        have hlt2 : j < acc.length + 1 := hlt
        have : j = acc.length := by omega
        subst this
        rw [List.getElem?_append_right (Nat.le_refl _), Nat.sub_self] at hj
        cases hj
        rw [hl]
        exact mD i _ _ _ _ bu f5 ry
  · rintro H' ⟨m, acc, f, hl, hr⟩
    exact hd H' acc m f hl hr
theorem mono_name {i : Nat} {σ : L2.St} : ∀ x H3 (Q Q' : L2.St → Hp → Prop), (∀ σ2 H4, Q σ2 H4 → Q' σ2 H4) → gName i x σ H3 Q → gName i x σ H3 Q' := fun _ _ _ _ h q => h _ _ q
theorem mono_pair {K : PySem.W.Frag} {i j n : Nat} {σ : L2.St} : ∀ x H3 (Q Q' : L2.St → Hp → Prop), (∀ σ2 H4, Q σ2 H4 → Q' σ2 H4) → gTup K n (gCons (gName i) (gCons (gName j) gNil)) x σ H3 Q → gTup K n (gCons (gName i) (gCons (gName j) gNil)) x σ H3 Q' := by
  rintro x H3 Q Q' h ⟨a, xs, e1, e2, e3, v, r, e4, v2, r2, e5, e6, q⟩
  exact ⟨a, xs, e1, e2, e3, v, r, e4, v2, r2, e5, e6, h _ _ q⟩
/-- the items are those of ys, whatever the heap -/
theorem lc_pure {J : It} {n : Nat} {G : Hp → Prop} {Y : Nat → Hp → V → Hp → Prop} (w : Walk J n G Y) {g : TG} {te : TE} {vs : List Nat} {σ : L2.St} {H1 : Hp} {D : Addr} {Qd : Hp → Prop} (hD : H1 D = none) (ys : List V) (hn : ys.length = n) (hz : n < sizeLine) (hG : ∀ H', Same H1 H' → G H')
    (hs : ∀ i x H2 H3 y, ys[i]? = some y → Same H1 H2 → Y i H2 x H3 → ∀ N : V → Hp → Prop, (∀ H5, Same H2 H5 → N y H5) → g x (wipe σ vs) H3 fun σ2 H4 => wipe σ2 vs = wipe σ vs ∧ te σ2 H4 N)
    (mono : ∀ x H3 (Q Q' : L2.St → Hp → Prop), (∀ σ2 H4, Q σ2 H4 → Q' σ2 H4) → g x (wipe σ vs) H3 Q → g x (wipe σ vs) H3 Q')
    (hd : ∀ H', Same H1 H' → H' D = some (.lst ys) → Qd H') :
    ∃ W : Nat → Nat → Hp → Prop, (∃ m, W 0 m (upd H1 D (.lst []))) ∧ ∀ i m H, W i m H →
      (J.stop i H ∧ Qd H) ∨ (J.go i H ∧ ∃ Nx : Hp → Prop, (∀ H', Nx H' → ∃ m', m' < m ∧ W (i + 1) m' H') ∧ ∀ x H', J.yld i H x H' → g x (wipe σ vs) H' fun σ2 H2 => wipe σ2 vs = wipe σ vs ∧ tYes σ2 H2 fun b H3 =>
        if b = true then te σ2 H3 fun y H4 => ∃ acc, H4 D = some (.lst acc) ∧ acc.length < sizeLine ∧ Nx (upd H4 D (.lst (acc ++ [y]))) else Nx H3) := by
  refine lc_rel w hD hz (fun i _ v => ys[i]? = some v) (fun _ _ _ _ _ h => h) (fun _ _ _ _ _ _ _ h => h) hG (fun i x H2 H3 hi m hy N hN => ?_) mono (fun H' zs m f hl hr => ?_)
  · have hi' : i < ys.length := by omega
    exact hs i x H2 H3 ys[i] (List.getElem?_eq_getElem hi') m hy N fun H5 m5 => hN _ H5 m5 (List.getElem?_eq_getElem hi')
  · have e : zs = ys := by
      refine List.ext_getElem (by omega) fun i h1 h2 => ?_
      have := hr i zs[i] (List.getElem?_eq_getElem h1)
      rw [List.getElem?_eq_getElem h2] at this
      exact (Option.some.inj this).symm
    rw [e] at f
    exact hd H' m f
theorem same_lock {H H' : Hp} {d : Addr} {od : Obj} {u : HO} (hd : H d = some u) (m : Same (upd H d (.frz od u)) H') : Same H (upd H' d u) := fun b o e => by
  by_cases hb : b = d
  · subst hb
    rw [upd_same, ← hd, e]
  · rw [upd_ne hb]
    exact m b o (by rw [upd_ne hb]; exact e)
theorem mkv_get : ∀ {ks : List Str} {vs : List V} {i : Nat} {k : Key} {v : V}, (VT.mkv ks vs)[i]? = some (k, v) → ∃ x, ks[i]? = some x ∧ k = Sum.inr x ∧ vs[i]? = some v
  | [], _, i, k, v, h => by cases h
  | _ :: _, [], i, k, v, h => by cases h
  | k0 :: ks, v0 :: vs, 0, k, v, h => by
    have h' : some ((Sum.inr k0 : Key), v0) = some (k, v) := h
    cases h'
    exact ⟨k0, rfl, rfl, rfl⟩
  | k0 :: ks, v0 :: vs, i + 1, k, v, h => mkv_get (ks := ks) (vs := vs) (i := i) h
end XR

/-! comprehensions item by item; what is told of the items ahead is at hand -/
namespace XR
open PySem L2
theorem dc_it {J : It} {n : Nat} {G : Hp → Prop} {Y : Nat → Hp → V → Hp → Prop} (w : Walk J n G Y) {g : TG} {tt : TT} {tk tv : TE} {vs : List Nat} {σ : L2.St} {H1 : Hp} {D : Addr} {Qd : Hp → Prop} (Pv : Nat → Hp → Prop) (h0 : Pv 0 (upd H1 D (.dK []))) (hG : ∀ i H, i ≤ n → Pv i H → G H)
    (hs : ∀ i x H H', i < n → Pv i H → Y i H x H' → g x (wipe σ vs) H' fun σ2 H2 => wipe σ2 vs = wipe σ vs ∧ tt σ2 H2 fun b H3 =>
      if b = true then tk σ2 H3 fun y H4 => tv σ2 H4 fun z H5 => ∃ kvs k, y = kV k ∧ H5 D = some (.dK kvs) ∧ kvs.length < sizeLine ∧ Pv (i + 1) (upd H5 D (.dK (putK kvs k z))) else Pv (i + 1) H3) (hd : ∀ H, Pv n H → Qd H) :
    ∃ W : Nat → Nat → Hp → Prop, (∃ m, W 0 m (upd H1 D (.dK []))) ∧ ∀ i m H, W i m H →
      (J.stop i H ∧ Qd H) ∨ (J.go i H ∧ ∃ Nx : Hp → Prop, (∀ H', Nx H' → ∃ m', m' < m ∧ W (i + 1) m' H') ∧ ∀ x H', J.yld i H x H' → g x (wipe σ vs) H' fun σ2 H2 => wipe σ2 vs = wipe σ vs ∧ tt σ2 H2 fun b H3 =>
        if b = true then tk σ2 H3 fun y H4 => tv σ2 H4 fun z H5 => ∃ kvs k, y = kV k ∧ H5 D = some (.dK kvs) ∧ kvs.length < sizeLine ∧ Nx (upd H5 D (.dK (putK kvs k z))) else Nx H3) := by
  refine ⟨fun i m H => m = n - i ∧ i ≤ n ∧ Pv i H, ⟨n, by simp, Nat.zero_le _, h0⟩, ?_⟩
  rintro i m H ⟨rfl, hi, p⟩
  have q := hG i H hi p
  by_cases hlt : i < n
  · exact .inr ⟨w.goes i H hlt q, Pv (i + 1), fun H' p' => ⟨n - (i + 1), by omega, rfl, hlt, p'⟩, fun x H' y => hs i x H H' hlt p (w.yields i H x H' hlt q y)⟩
  · have e : i = n := by omega
    subst e
    exact .inl ⟨w.stops H q, hd H p⟩
theorem yes_t {σ : L2.St} {H : Hp} {F M : Hp → Prop} (h : F H) : tYes σ H (fun b H3 => if b = true then F H3 else M H3) := by
  show (if true = true then F H else M H)
  rw [if_pos rfl]
  exact h
theorem app_get {α : Type} {l : List α} {x y : α} {j : Nat} (h : (l ++ [x])[j]? = some y) : (j < l.length ∧ l[j]? = some y) ∨ (j = l.length ∧ y = x) := by
  by_cases hj : j < l.length
  · rw [List.getElem?_append_left hj] at h
    exact .inl ⟨hj, h⟩
  · have hl := (List.getElem?_eq_some_iff.mp h).1
    rw [List.length_append] at hl
    have hl2 : j < l.length + 1 := hl
    have e : j = l.length := by omega
    subst e
    rw [List.getElem?_append_right (Nat.le_refl _), Nat.sub_self] at h
    cases h
    exact .inr ⟨rfl, rfl⟩
theorem mkv_snoc : ∀ {ks : List Str} {vs : List V} {k : Str} {v : V}, ks.length = vs.length → VT.mkv (ks ++ [k]) (vs ++ [v]) = VT.mkv ks vs ++ [(Sum.inr k, v)] := fun {ks vs k v} h => by
  unfold VT.mkv
  rw [List.zip_append h, List.map_append]
  rfl
theorem lc_relX {J : It} {n : Nat} {G : Hp → Prop} {Y : Nat → Hp → V → Hp → Prop} (w : Walk J n G Y) {g : TG} {te : TE} {vs : List Nat} {σ : L2.St} {H1 : Hp} {D : Addr} {Qd : Hp → Prop} (hD : H1 D = none) (hz : n < sizeLine) (R : Nat → Hp → V → Prop)
    (mS : ∀ i H H' v, Same H H' → R i H v → R i H' v) (mD : ∀ i H H' v l, But D H H' → H D = some (.lst l) → R i H v → R i H' v) (hG : ∀ H', Same H1 H' → G H')
    (hs : ∀ i x H2 H3, i < n → Same H1 H2 → (∀ j, j < i → ∃ H v, R j H v) → Y i H2 x H3 → ∀ N : V → Hp → Prop, (∀ y H5, Same H2 H5 → R i H5 y → N y H5) → g x (wipe σ vs) H3 fun σ2 H4 => wipe σ2 vs = wipe σ vs ∧ te σ2 H4 N)
    (mono : ∀ x H3 (Q Q' : L2.St → Hp → Prop), (∀ σ2 H4, Q σ2 H4 → Q' σ2 H4) → g x (wipe σ vs) H3 Q → g x (wipe σ vs) H3 Q')
    (hd : ∀ H' ys, Same H1 H' → H' D = some (.lst ys) → ys.length = n → (∀ i v, ys[i]? = some v → R i H' v) → Qd H') :
    ∃ W : Nat → Nat → Hp → Prop, (∃ m, W 0 m (upd H1 D (.lst []))) ∧ ∀ i m H, W i m H →
      (J.stop i H ∧ Qd H) ∨ (J.go i H ∧ ∃ Nx : Hp → Prop, (∀ H', Nx H' → ∃ m', m' < m ∧ W (i + 1) m' H') ∧ ∀ x H', J.yld i H x H' → g x (wipe σ vs) H' fun σ2 H2 => wipe σ2 vs = wipe σ vs ∧ tYes σ2 H2 fun b H3 =>
        if b = true then te σ2 H3 fun y H4 => ∃ acc, H4 D = some (.lst acc) ∧ acc.length < sizeLine ∧ Nx (upd H4 D (.lst (acc ++ [y]))) else Nx H3) := by
  refine lc_it w (fun i H' => Same H1 H' ∧ ∃ acc, H' D = some (.lst acc) ∧ acc.length = i ∧ ∀ j v, acc[j]? = some v → R j H' v) ⟨same_new hD, [], upd_same, rfl, fun j v h => nomatch h⟩ (fun i H' _ q => hG H' q.1) ?_ ?_
  · rintro i x H2 H3 hi ⟨m, acc, f, hl, hr⟩ hy
    have pr : ∀ j, j < i → ∃ H v, R j H v := fun j hj => ⟨H2, _, hr j acc[j] (List.getElem?_eq_getElem (by omega))⟩
    refine mono x H3 _ _ (fun σ2 H4 q => ⟨q.1, yes_i q.2⟩) (hs i x H2 H3 hi m pr hy _ fun y H5 m5 ry => ?_)
    have f5 := m5 _ _ f
    have bu : But D H5 (upd H5 D (.lst (acc ++ [y]))) := But.upd
    refine ⟨acc, f5, by omega, fun b o e => ?_, acc ++ [y], upd_same, by rw [List.length_append, hl]; rfl, fun j v hj => ?_⟩
    · rw [upd_ne (ne_of_none e hD)]
      exact m5 _ _ (m _ _ e)
    · rcases app_get hj with ⟨_, q⟩ | ⟨q, q2⟩
      · exact mD j _ _ v _ bu f5 (mS j _ _ v m5 (hr j v q))
      · subst q q2
        rw [hl]
        exact mD i _ _ _ _ bu f5 ry
  · rintro H' ⟨m, acc, f, hl, hr⟩
    exact hd H' acc m f hl hr
theorem dc_rel {J : It} {n : Nat} {G : Hp → Prop} {Y : Nat → Hp → V → Hp → Prop} (w : Walk J n G Y) {g : TG} {tk tv : TE} {vs : List Nat} {σ : L2.St} {H1 : Hp} {D : Addr} {Qd : Hp → Prop} (hD : H1 D = none) (ks : List Str) (hk : ks.length = n) (nd : ks.Nodup) (hz : n < sizeLine) (R : Nat → Hp → V → Prop)
    (mS : ∀ i H H' v, Same H H' → R i H v → R i H' v) (mD : ∀ i H H' v, But D H H' → R i H v → R i H' v) (hG : ∀ H', Same H1 H' → G H')
    (hs : ∀ i x k H2 H3, ks[i]? = some k → Same H1 H2 → H2 D ≠ none → (∀ j, j < i → ∃ H v, R j H v) → Y i H2 x H3 → ∀ N : V → V → Hp → Prop, (∀ y H5, Same H2 H5 → R i H5 y → N (.str k) y H5) → g x (wipe σ vs) H3 fun σ2 H4 => wipe σ2 vs = wipe σ vs ∧ tk σ2 H4 fun y H5 => tv σ2 H5 (N y))
    (mono : ∀ x H3 (Q Q' : L2.St → Hp → Prop), (∀ σ2 H4, Q σ2 H4 → Q' σ2 H4) → g x (wipe σ vs) H3 Q → g x (wipe σ vs) H3 Q')
    (hd : ∀ H' ys, Same H1 H' → H' D = some (.dK (VT.mkv ks ys)) → ys.length = n → (∀ i v, ys[i]? = some v → R i H' v) → Qd H') :
    ∃ W : Nat → Nat → Hp → Prop, (∃ m, W 0 m (upd H1 D (.dK []))) ∧ ∀ i m H, W i m H →
      (J.stop i H ∧ Qd H) ∨ (J.go i H ∧ ∃ Nx : Hp → Prop, (∀ H', Nx H' → ∃ m', m' < m ∧ W (i + 1) m' H') ∧ ∀ x H', J.yld i H x H' → g x (wipe σ vs) H' fun σ2 H2 => wipe σ2 vs = wipe σ vs ∧ tYes σ2 H2 fun b H3 =>
        if b = true then tk σ2 H3 fun y H4 => tv σ2 H4 fun z H5 => ∃ kvs k, y = kV k ∧ H5 D = some (.dK kvs) ∧ kvs.length < sizeLine ∧ Nx (upd H5 D (.dK (putK kvs k z))) else Nx H3) := by
  refine dc_it w (fun i H' => Same H1 H' ∧ ∃ acc : List V, H' D = some (.dK (VT.mkv (ks.take i) acc)) ∧ acc.length = i ∧ ∀ j v, acc[j]? = some v → R j H' v) ⟨same_new hD, [], by rw [upd_same]; rfl, rfl, fun j v h => nomatch h⟩ (fun i H' _ q => hG H' q.1) ?_ ?_
  · rintro i x H2 H3 hi ⟨m, acc, f, hl, hr⟩ hy
    have hki : ks[i]? = some ks[i] := List.getElem?_eq_getElem (by omega)
    have pr : ∀ j, j < i → ∃ H v, R j H v := fun j hj => ⟨H2, _, hr j acc[j] (List.getElem?_eq_getElem (by omega))⟩
    refine mono x H3 _ _ (fun σ2 H4 q => ⟨q.1, ?_⟩) (hs i x ks[i] H2 H3 hki m (by rw [f]; intro z; cases z) pr hy (fun k0 z H5 => ∃ kvs k, k0 = kV k ∧ H5 D = some (.dK kvs) ∧ kvs.length < sizeLine ∧ (Same H1 (upd H5 D (.dK (putK kvs k z))) ∧ ∃ acc : List V, (upd H5 D (.dK (putK kvs k z))) D = some (.dK (VT.mkv (ks.take (i + 1)) acc)) ∧ acc.length = i + 1 ∧ ∀ j v, acc[j]? = some v → R j (upd H5 D (.dK (putK kvs k z))) v)) fun y H5 m5 ry => ?_)
    · exact yes_t q.2
    have f5 := m5 _ _ f
    have lt : (ks.take i).length = acc.length := by rw [List.length_take, hl]; omega
    have nk : ks[i] ∉ ks.take i := fun hm => by
      obtain ⟨j, hj, ej⟩ := List.mem_iff_getElem.mp hm
      rw [List.length_take] at hj
      rw [List.getElem_take] at ej
      have := (List.pairwise_iff_getElem.mp nd) j i (by omega) (by omega) (by omega)
      exact this ej
    have ep : putK (VT.mkv (ks.take i) acc) (Sum.inr ks[i]) y = VT.mkv (ks.take (i + 1)) (acc ++ [y]) := by
      rw [putK_new y (VT.mkv_none (vs := acc) nk), List.take_add_one, hki]
      exact (mkv_snoc lt).symm
    refine ⟨_, Sum.inr ks[i], rfl, f5, by rw [VT.mkv_length lt, List.length_take]; omega, ?_⟩
    rw [ep]
    have bu : But D H5 (upd H5 D (.dK (VT.mkv (ks.take (i + 1)) (acc ++ [y])))) := But.upd
    refine ⟨fun b o e => ?_, acc ++ [y], upd_same, by rw [List.length_append, hl]; rfl, fun j v hj => ?_⟩
    · rw [upd_ne (ne_of_none e hD)]
      exact m5 _ _ (m _ _ e)
    · rcases app_get hj with ⟨_, q⟩ | ⟨q, q2⟩
      · exact mD j _ _ v bu (mS j _ _ v m5 (hr j v q))
      · subst q q2
        rw [hl]
        exact mD i _ _ _ bu ry
  · rintro H' ⟨m, acc, f, hl, hr⟩
    rw [← hk, List.take_length] at f
    exact hd H' acc m f hl hr
end XR

/-! trees within a part of the heap -/
namespace VT
open PySem L2 XR
open Classical in
noncomputable def keepH (P : Addr → Prop) (H : Hp) : Hp := fun b => if P b then H b else none
variable {CU : Addr} {P : Addr → Prop} {H H' : Hp} {v : V} {d : D}
theorem keep_at {b : Addr} (h : P b) : keepH P H b = H b := by unfold keepH; rw [if_pos h]
theorem keep_some {b : Addr} {o : HO} (h : keepH P H b = some o) : P b ∧ H b = some o := by
  unfold keepH at h
  split at h
  · exact ⟨by assumption, h⟩
  · cases h
theorem keep_same (m : Same H H') : Same (keepH P H) (keepH P H') := fun b o e => by
  obtain ⟨p, e'⟩ := keep_some e
  rw [keep_at p]
  exact m b o e'
theorem Rep.ofKeep (h : Rep CU (keepH P H) v d) : Rep CU H v d := h.mono fun a o e _ => (keep_some e).2
theorem Rep.all (h : Rep CU H v d) : Rep CU (keepH (fun _ => True) H) v d := h.mono fun a o e _ => by rw [keep_at trivial]; exact e
theorem Rep.keepS (m : Same H H') (h : Rep CU (keepH P H) v d) : Rep CU (keepH P H') v d := h.same (keep_same m)
theorem Rep.within {P' : Addr → Prop} (hp : ∀ b o, P b → H b = some o → P' b) (h : Rep CU (keepH P H) v d) : Rep CU (keepH P' H) v d := h.mono fun a o e _ => by
  obtain ⟨p, e'⟩ := keep_some e
  rw [keep_at (hp a o p e')]
  exact e'
/-- a new object does not stand in it -/
theorem Rep.notNew {D : Addr} (hD : H D = none) (m : Same H H') (h : Rep CU (keepH P H) v d) : Rep CU (keepH (fun b => P b ∧ b ≠ D) H') v d := (h.within (P' := fun b => P b ∧ b ≠ D) fun b o p e => ⟨p, ne_of_none e hD⟩).keepS m
theorem keep_but {D : Addr} (m : But D H H') : Same (keepH (fun b => P b ∧ b ≠ D) H) (keepH (fun b => P b ∧ b ≠ D) H') := fun b o e => by
  obtain ⟨p, e'⟩ := keep_some e
  rw [keep_at p]
  exact m b o e' p.2
theorem keep_upd {a : Addr} {o : HO} (h : P a) : keepH P (upd H a o) = upd (keepH P H) a o := by
  funext b
  by_cases hb : b = a
  · subst hb
    rw [upd_same, keep_at h, upd_same]
  · rw [upd_ne hb]
    unfold keepH
    rw [upd_ne hb]
theorem keep_unlock {a : Addr} {od : Obj} {u w : HO} (e : H a = some (.frz od w)) (h : Rep CU (keepH P H) v d) : Rep CU (keepH P (upd H a u)) v d := h.mono fun b o e2 t => by
  obtain ⟨p, e'⟩ := keep_some e2
  have nb : b ≠ a := fun z => by
    rw [z, e] at e'
    cases e'
    rcases t with ⟨_, q⟩ | ⟨_, q⟩ | ⟨_, q⟩ <;> cases q
  rw [keep_at p, upd_ne nb]
  exact e'
theorem Rep.keepL {D : Addr} {l : List V} (m : But D H H') (e : H D = some (.lst l)) (h : Rep CU (keepH P H) v d) : Rep CU (keepH P H') v d := h.mono fun b o e2 t => by
  obtain ⟨p, e'⟩ := keep_some e2
  rw [keep_at p]
  refine m b o e' fun z => ?_
  rw [z, e] at e'
  cases e'
  exact tr_lst t
theorem same_none {b : Addr} (m : Same H H') (h : H' b = none) : H b = none := by
  cases e : H b with
  | none => rfl
  | some o => rw [m _ _ e] at h; cases h
theorem Rep.tupKid {a : Addr} {xs : List V} {ds : List D} (h : Rep CU H (.ref a) (.tup ds)) (e : H a = some (.tup xs)) : xs.length = ds.length ∧ ds.length ≤ 60 ∧ ∀ (i : Nat) (v : V) (d : D), xs[i]? = some v → ds[i]? = some d → Rep CU H v d := by
  cases h with
  | tup h hl hz hs =>
    rw [h] at e
    cases e
    exact ⟨hl, hz, hs⟩
theorem Rep.mapKid {a : Addr} {kvs : List (Key × V)} {ks : List Str} {ds : List D} (h : Rep CU H (.ref a) (.map ks ds)) (e : H a = some (.dK kvs)) : ∃ vs, kvs = mkv ks vs ∧ vs.length = ds.length ∧ ks.length = ds.length ∧ ds.length ≤ 60 ∧ ks.Nodup ∧ (∀ k ∈ ks, TxOk k) ∧ ∀ (i : Nat) (v : V) (d : D), vs[i]? = some v → ds[i]? = some d → Rep CU H v d := by
  cases h with
  | map h hv hk hz nd ko hs =>
    rw [h] at e
    cases e
    exact ⟨_, rfl, hv, hk, hz, nd, ko, hs⟩
end VT

/-! xs != [] of any list; str(x) of a text or a whole number -/
namespace XR
open PySem PySem.Spec PyProof.Rows L2
section
variable {X : Cx}
def rNeNil (K : PySem.W.Frag) : R2 := fun x y H Q => ∃ (a b : Addr) (xs : List V), x = .ref a ∧ y = .ref b ∧ SqL K H a xs ∧ SqL K H b [] ∧ Q (.bl (!xs.isEmpty)) H
theorem op_neNil (hu : X.A.units < cLine) : OpR X (compareOp .NotEq) (rNeNil X.K) := by
  intro pins s σ H x y v u Q I rx ry h
  obtain ⟨a, b, xs, rfl, rfl, ha, hb, q⟩ := h
  obtain rfl : v = Value.ref a := rx
  obtain rfl : u = Value.ref b := ry
  obtain ⟨its, r1, l1, _⟩ := I.list ha
  obtain ⟨its2, r2, l2, _⟩ := I.list hb
  cases r2
  have len := r1.length
  show wpAny (model X.prog X.w) X.A (richCompare .NotEq (.ref a) (.ref b)) (EP X pins σ Q) X.xe s
  cases xs with
  | nil =>
    cases r1
    exact PySem.SeqAt.RcNeAt.lists (e := fun _ => true) l1.isList l2.isList rfl hu (fun j h1 _ => absurd h1 (Nat.not_lt_zero _)) X.prog X.w X.xe _ ⟨.bl false, H, I, rfl, q⟩
  | cons x xs =>
    refine PySem.SeqAt.RcNeAt.lists_lengths l1.isList l2.isList ?_ hu X.prog X.w X.xe _ ⟨.bl true, H, I, rfl, q⟩
    simp only [List.size_toArray, List.length_nil, bne_iff_ne, ne_eq]
    rw [← len]
    simp
/-- str(x) -/
theorem call_strSI : CallR X (.type "str") (fun xs H Q => (∃ a, xs = [.str a] ∧ Q (.str a) H) ∨ ∃ i : Int, xs = [.int i] ∧ i.natAbs.log2 < 1920 ∧ Q (.str (toString i)) H) := by
  intro pins s σ H xs us Q I r h
  rcases h with h | h
  · exact SkE.call_str_str pins s σ H xs us Q I r h
  · exact call_str_int pins s σ H xs us Q I r h
end
end XR

/-! xs == [] of any list -/
namespace XR
open PySem PySem.Spec PyProof.Rows L2
section
variable {X : Cx}
def rEqNil (K : PySem.W.Frag) : R2 := fun x y H Q => ∃ (a b : Addr) (xs : List V), x = .ref a ∧ y = .ref b ∧ SqL K H a xs ∧ SqL K H b [] ∧ Q (.bl xs.isEmpty) H
theorem op_eqNil (hu : X.A.units < cLine) : OpR X (compareOp .Eq) (rEqNil X.K) := by
  intro pins s σ H x y v u Q I rx ry h
  obtain ⟨a, b, xs, rfl, rfl, ha, hb, q⟩ := h
  obtain rfl : v = Value.ref a := rx
  obtain rfl : u = Value.ref b := ry
  obtain ⟨its, r1, l1, _⟩ := I.list ha
  obtain ⟨its2, r2, l2, _⟩ := I.list hb
  cases r2
  have len := r1.length
  show wpAny (model X.prog X.w) X.A (richCompare .Eq (.ref a) (.ref b)) (EP X pins σ Q) X.xe s
  cases xs with
  | nil =>
    cases r1
    exact PySem.SeqAt.RcAt.lists (e := fun _ => true) l1.isList l2.isList rfl hu (fun j h1 _ => absurd h1 (Nat.not_lt_zero _)) X.prog X.w X.xe _ ⟨.bl true, H, I, rfl, q⟩
  | cons x xs =>
    refine PySem.SeqAt.RcAt.lists_lengths l1.isList l2.isList ?_ hu X.prog X.w X.xe _ ⟨.bl false, H, I, rfl, q⟩
    simp only [List.size_toArray, List.length_nil, bne_iff_ne, ne_eq]
    rw [← len]
    simp
end
end XR

/-! value trees, in plain Lean: sorts, sameness -/
namespace VT
open PySem L2
def letters : List Nat := ("abcdefghijklmnopqrstuvwxyz" : Str).cps.toList
def isName (x : Str) : Bool := decide (1 ≤ x.length) && decide (x.length ≤ 12) && x.cps.toList.all fun c => decide (c ∈ letters)
def isTag : List D → Bool
  | [.str m, .str n, .int i] => decide (m = "#") && isName n && decide (1 ≤ i)
  | _ => false
def sort : D → Str
  | .tup l => if isTag l then "tag" else "tuple"
  | .bl _ => "bool"
  | .int _ => "integer"
  | .map _ _ => "map"
  | .str _ => "text"
  | .non => "none"
  | .unk => "none"
def isU : D → Bool
  | .unk => true
  | _ => false
def lsort (d : D) : Str := if isU d then "unknown" else sort d
def leqT : List D → List D → Bool
  | [.str m, .str n, .int i], [.str m', .str n', .int i'] => decide (m = m') && decide (n = n') && decide (i = i')
  | _, _ => false
def get (ks : List Str) (ds : List D) (k : Str) : D := ((ks.zip ds).lookup k).getD .non
def kids : D → D → Option (List (D × D))
  | .tup l, .tup l' => if isTag l then (if leqT l l' then some [] else none) else if l.length = l'.length then some (l.zip l') else none
  | .map ks ds, .map ks' ds' => if ks.Perm ks' then some ((ks.zip ds).map fun p => (p.2, get ks' ds' p.1)) else none
  | .non, .non => some []
  | .bl a, .bl b => if a = b then some [] else none
  | .int a, .int b => if a = b then some [] else none
  | .str a, .str b => if a = b then some [] else none
  | _, _ => none
def verdict (l : List D) : D := if (l.any fun d => match d with | .bl false => true | _ => false) then .bl false else if l.any isU then .unk else .bl true
def same : Nat → D → D → D
  | 0, _, _ => .bl false
  | n + 1, a, b => if (isU a || isU b) = true then .unk else if sort a = sort b then (match kids a b with | none => .bl false | some ps => verdict (ps.map fun p => same n p.1 p.2)) else .bl false
def may : Nat → D → D → Bool
  | 0, _, _ => false
  | n + 1, a, b => if (isU a || isU b) = true then true else if sort a = sort b then (match kids a b with | none => false | some ps => ps.all fun p => may n p.1 p.2) else false
def opn : Nat → D → Nat
  | 0, _ => 0
  | n + 1, d => match d with
    | .unk => 1
    | .tup l => if isTag l then 0 else (l.map (opn n)).sum
    | .map _ ds => (ds.map (opn n)).sum
    | _ => 0
def known : Nat → D → Bool
  | 0, _ => true
  | n + 1, d => match d with
    | .unk => false
    | .tup l => isTag l || l.all (known n)
    | .map _ ds => ds.all (known n)
    | _ => true
/-- keys of a map are unlike, and as many as its values -/
inductive Wf : D → Prop
  | leaf {d : D} (h1 : ∀ l, d ≠ .tup l) (h2 : ∀ ks ds, d ≠ .map ks ds) : Wf d
  | tup {l : List D} (h : ∀ d ∈ l, Wf d) : Wf (.tup l)
  | map {ks : List Str} {ds : List D} (nd : ks.Nodup) (hl : ks.length = ds.length) (h : ∀ d ∈ ds, Wf d) : Wf (.map ks ds)
theorem Rep.wf {CU : Addr} {H : Hp} {v : V} {d : D} (h : Rep CU H v d) : Wf d := by
  induction h with
  | non => exact .leaf (fun _ z => nomatch z) (fun _ _ z => nomatch z)
  | bl b => exact .leaf (fun _ z => nomatch z) (fun _ _ z => nomatch z)
  | int i => exact .leaf (fun _ z => nomatch z) (fun _ _ z => nomatch z)
  | str x h => exact .leaf (fun _ z => nomatch z) (fun _ _ z => nomatch z)
  | unk h => exact .leaf (fun _ z => nomatch z) (fun _ _ z => nomatch z)
  | @tup a xs ds h hl hz hs ih =>
    refine .tup fun d hd => ?_
    obtain ⟨i, hi, rfl⟩ := List.mem_iff_getElem.mp hd
    exact ih i xs[i] _ (List.getElem?_eq_getElem (by omega)) (List.getElem?_eq_getElem hi)
  | @map a vs ks ds h hv hk hz nd ko hs ih =>
    refine .map nd hk fun d hd => ?_
    obtain ⟨i, hi, rfl⟩ := List.mem_iff_getElem.mp hd
    exact ih i vs[i] _ (List.getElem?_eq_getElem (by omega)) (List.getElem?_eq_getElem hi)
theorem get_at : ∀ {ks : List Str} {ds : List D} {i : Nat} {k : Str} {d : D}, ks.Nodup → ks[i]? = some k → ds[i]? = some d → get ks ds k = d
  | k0 :: ks, d0 :: ds, 0, k, d, _, hk, hd => by
    cases hk; cases hd
    simp [get, List.lookup_cons]
  | k0 :: ks, d0 :: ds, i + 1, k, d, nd, hk, hd => by
    have hk' : ks[i]? = some k := hk
    have hd' : ds[i]? = some d := hd
    have nd' := List.nodup_cons.mp nd
    have ne : (k == k0) = false := beq_eq_false_iff_ne.mpr fun z => nd'.1 (by rw [← z]; exact List.mem_of_getElem? hk')
    have := get_at nd'.2 hk' hd'
    simpa [get, List.lookup_cons, ne] using this
theorem get_map {ks : List Str} {ds : List D} (nd : ks.Nodup) (hl : ks.length = ds.length) : ks.map (get ks ds) = ds := by
  refine List.ext_getElem (by rw [List.length_map]; exact hl) fun i h1 h2 => ?_
  rw [List.getElem_map]
  have h3 : i < ks.length := by rw [hl]; exact h2
  exact get_at nd (List.getElem?_eq_getElem h3) (List.getElem?_eq_getElem h2)
/-- what the two lists of a pair list add up to -/
theorem sum_pairs (f : D → Nat) : ∀ ps : List (D × D), ((ps.map (·.1)).map f).sum + ((ps.map (·.2)).map f).sum = (ps.map fun p => f p.1 + f p.2).sum
  | [] => rfl
  | p :: ps => by
    have := sum_pairs f ps
    simp only [List.map_cons, List.sum_cons]
    omega
theorem kids_sum {n : Nat} {a b : D} {ps : List (D × D)} (wa : Wf a) (wb : Wf b) (ua : isU a = false) (ub : isU b = false) (hs : sort a = sort b) (hk : kids a b = some ps) : opn (n + 1) a + opn (n + 1) b = (ps.map fun p => opn n p.1 + opn n p.2).sum := by
  rw [← sum_pairs]
  unfold kids at hk
  split at hk
  · rename_i l l'
    split at hk
    · rename_i ht
      split at hk
      · cases hk
        have ht' : isTag l' = true := by
          by_cases z : isTag l' = true
          · exact z
          · simp only [sort, if_pos ht, if_neg z] at hs
            exact absurd hs (by decide +kernel)
        simp [opn, ht, ht']
      · cases hk
    · rename_i ht
      have ht' : ¬ isTag l' = true := fun z => by
        simp only [sort, if_neg ht, if_pos z] at hs
        exact absurd hs (by decide +kernel)
      split at hk
      · rename_i hl
        cases hk
        rw [List.map_fst_zip (Nat.le_of_eq hl), List.map_snd_zip (Nat.le_of_eq hl.symm)]
        simp only [opn, if_neg ht, if_neg ht']
      · cases hk
  · rename_i ks ds ks' ds'
    split at hk
    · rename_i hp
      cases hk
      cases wa with
      | leaf _ h => exact absurd rfl (h _ _)
      | map nd hl hw =>
      cases wb with
      | leaf _ h => exact absurd rfl (h _ _)
      | map nd' hl' hw' =>
      have e1 : ((ks.zip ds).map fun p => (p.2, get ks' ds' p.1)).map (·.1) = ds := by
        rw [List.map_map]
        exact List.map_snd_zip (Nat.le_of_eq hl.symm)
      have e2 : ((ks.zip ds).map fun p => (p.2, get ks' ds' p.1)).map (·.2) = ks.map (get ks' ds') := by
        rw [List.map_map]
        have : (fun p : Str × D => get ks' ds' p.1) = (get ks' ds') ∘ (fun p : Str × D => p.1) := rfl
        show (ks.zip ds).map (fun p : Str × D => get ks' ds' p.1) = _
        rw [this, ← List.map_map, List.map_fst_zip (Nat.le_of_eq hl)]
      rw [e1, e2]
      have hq : (ks.map (get ks' ds')).Perm ds' := by
        have := hp.map (get ks' ds')
        rwa [get_map nd' hl'] at this
      have := (hq.map (opn n)).sum_nat
      simp only [opn]
      rw [this]
    · cases hk
  · cases hk; rfl
  · split at hk
    · cases hk; rfl
    · cases hk
  · split at hk
    · cases hk; rfl
    · cases hk
  · split at hk
    · cases hk; rfl
    · cases hk
  · cases hk
theorem get_mem {ks : List Str} {ds : List D} {k : Str} (nd : ks.Nodup) (hl : ks.length = ds.length) (h : k ∈ ks) : get ks ds k ∈ ds := by
  obtain ⟨i, hi, rfl⟩ := List.mem_iff_getElem.mp h
  have h2 : i < ds.length := by omega
  rw [get_at nd (List.getElem?_eq_getElem hi) (List.getElem?_eq_getElem h2)]
  exact List.getElem_mem h2
/-- the pairs of a and b are of children of a and children of b -/
theorem kids_of {a b : D} {ps : List (D × D)} (wa : Wf a) (wb : Wf b) (hk : kids a b = some ps) : ∀ p ∈ ps, Wf p.1 ∧ Wf p.2 ∧ dep p.1 < dep a ∧ dep p.2 < dep b := by
  unfold kids at hk
  intro p hp
  split at hk
  · rename_i l l'
    have h1 : ∀ {l : List D}, Wf (.tup l) → ∀ d ∈ l, Wf d ∧ dep d < dep (.tup l) := fun {l} w d hd => by
      cases w with
      | leaf h _ => exact absurd rfl (h _)
      | tup h =>
        have := dep_mem hd
        rw [dep]
        exact ⟨h d hd, by omega⟩
    split at hk
    · split at hk
      · cases hk; cases hp
      · cases hk
    · split at hk
      · cases hk
        obtain ⟨m1, m2⟩ := List.of_mem_zip (a := p.1) (b := p.2) hp
        exact ⟨(h1 wa _ m1).1, (h1 wb _ m2).1, (h1 wa _ m1).2, (h1 wb _ m2).2⟩
      · cases hk
  · rename_i ks ds ks' ds'
    split at hk
    · rename_i hpm
      cases hk
      cases wa with
      | leaf _ h => exact absurd rfl (h _ _)
      | map nd hl hw =>
      cases wb with
      | leaf _ h => exact absurd rfl (h _ _)
      | map nd' hl' hw' =>
      obtain ⟨q, hq, rfl⟩ := List.mem_map.mp hp
      obtain ⟨m1, m2⟩ := List.of_mem_zip (a := q.1) (b := q.2) hq
      have m3 := get_mem nd' hl' (hpm.mem_iff.mp m1)
      have d1 := dep_mem m2
      have d2 := dep_mem m3
      have f1 : dep (.map ks ds) = depL ds + 1 := by rw [dep]
      have f2 : dep (.map ks' ds') = depL ds' + 1 := by rw [dep]
      exact ⟨hw _ m2, hw' _ m3, by rw [f1]; exact Nat.lt_succ_of_le d1, by rw [f2]; exact Nat.lt_succ_of_le d2⟩
    · cases hk
  · cases hk; cases hp
  · split at hk
    · cases hk; cases hp
    · cases hk
  · split at hk
    · cases hk; cases hp
    · cases hk
  · split at hk
    · cases hk; cases hp
    · cases hk
  · cases hk
def res (m : Bool) (o : Nat) : D := if m then (if o = 0 then .bl true else .unk) else .bl false
theorem verdict_res {α : Type} (f : α → Bool) (g : α → Nat) (l : List α) : verdict (l.map fun x => res (f x) (g x)) = res (l.all f) (l.map g).sum := by
  unfold verdict
  rw [List.any_map, List.any_map]
  by_cases ha : l.all f = true
  · have h1 : (l.any ((fun d => match d with | D.bl false => true | _ => false) ∘ fun x => res (f x) (g x))) = false := by
      rw [List.any_eq_false]
      intro x hx
      have := List.all_eq_true.mp ha x hx
      simp only [Function.comp, res, this]
      by_cases z : g x = 0 <;> simp [z]
    rw [h1, ha]
    by_cases hs : (l.map g).sum = 0
    · rw [show res true (l.map g).sum = .bl true from by simp only [res, hs, if_true]]
      have h2 : l.any (isU ∘ fun x => res (f x) (g x)) = false := by
        rw [List.any_eq_false]
        intro x hx
        have e1 := List.all_eq_true.mp ha x hx
        have e2 : g x = 0 := (List.sum_eq_zero_iff_forall_eq_nat.mp hs) _ (List.mem_map.mpr ⟨x, hx, rfl⟩)
        simp [Function.comp, res, e1, e2, isU]
      rw [h2]
      rfl
    · rw [show res true (l.map g).sum = .unk from by simp only [res, if_neg hs, if_true]]
      have h2 : l.any (isU ∘ fun x => res (f x) (g x)) = true := by
        rw [List.any_eq_true]
        have : ∃ x ∈ l, g x ≠ 0 := by
          refine Classical.byContradiction fun z => hs (List.sum_eq_zero_iff_forall_eq_nat.mpr fun y hy => ?_)
          obtain ⟨x, hx, rfl⟩ := List.mem_map.mp hy
          exact Classical.byContradiction fun q => z ⟨x, hx, q⟩
        obtain ⟨x, hx, hg⟩ := this
        have e1 := List.all_eq_true.mp ha x hx
        exact ⟨x, hx, by simp [Function.comp, res, e1, hg, isU]⟩
      rw [h2]
      rfl
  · have ha' : l.all f = false := by simpa using ha
    have h1 : (l.any ((fun d => match d with | D.bl false => true | _ => false) ∘ fun x => res (f x) (g x))) = true := by
      rw [List.any_eq_true]
      have : ∃ x ∈ l, f x = false := by
        refine Classical.byContradiction fun z => ha (List.all_eq_true.mpr fun x hx => ?_)
        cases q : f x with
        | true => rfl
        | false => exact absurd ⟨x, hx, q⟩ z
      obtain ⟨x, hx, hf⟩ := this
      exact ⟨x, hx, by simp [Function.comp, res, hf]⟩
    rw [h1, ha']
    rfl
/-- same is what the law makes of may and of the unknown parts -/
theorem same_is : ∀ (n : Nat) (a b : D), Wf a → Wf b → dep a < n → dep b < n → same n a b = res (may n a b) (opn n a + opn n b)
  | 0, _, _, _, _, h, _ => absurd h (Nat.not_lt_zero _)
  | n + 1, a, b, wa, wb, ha, hb => by
    rw [same, may]
    by_cases hu : (isU a || isU b) = true
    · rw [if_pos hu, if_pos hu]
      have : opn (n + 1) a + opn (n + 1) b ≠ 0 := by
        rcases Bool.or_eq_true_iff.mp hu with z | z
        · cases a <;> simp [isU] at z
          simp [opn]
        · cases b <;> simp [isU] at z
          simp [opn]
      simp only [res, if_true, if_neg this]
    · rw [if_neg hu, if_neg hu]
      have hu' : isU a = false ∧ isU b = false := by simpa using hu
      by_cases hs : sort a = sort b
      · rw [if_pos hs, if_pos hs]
        cases hk : kids a b with
        | none => rfl
        | some ps =>
          show verdict (ps.map fun p => same n p.1 p.2) = res (ps.all fun p => may n p.1 p.2) (opn (n + 1) a + opn (n + 1) b)
          rw [kids_sum wa wb hu'.1 hu'.2 hs hk, ← verdict_res]
          congr 1
          refine List.map_congr_left fun p hp => ?_
          obtain ⟨w1, w2, d1, d2⟩ := kids_of wa wb hk p hp
          exact same_is n p.1 p.2 w1 w2 (by omega) (by omega)
      · rw [if_neg hs, if_neg hs]
        rfl
theorem known_is : ∀ (n : Nat) (d : D), dep d < n → known n d = decide (opn n d = 0)
  | 0, _, h => absurd h (Nat.not_lt_zero _)
  | n + 1, d, h => by
    have key : ∀ l : List D, depL l < n → l.all (known n) = decide ((l.map (opn n)).sum = 0) := fun l hl => by
      rw [Bool.eq_iff_iff, List.all_eq_true, decide_eq_true_iff, List.sum_eq_zero_iff_forall_eq_nat]
      constructor
      · intro z y hy
        obtain ⟨x, hx, rfl⟩ := List.mem_map.mp hy
        have := z x hx
        rw [known_is n x (Nat.lt_of_le_of_lt (dep_mem hx) hl)] at this
        exact of_decide_eq_true this
      · intro z x hx
        rw [known_is n x (Nat.lt_of_le_of_lt (dep_mem hx) hl)]
        exact decide_eq_true (z _ (List.mem_map.mpr ⟨x, hx, rfl⟩))
    cases d with
    | tup l =>
      rw [dep] at h
      have e1 : known (n + 1) (.tup l) = (isTag l || l.all (known n)) := rfl
      have e2 : opn (n + 1) (.tup l) = if isTag l then 0 else (l.map (opn n)).sum := rfl
      rw [e1, e2]
      by_cases ht : isTag l = true
      · simp [ht]
      · rw [if_neg ht, key l (by omega)]
        simp [ht]
    | map ks ds =>
      rw [dep] at h
      exact key ds (by omega)
    | non => simp [known, opn]
    | bl b => simp [known, opn]
    | int i => simp [known, opn]
    | str x => simp [known, opn]
    | unk => simp [known, opn]
end VT

namespace VT
open PySem L2
def pairAt (ks : List Str) (ds : List D) (ks' : List Str) (ds' : List D) (k : Str) : D × D := (get ks ds k, get ks' ds' k)
theorem zip_pairs {ks ks' : List Str} {ds ds' : List D} (nd : ks.Nodup) (hl : ks.length = ds.length) : (ks.zip ds).map (fun p => (p.2, get ks' ds' p.1)) = ks.map (pairAt ks ds ks' ds') := by
  refine List.ext_getElem (by simp [hl]) fun i h1 h2 => ?_
  have h3 : i < ks.length := by simpa using h2
  have h4 : i < ds.length := by omega
  simp only [List.getElem_map, List.getElem_zip, pairAt]
  rw [get_at nd (List.getElem?_eq_getElem h3) (List.getElem?_eq_getElem h4)]
theorem leqT_symm (l l' : List D) : leqT l l' = leqT l' l := by
  unfold leqT
  split
  · rename_i m n i m' n' i'
    simp only [eq_comm]
  · rename_i h
    split
    · rename_i m n i m' n' i'
      exact absurd rfl (h _ _ _ _ _ _ rfl)
    · rfl
def swp (p : D × D) : D × D := (p.2, p.1)
theorem zip_swp : ∀ l l' : List D, (l.zip l').map swp = l'.zip l
  | [], [] => rfl
  | [], _ :: _ => rfl
  | _ :: _, [] => rfl
  | x :: l, y :: l' => by
    show swp (x, y) :: (l.zip l').map swp = (y, x) :: l'.zip l
    rw [zip_swp l l']
    rfl
theorem kids_symm {a b : D} (wa : Wf a) (wb : Wf b) (hs : sort a = sort b) : (kids a b = none ∧ kids b a = none) ∨ ∃ ps qs, kids a b = some ps ∧ kids b a = some qs ∧ qs.Perm (ps.map swp) := by
  cases a with
  | tup l =>
    cases b with
    | tup l' =>
      have ht : isTag l = isTag l' := by
        cases h1 : isTag l <;> cases h2 : isTag l' <;> simp only [sort, h1, h2] at hs <;> first | rfl | exact absurd hs (by decide +kernel)
      show ((if isTag l then (if leqT l l' then some [] else none) else if l.length = l'.length then some (l.zip l') else none) = none ∧ (if isTag l' then (if leqT l' l then some [] else none) else if l'.length = l.length then some (l'.zip l) else none) = none) ∨
        ∃ ps qs, (if isTag l then (if leqT l l' then some [] else none) else if l.length = l'.length then some (l.zip l') else none) = some ps ∧ (if isTag l' then (if leqT l' l then some [] else none) else if l'.length = l.length then some (l'.zip l) else none) = some qs ∧ qs.Perm (ps.map swp)
      rw [← ht, leqT_symm l' l]
      by_cases h1 : isTag l = true
      · rw [if_pos h1, if_pos h1]
        by_cases h2 : leqT l l' = true
        · rw [if_pos h2]
          exact .inr ⟨[], [], rfl, rfl, .nil⟩
        · rw [if_neg h2]
          exact .inl ⟨rfl, rfl⟩
      · rw [if_neg h1, if_neg h1]
        by_cases h2 : l.length = l'.length
        · rw [if_pos h2, if_pos h2.symm]
          refine .inr ⟨_, _, rfl, rfl, ?_⟩
          rw [zip_swp]
        · rw [if_neg h2, if_neg fun z => h2 z.symm]
          exact .inl ⟨rfl, rfl⟩
    | _ => exact .inl ⟨rfl, rfl⟩
  | map ks ds =>
    cases b with
    | map ks' ds' =>
      cases wa with
      | leaf _ h => exact absurd rfl (h _ _)
      | map nd hl hw =>
      cases wb with
      | leaf _ h => exact absurd rfl (h _ _)
      | map nd' hl' hw' =>
      show ((if ks.Perm ks' then some ((ks.zip ds).map fun p => (p.2, get ks' ds' p.1)) else none) = none ∧ (if ks'.Perm ks then some ((ks'.zip ds').map fun p => (p.2, get ks ds p.1)) else none) = none) ∨
        ∃ ps qs, (if ks.Perm ks' then some ((ks.zip ds).map fun p => (p.2, get ks' ds' p.1)) else none) = some ps ∧ (if ks'.Perm ks then some ((ks'.zip ds').map fun p => (p.2, get ks ds p.1)) else none) = some qs ∧ qs.Perm (ps.map swp)
      by_cases h : ks.Perm ks'
      · rw [if_pos h, if_pos h.symm, zip_pairs nd hl, zip_pairs nd' hl']
        refine .inr ⟨_, _, rfl, rfl, ?_⟩
        rw [List.map_map]
        exact h.symm.map _
      · rw [if_neg h, if_neg fun z => h z.symm]
        exact .inl ⟨rfl, rfl⟩
    | _ => exact .inl ⟨rfl, rfl⟩
  | non => cases b <;> first | exact .inl ⟨rfl, rfl⟩ | exact .inr ⟨[], [], rfl, rfl, .nil⟩
  | unk => cases b <;> exact .inl ⟨rfl, rfl⟩
  | bl x =>
    cases b with
    | bl y =>
      show ((if x = y then some [] else none) = none ∧ (if y = x then some [] else none) = none) ∨ ∃ ps qs, (if x = y then some [] else none) = some ps ∧ (if y = x then some [] else none) = some qs ∧ qs.Perm (ps.map swp)
      by_cases h : x = y
      · rw [if_pos h, if_pos h.symm]; exact .inr ⟨[], [], rfl, rfl, .nil⟩
      · rw [if_neg h, if_neg fun z => h z.symm]; exact .inl ⟨rfl, rfl⟩
    | _ => exact .inl ⟨rfl, rfl⟩
  | int x =>
    cases b with
    | int y =>
      show ((if x = y then some [] else none) = none ∧ (if y = x then some [] else none) = none) ∨ ∃ ps qs, (if x = y then some [] else none) = some ps ∧ (if y = x then some [] else none) = some qs ∧ qs.Perm (ps.map swp)
      by_cases h : x = y
      · rw [if_pos h, if_pos h.symm]; exact .inr ⟨[], [], rfl, rfl, .nil⟩
      · rw [if_neg h, if_neg fun z => h z.symm]; exact .inl ⟨rfl, rfl⟩
    | _ => exact .inl ⟨rfl, rfl⟩
  | str x =>
    cases b with
    | str y =>
      show ((if x = y then some [] else none) = none ∧ (if y = x then some [] else none) = none) ∨ ∃ ps qs, (if x = y then some [] else none) = some ps ∧ (if y = x then some [] else none) = some qs ∧ qs.Perm (ps.map swp)
      by_cases h : x = y
      · rw [if_pos h, if_pos h.symm]; exact .inr ⟨[], [], rfl, rfl, .nil⟩
      · rw [if_neg h, if_neg fun z => h z.symm]; exact .inl ⟨rfl, rfl⟩
    | _ => exact .inl ⟨rfl, rfl⟩
theorem all_perm {α : Type} {f : α → Bool} {l l' : List α} (h : l.Perm l') : l.all f = l'.all f := by
  rw [Bool.eq_iff_iff, List.all_eq_true, List.all_eq_true]
  exact ⟨fun z x hx => z x (h.mem_iff.mpr hx), fun z x hx => z x (h.mem_iff.mp hx)⟩
theorem any_perm {α : Type} {f : α → Bool} {l l' : List α} (h : l.Perm l') : l.any f = l'.any f := by
  rw [Bool.eq_iff_iff, List.any_eq_true, List.any_eq_true]
  exact ⟨fun ⟨x, hx, z⟩ => ⟨x, h.mem_iff.mp hx, z⟩, fun ⟨x, hx, z⟩ => ⟨x, h.mem_iff.mpr hx, z⟩⟩
theorem verdict_perm {l l' : List D} (h : l.Perm l') : verdict l = verdict l' := by
  unfold verdict
  rw [any_perm h, any_perm (f := isU) h]
theorem may_symm : ∀ (n : Nat) (a b : D), Wf a → Wf b → may n a b = may n b a
  | 0, _, _, _, _ => rfl
  | n + 1, a, b, wa, wb => by
    rw [may, may, Bool.or_comm (isU b)]
    by_cases hu : (isU a || isU b) = true
    · rw [if_pos hu, if_pos hu]
    · rw [if_neg hu, if_neg hu]
      by_cases hs : sort a = sort b
      · rw [if_pos hs, if_pos hs.symm]
        rcases kids_symm wa wb hs with ⟨h1, h2⟩ | ⟨ps, qs, h1, h2, hp⟩
        · rw [h1, h2]
        · rw [h1, h2]
          show (ps.all fun p => may n p.1 p.2) = qs.all fun p => may n p.1 p.2
          rw [all_perm hp, List.all_map]
          refine Bool.eq_iff_iff.mpr ?_
          rw [List.all_eq_true, List.all_eq_true]
          have key : ∀ p ∈ ps, may n p.1 p.2 = may n p.2 p.1 := fun p hp' => by
            obtain ⟨w1, w2, _⟩ := kids_of wa wb h1 p hp'
            exact may_symm n p.1 p.2 w1 w2
          exact ⟨fun z p hp' => (key p hp').symm.trans (z p hp'), fun z p hp' => (key p hp').trans (z p hp')⟩
      · rw [if_neg hs, if_neg fun z => hs z.symm]
theorem same_symm (n : Nat) (a b : D) (wa : Wf a) (wb : Wf b) (ha : dep a < n) (hb : dep b < n) : same n b a = res (may n a b) (opn n a + opn n b) := by
  rw [same_is n b a wb wa hb ha, may_symm n b a wb wa, Nat.add_comm]
end VT

/-! sorted texts: the one order -/
namespace VT
open PySem PyProof.Rows
def leS (a b : Str) : Prop := a.cps.toList ≤ b.cps.toList
theorem leS_of {a b : Str} (h : (!PySem.Spec.ltCps b.cps.toList a.cps.toList) = true) : leS a b := by
  rw [ltCps_eq] at h
  have : ¬ b.cps.toList < a.cps.toList := by simpa using h
  exact List.not_lt.mp this
theorem leS_trans {a b c : Str} (h1 : leS a b) (h2 : leS b c) : leS a c := List.le_trans h1 h2
theorem leS_anti {a b : Str} (h1 : leS a b) (h2 : leS b a) : a = b := by
  have h := List.le_antisymm h1 h2
  cases a
  cases b
  congr 1
  exact Array.toList_inj.mp h
theorem rising_pw : ∀ (p : Str) (l : List Str), risingS p l = true → (p :: l).Pairwise leS
  | p, [], _ => List.pairwise_singleton _ _
  | p, x :: r, h => by
    rw [risingS, Bool.and_eq_true] at h
    have ih := rising_pw x r h.2
    have hx := leS_of h.1
    refine List.pairwise_cons.mpr ⟨fun y hy => ?_, ih⟩
    rcases List.mem_cons.mp hy with rfl | hy
    · exact hx
    · exact leS_trans hx ((List.pairwise_cons.mp ih).1 y hy)
theorem sorted_pw : ∀ (l : List Str), sortedS l = true → l.Pairwise leS
  | [], _ => List.Pairwise.nil
  | x :: r, h => rising_pw x r h
theorem sorted_one {ys zs ks ls : List Str} (h1 : ys.Perm ks) (s1 : sortedS ys = true) (h2 : zs.Perm ls) (s2 : sortedS zs = true) : ys = zs ↔ ks.Perm ls := by
  constructor
  · intro e
    exact h1.symm.trans (e ▸ h2)
  · intro h
    exact List.Perm.eq_of_pairwise (fun a b _ _ x y => leS_anti x y) (sorted_pw _ s1) (sorted_pw _ s2) (h1.trans (h.trans h2.symm))
/-- == of two lists of texts -/
theorem eqv_strs : ∀ (ys zs : List Str), PyData.eqvAll (ys.map .str) (zs.map .str) = decide (ys = zs)
  | [], [] => by simp [PyData.eqvAll]
  | [], z :: zs => by simp [PyData.eqvAll]
  | y :: ys, [] => by simp [PyData.eqvAll]
  | y :: ys, z :: zs => by
    have := eqv_strs ys zs
    simp only [List.map_cons, PyData.eqvAll, PyData.eqv, this]
    rw [Bool.eq_iff_iff]
    simp
end VT

/-! == of an own instance with any value; x in a list of bools and such instances -/
namespace XR
open PySem PySem.Spec PyProof.Rows L2
section
variable {X : Cx} {C f : Addr} {fd : FuncData} {ps : List Str} {n : Nat} {sp : Sp}
/-- the own __eq__ called from inside richCompare -/
theorem own_eq_call {A : Around} {pins : List (Addr × Obj)} {σ : L2.St} {H : Hp} {s : Shared} {x y : V} {u v : Value} {Q : VK} (F : FnOk X.prog X.w X.K X.mg X.base CX0 n f fd ps sp) (hb : Binds X.K fd ps []) (sb : Sub X n A) (I : Inv X pins σ H s) (rx : RelV x u) (ry : RelV y v)
    (hsp : sp [x, y] H (fun v H' => (∃ b, v = .bl b) ∧ Q v H') E0) : wpAny (model X.prog X.w) A (call (.ref f) [u, v]) (fun w' s' => ∃ b H', w' = .bool b ∧ Inv X pins σ H' s' ∧ Q (.bl b) H') X.xe s := by
  have e0 : Env0 X.prog X.w X.K X.mg X.base A X.stack s H := by
    have e := I.env0
    exact ⟨by rw [sb.fr]; exact e.frames, e.mod, e.bs, e.bsz, e.funs, e.frf, e.hok, e.bare⟩
  have hl := F.len _ _ _ _ hsp
  have r2 : Vals [x, y] [u, v] := .cons rx (.cons ry .nil)
  refine wpAny_call (codeAny_mono (F.run A X.stack s H ⟨[u, v], []⟩ [u, v] [x, y] _ E0 sb.room e0 (by
    have := hb s [u, v] I.kIn (by simpa using hl)
    simpa using this) r2 hsp) fun r s' hq => ?_)
  cases r with
  | error e => exact (show False from hq).elim
  | ok fl =>
    cases fl with
    | ret w =>
      obtain ⟨z, H', I', rz, ⟨b, ez⟩, q⟩ := I.after hq
      subst ez
      cases rz
      exact ⟨b, H', rfl, I', q⟩
    | next => exact False.elim hq
    | brk => exact False.elim hq
    | cont => exact False.elim hq
/-- the left one an own instance, the right one anything -/
theorem rc_own {A : Around} {pins : List (Addr × Obj)} {σ : L2.St} {H : Hp} {s : Shared} {a dx : Addr} {fs : List (Str × V)} {y : V} {v t : Value} {Q : VK} (F : FnOk X.prog X.w X.K X.mg X.base CX0 n f fd ps sp)
    (hs : PySem.W.findIn X.K (.ref C) "__eq__" = some (some (.ref f))) (hf : PySem.W.isFn X.K (.ref f) = true) (hb : Binds X.K fd ps []) (sb : Sub X n A) (I : Inv X pins σ H s) (ry : RelV y v) (ha : H a = some (.ins C dx fs)) (ty : TyX X.K H y t) (hn : PySem.W.notFirst X.K C t = true)
    (hsp : sp [.ref a, y] H (fun v H' => (∃ b, v = .bl b) ∧ Q v H') E0) : wpAny (model X.prog X.w) A (richCompare .Eq (.ref a) v) (fun w' s' => ∃ b H', w' = .bool b ∧ Inv X pins σ H' s' ∧ Q (.bl b) H') X.xe s := by
  obtain ⟨mA, J, _⟩ := ins_get I.hok ha
  obtain ⟨od, J, _⟩ := J.look
  obtain ⟨m, hF⟩ := I.fr
  obtain ⟨Pk, Z, hP, _⟩ := kit_of I ry ty
  refine PySem.W.cmp_K (op := .Eq) (tb := t) sb.room.units0 hF I.ok.mod.kin J (Z.ty _ _ I.kIn hP) hn hs hf ?_
  refine wpAny_mono (own_eq_call F hb sb I (x := .ref a) rfl ry hsp) (fun w' s' hq => ?_) fun _ _ x => x
  obtain ⟨b, H', rfl, q⟩ := hq
  exact ⟨b, H', rfl, q⟩
def rEqU (K : PySem.W.Frag) (C : Addr) (sp : Sp) : R2 := fun x y H Q => ∃ a dx fs t, x = .ref a ∧ H a = some (.ins C dx fs) ∧ TyX K H y t ∧ PySem.W.notFirst K C t = true ∧ sp [x, y] H (fun v H' => (∃ b, v = .bl b) ∧ Q v H') E0
theorem op_eqU (F : FnOk X.prog X.w X.K X.mg X.base CX0 n f fd ps sp) (hs : PySem.W.findIn X.K (.ref C) "__eq__" = some (some (.ref f))) (hf : PySem.W.isFn X.K (.ref f) = true) (hb : Binds X.K fd ps []) (hr : Room n X.A) :
    OpR X (compareOp .Eq) (rEqU X.K C sp) := by
  intro pins s σ H x y v u Q I rx ry h
  obtain ⟨a, dx, fs, t, rfl, ha, ty, hn, hsp⟩ := h
  obtain rfl : v = Value.ref a := rx
  show wpAny (model X.prog X.w) X.A (richCompare .Eq (.ref a) u) (EP X pins σ Q) X.xe s
  refine wpAny_mono (rc_own F hs hf hb ⟨hr, rfl⟩ I ry ha ty hn hsp) (fun w' s' hq => ?_) fun _ _ x => x
  obtain ⟨b, H', rfl, I', q⟩ := hq
  exact ⟨.bl b, H', I', rfl, q⟩
theorem int_declines_plain (b : Bool) (l : Addr) (c : Value) (dd : Option Addr) (sl : Array (Option Value)) :
    Meets (Builtin.«int.__eq__» ⟨[.bool b, .ref l], []⟩) (fun _ R s => s.heap.get? l = some { cls := c, dict := dd, data := .plain, slots := sl } ∧ R (.ok (.ret .notImplemented)) s) :=
  .of_wp fun prog w A R s h => by obtain ⟨hp, g, d, tk, os⟩ := s; obtain ⟨hl, h⟩ := h; wp_walk using AutoSeq1.wpAny_loadPart' hl, wpAny_load hl; exact ⟨_, rfl, h⟩
/-- a bool on the left, an own instance on the right -/
theorem rc_bool_own {A : Around} {pins : List (Addr × Obj)} {σ : L2.St} {H : Hp} {s : Shared} {a dx : Addr} {fs : List (Str × V)} {b : Bool} {Q : VK} (F : FnOk X.prog X.w X.K X.mg X.base CX0 n f fd ps sp)
    (hs : PySem.W.findIn X.K (.ref C) "__eq__" = some (some (.ref f))) (hf : PySem.W.isFn X.K (.ref f) = true) (hb : Binds X.K fd ps []) (sb : Sub X n A) (I : Inv X pins σ H s) (ha : H a = some (.ins C dx fs)) (hsub : PySem.W.subIn X.K (.ref C) (.type "bool") = some false)
    (hsp : sp [.ref a, .bl b] H (fun v H' => (∃ b, v = .bl b) ∧ Q v H') E0) : wpAny (model X.prog X.w) A (richCompare .Eq (.bool b) (.ref a)) (fun w' s' => ∃ b H', w' = .bool b ∧ Inv X pins σ H' s' ∧ Q (.bl b) H') X.xe s := by
  obtain ⟨mA, J, _⟩ := ins_get I.hok ha
  obtain ⟨od, J, _⟩ := J.look
  obtain ⟨m, hF⟩ := I.fr
  have one : wpAny (model X.prog X.w) A (tryCompare (.ref a) "__eq__" (.bool b)) (fun r s' => ∃ v, r = some v ∧ ∃ b H', v = .bool b ∧ Inv X pins σ H' s' ∧ Q (.bl b) H') X.xe s := by
    unfold tryCompare
    refine wpAny_bind (PySem.W.ifBound_K I.kIn J hs hf (wpAny_mono (own_eq_call F hb sb I (x := .ref a) (y := .bl b) rfl rfl hsp) (fun v s' hv => ?_) fun _ _ e => e))
    obtain ⟨b', H', rfl, q⟩ := hv
    exact wpAny_pure ⟨_, rfl, b', H', rfl, q⟩
  have hT : s.TypeIs (.bool b) "bool" := rfl
  unfold richCompare
  simp only [hT.oneThing_none]
  refine wpAny_holding (wpAny_bind (wpAny_cRoomFor sb.room.units0 ?_))
  refine wpAny_bind (wpAny_typeOf hT (wpAny_bind (J.type.here ?_)))
  rw [if_pos (show ((Value.type "bool") != Value.ref C) = true from rfl)]
  refine wpAny_bind ((PySem.W.looks_subIn I.kIn hsub).here ?_)
  simp only [Bool.false_eq_true, if_false, Bool.not_false, if_true]
  have hda : s.heap.get? a = some (PySem.W.instObj C dx) := (show ObjOk _ _ _ _ a (.ins C dx fs) from I.hok a _ ha).2.2.2.1
  refine wpAny_bind (m := tryCompare (.bool b) _ _) (wpAny_tryCompare_declines hT PySem.F.slot_bool_eq (call_meets PySem.F.slot_bool_eq hT PySem.F.entry_int_eq (PySem.F.args_int_eq_2 _ _) (int_declines_plain b a _ _ _) ⟨hda, rfl, ?_⟩))
  refine wpAny_bind (m := tryCompare (.ref a) _ _) (wpAny_mono one (fun r s' z => ?_) fun _ _ e => e)
  obtain ⟨v, rfl, hq⟩ := z
  exact wpAny_pure hq
/-- x in the list at l, what stays true the while: Iv -/
theorem contains_loopG {prog : Program} {w : World} {A : Around} {R : Result → Shared → Prop} {l : Addr} {x : Value} (N : Nat) (e : Nat → Bool) (Iv : Shared → Prop)
    (ht : ∀ s, Iv s → ∃ items n dd sl, s.heap.get? l = some { cls := .type "list", dict := dd, data := .seq items n, slots := sl } ∧ items.size = N ∧
      ∀ (i : Nat) (h : i < items.size) (Q : Bool → Shared → Prop), (∀ s', Iv s' → Q (e i) s') → wpAny (model prog w) A.in1 (eqBool items[i] x) Q (fun er s' => R (.error er) s') s)
    (hR : ∀ s b, Iv s → (b = true ↔ ∃ i, i < N ∧ e i = true) → R (.ok (.ret (.bool b))) s) :
    ∀ (k i : Nat) (s : Shared), N - i = k → i ≤ N → (∀ j, j < i → e j = false) → Iv s →
      wpAny (model prog w) A.in1 (Builtin.«list.__contains__.loop» ⟨[.ref l, x, rawInt i], []⟩) (fun fin s' => match fin with | .done f => R (.ok f) s' | .again c' => c'.quiet = true ∧ codeAny (model prog w) A c' R s') (fun e s' => R (.error e) s') s := by
  intro k
  induction k with
  | zero =>
    intro i s hk hi hj I
    obtain ⟨items, n, dd, sl, hl, hN, _⟩ := ht s I
    have hin : i = N := by omega
    have fin := hR s false I ⟨fun z => Bool.noConfusion z, fun ⟨j, h1, h2⟩ => by rw [hj j (by omega)] at h2; cases h2⟩
    obtain ⟨hp, g, d, tk, os⟩ := s
    wp_walk using AutoSeq1.wpAny_loadPart' hl
    have hi : items[((i : Nat) : Int).toNat]? = none := by simp; omega
    rw [hi]
    wp_walk
    exact fin
  | succ k ih =>
    intro i s hk hi hj I
    obtain ⟨items, n, dd, sl, hl', hN, he⟩ := ht s I
    have hlt : i < items.size := by omega
    have heI := he i hlt
    obtain ⟨hp, g, d, tk, os⟩ := s
    wp_walk using AutoSeq1.wpAny_loadPart' hl'
    have hi2 : items[((i : Nat) : Int).toNat]? = some items[i] := by simp [hlt]
    rw [hi2]
    refine wpAny_bind (heI _ fun s' I' => ?_)
    cases hb : e i with
    | true =>
      have fin := hR s' true I' ⟨fun _ => ⟨i, by omega, hb⟩, fun _ => rfl⟩
      obtain ⟨hp, g, d, tk, os⟩ := s'
      wp_walk
      exact fin
    | false =>
      have nx := ih (i + 1) s' (by omega) (by omega) (fun j hj' => by
        rcases Nat.lt_succ_iff_lt_or_eq.mp hj' with z | z
        · exact hj j z
        · rw [z]; exact hb) I'
      have hc : ((i : Int) + 1) = ((i + 1 : Nat) : Int) := by push_cast; rfl
      obtain ⟨hp, g, d, tk, os⟩ := s'
      wp_walk
      rw [hc]
      exact ⟨plainId_quiet MeetsSeq.plain_contains_loop _, codeAny_builtin MeetsSeq.entry_contains_loop (by
        rw [Around.under_plainId MeetsSeq.plain_contains_loop _]
        exact nx)⟩
/-- the promise of «return isinstance(other, C)» -/
def spIsC (K : PySem.W.Frag) (C : Addr) : Sp := fun vs H Q _ => ∃ (a : Addr) (y : V) (t : Value) (b : Bool), vs = [.ref a, y] ∧ TyX K H y t ∧ PySem.W.kitOne K t (.ref C) = some b ∧ ∀ H', Same H H' → Q (.bl b) H'
structure UCls (K : PySem.W.Frag) (C f : Addr) : Prop where
  hs : PySem.W.findIn K (.ref C) "__eq__" = some (some (.ref f))
  hf : PySem.W.isFn K (.ref f) = true
  ty : ∀ (H : Hp) (a dx : Addr) (fs : List (Str × V)), H a = some (.ins C dx fs) → TyX K H (.ref a) (.ref C)
  kb : PySem.W.kitOne K (.type "bool") (.ref C) = some false
  kc : PySem.W.kitOne K (.ref C) (.ref C) = some true
  sb : PySem.W.subIn K (.ref C) (.type "bool") = some false
def isRefV : V → Bool
  | .ref _ => true
  | _ => false
theorem eqBool_bool {prog : Program} {w : World} {A : Around} {E : Value → Shared → Prop} {s : Shared} {b : Bool} {u : Addr} {Q : Bool → Shared → Prop} (h : wpAny (model prog w) A (richCompare .Eq (.bool b) (.ref u)) (fun v s' => ∃ r, v = .bool r ∧ Q r s') E s) : wpAny (model prog w) A (eqBool (.bool b) (.ref u)) Q E s := by
  unfold eqBool
  refine wpAny_holding ?_
  refine wpAny_ite_split (fun hab => by cases (eq_of_beq hab)) (fun _ => ?_)
  refine wpAny_bind (wpAny_mono h (fun v s' hv => ?_) fun _ _ x => x)
  obtain ⟨r, rfl, q⟩ := hv
  exact wpAny_truthy_bool q
theorem vals_at {xs : List V} {us : List Value} (h : Vals xs us) : ∀ {j : Nat} {v : V}, xs[j]? = some v → ∃ u, us[j]? = some u ∧ RelV v u := by
  induction h with
  | nil => intro j u e; cases e
  | cons r t ih =>
    intro j u e
    cases j with
    | zero => cases e; exact ⟨_, rfl, r⟩
    | succ j => exact ih e
def rInU (C : Addr) : R2 := fun x y H Q => ∃ u dx fs p zs, x = .ref u ∧ H u = some (.ins C dx fs) ∧ y = .ref p ∧ H p = some (.lst zs) ∧ (∀ z ∈ zs, (∃ b, z = .bl b) ∨ ∃ a dx fs, z = .ref a ∧ a ≠ u ∧ H a = some (.ins C dx fs)) ∧ ∀ H', Same H H' → Q (.bl (zs.any isRefV)) H'
theorem op_inU (U : UCls X.K C f) (F : FnOk X.prog X.w X.K X.mg X.base CX0 n f fd ps (spIsC X.K C)) (hb : Binds X.K fd ps []) (hr : Room (n + 1) X.A) : OpR X (compareOp .In) (rInU C) := by
  intro pins s σ H x y v u0 Q I rx ry h
  obtain ⟨u, dx, fs, p, zs, rfl, hu, rfl, hp, hz, q⟩ := h
  obtain rfl : v = Value.ref u := rx
  obtain rfl : u0 = Value.ref p := ry
  obtain ⟨z0, its, k0, r0, e0⟩ := I.hok p _ hp
  have hT : s.TypeIs (.ref p) "list" := ⟨_, e0, rfl⟩
  have sb : Sub X n X.A.in1 := (Sub.in1 ⟨hr, rfl⟩)
  show wpAny _ X.A (do return .bool (← contains (.ref p) (.ref u))) (EP X pins σ Q) X.xe s
  have len := r0.length
  have key : wpAny (model X.prog X.w) X.A.in1 (Builtin.«list.__contains__» ⟨[.ref p, .ref u], []⟩) (fun fin s' => match fin with | .done f => wants (fun v s' => ∃ b H', v = .bool b ∧ b = zs.any isRefV ∧ Inv X pins σ H' s' ∧ Same H H') X.xe (.ok f) s' | .again c' => c'.quiet = true ∧ codeAny (model X.prog X.w) X.A c' (wants (fun v s' => ∃ b H', v = .bool b ∧ b = zs.any isRefV ∧ Inv X pins σ H' s' ∧ Same H H') X.xe) s')
      (fun e s' => wants (fun v s' => ∃ b H', v = .bool b ∧ b = zs.any isRefV ∧ Inv X pins σ H' s' ∧ Same H H') X.xe (.error e) s') s := by
    have lp := contains_loopG (prog := X.prog) (w := X.w) (A := X.A) (R := wants (fun v s' => ∃ b H', v = .bool b ∧ b = zs.any isRefV ∧ Inv X pins σ H' s' ∧ Same H H') X.xe) (l := p) (x := .ref u) zs.length (fun i => (zs[i]?.map isRefV).getD false) (fun s' => ∃ H', Inv X pins σ H' s' ∧ Same H H')
      (fun s' ⟨H', I', m⟩ => by
        obtain ⟨z1, its, k1, r0, e1⟩ := I'.hok p _ (m _ _ hp)
        have len := r0.length
        refine ⟨its.toArray, k1, _, _, e1, by rw [List.size_toArray]; omega, fun i hi Q' hQ => ?_⟩
        have hi' : i < its.length := by simpa using hi
        have hiz : i < zs.length := by omega
        have hzi : zs[i]? = some zs[i] := List.getElem?_eq_getElem hiz
        obtain ⟨w', hw', rw'⟩ := vals_at r0 hzi
        have ew : its.toArray[i] = w' := by
          have : its[i]? = some its[i] := List.getElem?_eq_getElem hi'
          rw [this] at hw'
          simpa using hw'
        rw [ew]
        have eb : ((zs[i]?.map isRefV).getD false) = isRefV zs[i] := by rw [hzi]; rfl
        rw [eb] at hQ
        rcases hz _ (List.getElem_mem hiz) with ⟨b, ez⟩ | ⟨a, dxa, fsa, ez, nau, ha⟩
        · rw [ez] at rw' hQ
          obtain rfl : w' = .bool b := rw'
          refine eqBool_bool (wpAny_mono (rc_bool_own F U.hs U.hf hb sb I' (m _ _ hu) U.sb (Q := fun v H'' => v = .bl false ∧ Same H H'') ⟨u, .bl b, _, false, rfl, .base (.bl b), U.kb, fun H'' m' => ⟨⟨_, rfl⟩, rfl, m.trans m'⟩⟩) (fun r s'' hq => ?_) fun _ _ x => x)
          obtain ⟨b', H'', rfl, I'', eb', m''⟩ := hq
          cases eb'
          exact ⟨false, rfl, hQ s'' ⟨H'', I'', m''⟩⟩
        · rw [ez] at rw' hQ
          obtain rfl : w' = .ref a := rw'
          refine GQ.eqBool_refG nau (wpAny_mono (rc_own F U.hs U.hf hb sb I' (y := .ref u) rfl (m _ _ ha) (U.ty _ _ _ _ (m _ _ hu)) (by simp [PySem.W.notFirst]) (Q := fun v H'' => v = .bl true ∧ Same H H'') ⟨a, .ref u, _, true, rfl, U.ty _ _ _ _ (m _ _ hu), U.kc, fun H'' m' => ⟨⟨_, rfl⟩, rfl, m.trans m'⟩⟩) (fun r s'' hq => ?_) fun _ _ x => x)
          obtain ⟨b', H'', rfl, I'', eb', m''⟩ := hq
          cases eb'
          exact ⟨true, rfl, hQ s'' ⟨H'', I'', m''⟩⟩)
      (fun s' b ⟨H', I', m⟩ hb' => ⟨b, H', rfl, by
        rw [Bool.eq_iff_iff, hb', List.any_eq_true]
        constructor
        · rintro ⟨i, hiz, e⟩
          rw [List.getElem?_eq_getElem hiz] at e
          exact ⟨zs[i], List.getElem_mem hiz, e⟩
        · rintro ⟨z, hz', e⟩
          obtain ⟨i, hi, rfl⟩ := List.mem_iff_getElem.mp hz'
          refine ⟨i, hi, ?_⟩
          rw [List.getElem?_eq_getElem hi]
          exact e, I', m⟩)
      zs.length 0 s (Nat.sub_zero _) (Nat.zero_le _) (fun j hj => absurd hj (Nat.not_lt_zero _)) ⟨H, I, fun _ _ z => z⟩
    obtain ⟨hp', g, d, tk, os⟩ := s
    wp_walk
    exact ⟨plainId_quiet MeetsSeq.plain_contains_loop _, codeAny_builtin MeetsSeq.entry_contains_loop (by
      rw [Around.under_plainId MeetsSeq.plain_contains_loop _]
      exact lp)⟩
  refine wpAny_bind (wpAny_contains_slot hT PySem.F.slot_list_contains (wpAny_mono (wpAny_call (codeAny_call_builtin PySem.F.slot_list_contains.plain PySem.F.entry_list_contains (PySem.F.slot_list_contains.check _ _ _ _ _ _ _ _ hT (PySem.F.args_list_contains_2 _ _) key))) (fun v s' hv => ?_) fun _ _ e => e))
  obtain ⟨b, H', rfl, rfl, I', m⟩ := hv
  exact wpAny_truthy_bool (wpAny_pure ⟨.bl _, H', I', rfl, q H' m⟩)
end
end XR

/-! != of an own instance whose class has __eq__ and no __ne__ of its own -/
namespace XR
open PySem PySem.Spec PyProof.Rows L2
section
variable {prog : Program} {w : World} {A : Around} {E : Value → Shared → Prop} {s : Shared} {K : PySem.W.Frag} {x C f : Addr} {ox : Obj} {od : Option Obj} {name : Str} {b tb : Value}
theorem ifBound_KB {M : Model} {id : String} {T : String} {args : List Value} {Q : Option Value → Shared → Prop} (X : K.In s.heap) (I : PySem.W.InstAt s.heap x ox C od) (hs : PySem.W.findIn K (.ref C) name = some (some (.builtin id))) (S : Slot T name id)
    (h : wpAny M A (call (.builtin id) (.ref x :: args)) (fun v => Q (some v)) E s) : wpAny M A (callSpecialIfBound? (.ref x) name args) Q E s := by
  simp only [callSpecialIfBound?, bindSpecialIfBound?]
  refine wpAny_holding (wpAny_bind (wpAny_bind (wpAny_bind (I.type.here ((PySem.W.looks_findIn X hs).here ?_)))))
  simp only [S.bind]
  refine wpAny_bind (wpAny_askSetting (wpAny_ite ?_))
  have fin : wpAny M A (call (.builtin id) ([.ref x] ++ args) >>= fun v => pure (some v)) Q E s := wpAny_bind (wpAny_mono h (fun v s' h' => wpAny_pure h') fun _ _ h' => h')
  split
  · exact wpAny_bind (wpAny_pure (wpAny_pure fin))
  · exact wpAny_tryCatch (wpAny_bind (wpAny_pure (wpAny_pure fin)))
theorem check_ne {M : Model} {rest : List Value} {Q : Unit → Shared → Prop} (X : K.In s.heap) (I : PySem.W.InstAt s.heap x ox C od) (hm : PySem.W.subIn K (.ref C) (.type "object") = some true) (ha : argsOk "object.__ne__" ⟨.ref x :: rest, []⟩) (hq : Q () s) :
    wpAny M A (checkBuiltinCall "object.__ne__" ⟨.ref x :: rest, []⟩) Q E s := by
  simp only [checkBuiltinCall, F.cmpKind_ne, F.cmpSplit_ne]
  refine wpAny_bind ?_
  unfold isInstance
  refine wpAny_bind (I.type.here ((PySem.W.looks_subIn X hm).here ?_))
  simp only [Bool.not_true, Bool.false_eq_true, if_false]
  cases hsig : Manifest.signature? "object.__ne__" with
  | none => exact wpAny_pure hq
  | some sig =>
    simp only [argsOk, hsig] at ha
    have h2 : Bind.checkArgs "object.__ne__" sig ⟨.ref x :: rest, []⟩ = pure () := ha
    show wpAny M A (Bind.checkArgs "object.__ne__" sig ⟨.ref x :: rest, []⟩) Q E _
    rw [h2]; exact wpAny_pure hq
theorem objNe_entry {Q : Fin → Shared → Prop} (hu : A.units < cLine) (X : K.In s.heap) (I : PySem.W.InstAt s.heap x ox C od) (hs : PySem.W.findIn K (.ref C) "__eq__" = some (some (.ref f))) (hf : PySem.W.isFn K (.ref f) = true)
    (hcall : wpAny (model prog w) A (call (.ref f) [.ref x, b]) (fun v s' => ∃ r, v = .bool r ∧ Q (.done (.ret (.bool (!r)))) s') E s) :
    wpAny (model prog w) A (Builtin.«object.__ne__» ⟨[.ref x, b], []⟩) Q E s := by
  unfold Builtin.«object.__ne__»
  repeat (first
    | with_reducible refine wpAny_cRoomFor hu ?_
    | (refine wpAny_bind (m := callSpecialIfBound? (.ref x) (Str.ofString "__eq__") [b])
        (PySem.W.ifBound_K X I hs hf (wpAny_mono hcall (fun r s' hr => by
          obtain ⟨b', rfl, hq⟩ := hr
          repeat (first | exact hq | exact wpAny_pure hq | exact wpAny_truthy_bool hq | (refine wpAny_bind (m := truthy (.bool _)) (wpAny_truthy_bool ?_)) | wp_step)) fun _ _ e => e)))
    | wp_step)
theorem ne_K {Q : Value → Shared → Prop} {L : Addr} {h₀ : Heap} {m : Str → Option Value} (hu : A.units + 1 < cLine) (F : Fr h₀ L s.heap m) (X₀ : K.In h₀) (I : PySem.W.InstAt s.heap x ox C od) (hb : PySem.W.Looks (model prog w) s.heap (typeOf b) tb) (hn : PySem.W.notFirst K C tb = true)
    (hne : PySem.W.findIn K (.ref C) "__ne__" = some (some (.builtin "object.__ne__"))) (hm : PySem.W.subIn K (.ref C) (.type "object") = some true) (hs : PySem.W.findIn K (.ref C) "__eq__" = some (some (.ref f))) (hf : PySem.W.isFn K (.ref f) = true)
    (h : wpAny (model prog w) A.in1 (call (.ref f) [.ref x, b]) (fun v s' => ∃ r, v = .bool r ∧ Q (.bool (!r)) s') E s) : wpAny (model prog w) A (richCompare .NotEq (.ref x) b) Q E s := by
  have X := X₀.keeps F.keep
  have one : wpAny (model prog w) A (tryCompare (.ref x) "__ne__" b) (fun r s' => ∃ v, r = some v ∧ Q v s') E s := by
    unfold tryCompare
    refine wpAny_bind (ifBound_KB X I hne PySem.F.cmp_object.ne (wpAny_call (codeAny_call_builtin PySem.F.cmp_object.ne.plain PySem.F.cmpEntry_ne (check_ne X I hm (PySem.F.cmpArgs_ne _ _) (objNe_entry (A := A.in1) hu X I hs hf (wpAny_mono h (fun v s' hv => ?_) fun _ _ e => e))))))
    obtain ⟨r, rfl, hq⟩ := hv
    first | exact ⟨r, rfl, wpAny_pure ⟨_, rfl, hq⟩⟩ | exact ⟨r, rfl, wpAny_pure (wpAny_pure ⟨_, rfl, hq⟩)⟩
  unfold richCompare
  simp only [oneThing_ref]
  refine wpAny_holding (wpAny_bind (wpAny_cRoomFor (Nat.lt_of_succ_lt hu) ?_))
  refine wpAny_bind (I.type.here (wpAny_bind (hb.here ?_)))
  rw [cmpInfo_NotEq]
  split
  · rename_i q
    have e : PySem.W.subIn K tb (.ref C) = some false := by
      rcases Bool.or_eq_true_iff.mp hn with e | e
      · rw [beq_iff_eq.mp e] at q; simp at q
      · exact beq_iff_eq.mp e
    refine wpAny_bind ((PySem.W.looks_subIn X e).here ?_)
    simp only [Bool.false_eq_true, if_false]
    refine wpAny_bind (wpAny_mono one (fun r s' z => ?_) fun _ _ e => e)
    obtain ⟨v, rfl, hq⟩ := z
    exact wpAny_pure hq
  · refine wpAny_bind (wpAny_pure ?_)
    simp only [Bool.false_eq_true, if_false]
    refine wpAny_bind (wpAny_mono one (fun r s' z => ?_) fun _ _ e => e)
    obtain ⟨v, rfl, hq⟩ := z
    exact wpAny_pure hq
end
section
variable {X : Cx} {C f : Addr} {fd : FuncData} {ps : List Str} {n : Nat} {sp : Sp}
def rNeU (K : PySem.W.Frag) (C : Addr) (sp : Sp) : R2 := fun x y H Q => ∃ a dx fs t, x = .ref a ∧ H a = some (.ins C dx fs) ∧ TyX K H y t ∧ PySem.W.notFirst K C t = true ∧ sp [x, y] H (fun v H' => ∃ b, v = .bl b ∧ Q (.bl (!b)) H') E0
theorem op_neU (F : FnOk X.prog X.w X.K X.mg X.base CX0 n f fd ps sp) (hs : PySem.W.findIn X.K (.ref C) "__eq__" = some (some (.ref f))) (hf : PySem.W.isFn X.K (.ref f) = true) (hne : PySem.W.findIn X.K (.ref C) "__ne__" = some (some (.builtin "object.__ne__"))) (hm : PySem.W.subIn X.K (.ref C) (.type "object") = some true)
    (hb : Binds X.K fd ps []) (hr : Room (n + 1) X.A) (mono : ∀ vs H Q Q' E, sp vs H Q E → (∀ v H', Q v H' → Q' v H') → sp vs H Q' E) : OpR X (compareOp .NotEq) (rNeU X.K C sp) := by
  intro pins s σ H x y v u Q I rx ry h
  obtain ⟨a, dx, fs, t, rfl, ha, ty, hn, hsp⟩ := h
  obtain rfl : v = Value.ref a := rx
  show wpAny (model X.prog X.w) X.A (richCompare .NotEq (.ref a) u) (EP X pins σ Q) X.xe s
  obtain ⟨mA, J, _⟩ := ins_get I.hok ha
  obtain ⟨od, J, _⟩ := J.look
  obtain ⟨m, hF⟩ := I.fr
  obtain ⟨Pk, Z, hP, _⟩ := kit_of I ry ty
  have hu : X.A.units + 1 < cLine := hu_of hr
  refine ne_K (tb := t) hu hF I.ok.mod.kin J (Z.ty _ _ I.kIn hP) hn hne hm hs hf ?_
  refine wpAny_mono (own_eq_call (A := X.A.in1) (Q := fun v H' => ∃ b, v = .bl b ∧ Q (.bl (!b)) H') F hb ⟨hr.in1, rfl⟩ I (x := .ref a) rfl ry (mono _ _ _ _ _ hsp fun v H' z => by obtain ⟨b, e, q⟩ := z; exact ⟨⟨b, e⟩, b, e, q⟩)) (fun w' s' hq => ?_) fun _ _ x => x
  obtain ⟨b, H', rfl, I', b', e, q⟩ := hq
  cases e
  exact ⟨b, rfl, .bl (!b), H', I', rfl, q⟩
end
end XR

/-! y = {k: v for ..}, y a local name that is no cell -/
namespace XR
open PySem PySem.Spec PyProof.Rows L2
section
variable {X : Cx}
theorem ps_setDc {i : Nat} {y : Str} {py : Pos} {kx vx tg iter : Expr} {ifs : List Expr} {scope : Scope} {own : List (Str × Nat)} {pos spos : Pos} {wi : TI} {g : TG} {tt : TT} {tk tv : TE} (hc : X.calm = true) (hN : X.N.Nodup) (hy : X.N[i]? = some y) (hyl : X.env.scope.names.lookup y = some .local)
    (hsw : swapsWith (.DictComp kx vx [⟨tg, iter, ifs, 0⟩] scope pos) (some (.Name y py)) spos.line X.env = pure true) (hi : PI X tg iter wi) (ok : BlkOk X.N X.env.scope scope own)
    (hg : ∀ (s : Shared) (H : Hp) (C : Addr) (cl : List (Str × Addr)) (fp : List Addr), PG (X.blk s H scope (compEnvC scope cl C X.env) fp) tg g) (ht : ∀ (s : Shared) (H : Hp) (C : Addr) (cl : List (Str × Addr)) (fp : List Addr), PTs (X.blk s H scope (compEnvC scope cl C X.env) fp) ifs tt)
    (hk : ∀ (s : Shared) (H : Hp) (C : Addr) (cl : List (Str × Addr)) (fp : List Addr), PE (X.blk s H scope (compEnvC scope cl C X.env) fp) kx tk)
    (he : ∀ (s : Shared) (H : Hp) (C : Addr) (cl : List (Str × Addr)) (fp : List Addr), PE (X.blk s H scope (compEnvC scope cl C X.env) fp) vx tv) (hs : ∀ x, foldedSetIterable iter X.env x = pure x := by intro _; rfl) :
    PS X (.Assign [.Name y py] (.DictComp kx vx [⟨tg, iter, ifs, 0⟩] scope pos) spos) (tAsg (tDc wi g tt tk tv (own.map (·.2))) (gName i)) := by
  refine ⟨fun pins s σ H D I h => ?_⟩
  rw [exec_Assign_Name_used _ _ _ _ hsw]
  refine wpAny_bind (wpAny_standAt (wpAny_bind ?_))
  show wpAny _ X.A (do let _ ← comprehension (.DictComp kx vx [⟨tg, iter, ifs, 0⟩] scope pos) scope X.env (firstIterPos [⟨tg, iter, ifs, 0⟩] pos) newDict false (eval iter X.env) (some (assign (.Name y py) X.env))) _ _ s
  have h : tDc wi g tt tk tv (own.map (·.2)) σ H (fun x H1 => gName i x σ H1 D.nx) := h
  refine wpAny_bind (thn (dc_core (Qf := fun _ s' => SP X pins D .next s') hc hN I hi ok hg ht hk he hs h fun L C s' m H' I' q hn f => ?_) fun _ s' hq => wpAny_pure (wpAny_pure hq))
  show wpAny _ _ (assign (.Name y py) X.env (.ref L)) _ _ _
  refine wpAny_assign_Name (store_ok2 (v := V.ref L) I' hN hy (.inl hyl) rfl (fun s2 I2 ⟨a, sb, ha⟩ => ?_) (.inr hyl))
  obtain ⟨f0, f1, f2, f3, f4, f5⟩ := f
  have haC : C ≠ a := by
    rcases ha with z | z
    · rw [z]; exact f1
    · exact fun e => f4 y a z e.symm
  refine ⟨m, hn.sameBut sb haC, fun h3 sb3 => ?_⟩
  exact ⟨_, H', I2.turned (t' := s2.toks) (fun b o hb e => (sb3.2 b hb).trans e) f0 f1 f3 f4 f5, q⟩
theorem sw_trueD {kx vx : Expr} {gs : List Comprehension} {scope : Scope} {pos py : Pos} {y : Str} {l : Nat} {env : Env} (hk : env.scope.kind = .function) (hy : env.scope.names.lookup y = some .local) (hl : (py.line == pos.line) = true)
    (ha : (scope.names.any fun (n, k) => n == y && (k == .local || k == .cell)) = false) : swapsWith (.DictComp kx vx gs scope pos) (some (.Name y py)) l env = pure true := by
  have ky : env.kindOf y = some .local := hy
  have hb : env.blockKind = .function := by unfold Env.blockKind; rw [hk]; rfl
  unfold swapsWith
  simp only [hb, ky, ha, Expr.pos, hl]
  rfl
end
end XR

/-! x == d, d a dict and x none -/
namespace XR
open PySem PySem.Calls PySem.Spec PyProof.Rows L2 PySem.SeqAt
theorem int_dk_bool (b : Bool) (l : Addr) (c : Value) (es : Array DictEntry) (n : Nat) (dd : Option Addr) (sl : Array (Option Value)) :
    Meets (Builtin.«int.__eq__» ⟨[.bool b, .ref l], []⟩) (fun _ R s => s.heap.get? l = some { cls := c, dict := dd, data := .dict es n, slots := sl } ∧ R (.ok (.ret .notImplemented)) s) :=
  .of_wp fun prog w A R s h => by obtain ⟨hp, g, d, tk, os⟩ := s; obtain ⟨hl, h⟩ := h; wp_walk using wpAny_loadPart' hl, wpAny_load hl; exact ⟨_, rfl, h⟩
theorem int_dk_int (b : Int) (u : Tok) (l : Addr) (c : Value) (es : Array DictEntry) (n : Nat) (dd : Option Addr) (sl : Array (Option Value)) :
    Meets (Builtin.«int.__eq__» ⟨[.int b u, .ref l], []⟩) (fun _ R s => s.heap.get? l = some { cls := c, dict := dd, data := .dict es n, slots := sl } ∧ R (.ok (.ret .notImplemented)) s) :=
  .of_wp fun prog w A R s h => by obtain ⟨hp, g, d, tk, os⟩ := s; obtain ⟨hl, h⟩ := h; wp_walk using wpAny_loadPart' hl, wpAny_load hl; exact ⟨_, rfl, h⟩
theorem str_dk (b : Str) (u : Tok) (l : Addr) (c : Value) (es : Array DictEntry) (n : Nat) (dd : Option Addr) (sl : Array (Option Value)) :
    Meets (Builtin.«str.__eq__» ⟨[.str b u, .ref l], []⟩) (fun _ R s => s.heap.get? l = some { cls := c, dict := dd, data := .dict es n, slots := sl } ∧ R (.ok (.ret .notImplemented)) s) :=
  .of_wp fun prog w A R s h => by obtain ⟨hp, g, d, tk, os⟩ := s; obtain ⟨hl, h⟩ := h; wp_walk using wpAny_loadPart' hl, wpAny_load hl; exact ⟨_, rfl, h⟩
theorem none_dk (l : Addr) (c : Value) (es : Array DictEntry) (n : Nat) (dd : Option Addr) (sl : Array (Option Value)) :
    Meets (Builtin.«NoneType.__eq__» ⟨[.none, .ref l], []⟩) (fun _ R s => s.heap.get? l = some { cls := c, dict := dd, data := .dict es n, slots := sl } ∧ R (.ok (.ret .notImplemented)) s) :=
  .of_wp fun prog w A R s h => by obtain ⟨hp, g, d, tk, os⟩ := s; obtain ⟨hl, h⟩ := h; wp_walk using wpAny_loadPart' hl, wpAny_load hl; exact ⟨_, rfl, h⟩
theorem tuple_dk (l b : Addr) (items : Array Value) (n n2 : Nat) (dd dd2 : Option Addr) (sl sl2 : Array (Option Value)) (es : Array DictEntry) :
    Meets (Builtin.«tuple.__eq__» ⟨[.ref l, .ref b], []⟩) (fun _ R s => s.heap.get? l = some { cls := .type "tuple", dict := dd, data := .seq items n, slots := sl } ∧ s.heap.get? b = some { cls := .type "dict", dict := dd2, data := .dict es n2, slots := sl2 } ∧ R (.ok (.ret .notImplemented)) s) :=
  .of_wp fun prog w A R s h => by obtain ⟨hp, g, d, tk, os⟩ := s; obtain ⟨hl, hb, h⟩ := h; have f1 := F.sub_dict_tuple; wp_walk using wpAny_loadPart' hl, wpAny_loadPart' hb; exact ⟨_, rfl, h⟩

section
variable {prog : Program} {w : World} {A : Around} {E : Value → Shared → Prop} {s : Shared}
theorem dict_no {a : Addr} {x : Value} {T : String} {Q : Value → Shared → Prop} (hd : s.TypeIs (.ref a) "dict") (hT : s.TypeIs x T) (sub : isSubtype (.type T) (.type "dict") = pure false) (hq : Q .notImplemented s) :
    wpAny (model prog w) A (call (.builtin "dict.__eq__") [.ref a, x]) Q E s := by
  refine wpAny_call_entry PySem.F.slot_dict_eq hd PySem.F.entry_dict_eq ?_ (PySem.F.args_dict_eq_2 _ _)
  show wpAny _ _ (Builtin.Dict.dictSlotArgs "__eq__" ⟨[.ref a, x], []⟩ >>= _) _ _ s
  refine wpAny_bind ?_
  unfold Builtin.Dict.dictSlotArgs
  refine wpAny_bind (wpAny_notOrdered_dict hd ?_)
  show wpAny _ _ (pure (Value.ref a, x)) _ _ s
  refine wpAny_pure ?_
  refine wpAny_bind (wpAny_isInstance (T := T) hT sub ?_)
  simp only [Bool.not_false, if_true]
  refine wpAny_bind (wpAny_rule ?_)
  exact wpAny_pure ⟨_, rfl, hq⟩
end
/-- x, that is no dict -/
def noD (K : PySem.W.Frag) (H : Hp) (x : V) : Prop := x = .non ∨ (∃ b, x = .bl b) ∨ (∃ i, x = .int i) ∨ (∃ y, x = .str y) ∨ ∃ p xs, x = .ref p ∧ SqT K H p xs
def rEqDk (K : PySem.W.Frag) : R2 := fun x y H Q => ∃ b kvs, y = .ref b ∧ H b = some (.dK kvs) ∧ noD K H x ∧ Q (.bl false) H
section
variable {X : Cx}
theorem op_eqDk (hu : X.A.units < cLine) : OpR X (compareOp .Eq) (rEqDk X.K) := by
  intro pins s σ H x y v u Q I rx ry h
  obtain ⟨b, kvs, rfl, hb, nd, q⟩ := h
  obtain rfl : u = Value.ref b := ry
  obtain ⟨_, yb, vb, rb, db⟩ := (show ObjOk X.prog X.w H s.heap b (.dK kvs) from I.hok b _ hb)
  have hd := db.typeIs
  obtain ⟨ob, es, ep, hob, hc, hda, _⟩ := db
  obtain ⟨oc, od, dt, sl⟩ := ob
  obtain ⟨hc, _⟩ := hc
  simp only at hc hda
  subst hc hda
  have fin : EP X pins σ Q (Value.bool false) s := ⟨.bl false, H, I, rfl, q⟩
  show wpAny (model X.prog X.w) X.A (richCompare .Eq v (.ref b)) (EP X pins σ Q) X.xe s
  rcases nd with rfl | ⟨c, rfl⟩ | ⟨i, rfl⟩ | ⟨z, rfl⟩ | ⟨p, xs, rfl, hp⟩
  · obtain rfl : v = Value.none := rx
    exact rc_eq_decline_or (k := false) rfl hd (by decide) PySem.F.sub_dict_NoneType PySem.F.slot_NoneType_eq PySem.F.slot_dict_eq_refl
      (fun _ hq => call_meets PySem.F.slot_NoneType_eq rfl PySem.F.entry_NoneType_eq (PySem.F.args_NoneType_eq_2 _ _) (none_dk b _ es ep od sl) ⟨hob, hq⟩)
      (fun _ hq => dict_no hd rfl PySem.F.sub_NoneType_dict hq)
      (fun _ hq => wpAny_of_eq (rfl : isSame .none (.ref b) = pure false) hq) (.inr hu) fin
  · obtain rfl : v = Value.bool c := rx
    exact rc_eq_decline_or (k := false) rfl hd (by decide) PySem.F.sub_dict_bool PySem.F.slot_bool_eq PySem.F.slot_dict_eq_refl
      (fun _ hq => call_meets PySem.F.slot_bool_eq rfl PySem.F.entry_int_eq (PySem.F.args_int_eq_2 _ _) (int_dk_bool c b _ es ep od sl) ⟨hob, hq⟩)
      (fun _ hq => dict_no hd rfl PySem.F.sub_bool_dict hq)
      (fun _ hq => wpAny_of_eq (rfl : isSame (.bool c) (.ref b) = pure false) hq) (.inr hu) fin
  · obtain ⟨t, rfl⟩ := rx
    exact rc_eq_decline_or (k := false) (typeIs_int s i t) hd (by decide) PySem.F.sub_dict_int PySem.F.slot_int_eq PySem.F.slot_dict_eq_refl
      (fun _ hq => call_meets PySem.F.slot_int_eq (typeIs_int s i t) PySem.F.entry_int_eq (PySem.F.args_int_eq_2 _ _) (int_dk_int i t b _ es ep od sl) ⟨hob, hq⟩)
      (fun _ hq => dict_no hd (typeIs_int s i t) PySem.F.sub_int_dict hq)
      (fun _ hq => wpAny_of_eq (rfl : isSame (.int i t) (.ref b) = pure false) hq) (.inr hu) fin
  · obtain ⟨t, rfl⟩ := rx
    exact rc_eq_decline_or (k := false) (typeIs_str s z t) hd (by decide) PySem.F.sub_dict_str PySem.F.slot_str_eq PySem.F.slot_dict_eq_refl
      (fun _ hq => call_meets PySem.F.slot_str_eq (typeIs_str s z t) PySem.F.entry_str_eq (PySem.F.args_str_eq_2 _ _) (str_dk z t b _ es ep od sl) ⟨hob, hq⟩)
      (fun _ hq => dict_no hd (typeIs_str s z t) PySem.F.sub_str_dict hq)
      (fun _ hq => wpAny_of_eq (rfl : isSame (.str z t) (.ref b) = pure false) hq) (.inr hu) fin
  · obtain rfl : v = Value.ref p := rx
    obtain ⟨its, r1, ht, _⟩ := I.tuple hp
    obtain ⟨⟨c2, d2, dt2, sl2⟩, ho2, hc2, n2, hd2⟩ := id ht
    simp only at hc2 hd2
    subst hc2 hd2
    have hne : p ≠ b := fun e => by
      subst e
      rw [hob] at ho2
      simp at ho2
    exact rc_eq_decline_or (k := false) ⟨_, ho2, rfl⟩ hd (by decide) PySem.F.sub_dict_tuple PySem.F.slot_tuple_eq PySem.F.slot_dict_eq_refl
      (fun _ hq => call_meets PySem.F.slot_tuple_eq ⟨_, ho2, rfl⟩ PySem.F.entry_tuple_eq (PySem.F.args_tuple_eq_2 _ _) (tuple_dk p b _ n2 ep d2 od sl2 sl es) ⟨ho2, hob, hq⟩)
      (fun _ hq => dict_no hd ⟨_, ho2, rfl⟩ PySem.F.sub_tuple_dict hq)
      (fun _ hq => wpAny_isSame_ref_other' hne ho2 hob (by simp) hq) (.inr hu) fin
end
end XR

/-! trees of any plain objects -/
namespace ET
open PySem L2 XR VT
/-- tuples that are constants of the top: where they stand, what they hold -/
class KC where
  kc : Addr → List V → Prop
class KcOk (K : PySem.W.Frag) [KC] : Prop where
  ok : ∀ a xs, KC.kc a xs → ∃ (o : Obj) (its : Array Value) (n : Nat), K.lookup a = some o ∧ o.cls = .type "tuple" ∧ o.data = .seq its n ∧ its.size ≤ sizeLine ∧ Vals xs its.toList
variable [KC]
def TuA (H : Hp) (a : Addr) (xs : List V) : Prop := H a = some (.tup xs) ∨ KC.kc a xs
theorem TuA.mono {H H' : Hp} {a : Addr} {xs : List V} (m : ∀ a o, H a = some o → H' a = some o) (h : TuA H a xs) : TuA H' a xs := h.imp (m _ _) id
theorem TuA.sq0 {K : PySem.W.Frag} [KcOk K] {H : Hp} {a : Addr} {xs : List V} (h : TuA H a xs) : SqT K H a xs := by
  rcases h with h | h
  · exact SqT.of h
  · exact .inr (KcOk.ok a xs h)
theorem TuA.sq {K : PySem.W.Frag} [KcOk K] {P : Addr → Prop} {H : Hp} {a : Addr} {xs : List V} (h : TuA (keepH P H) a xs) : SqT K H a xs := (h.mono fun _ _ e => (keep_some e).2).sq0
inductive E where
  | non
  | bl (b : Bool)
  | int (i : Int)
  | str (x : Str)
  | tup (l : List E)
  | lst (l : List E)
  | map (ks : List L2.Key) (ds : List E)
  | ins (C : Addr) (ns : List Str) (ds : List E)
def mk (ks : List L2.Key) (vs : List V) : List (L2.Key × V) := ks.zip vs
mutual
def dep : E → Nat
  | .tup l => depL l + 1
  | .lst l => depL l + 1
  | .map _ ds => depL ds + 1
  | .ins _ _ ds => depL ds + 1
  | _ => 0
def depL : List E → Nat
  | [] => 0
  | d :: r => max (dep d) (depL r)
end
theorem dep_mem : ∀ {l : List E} {d : E}, d ∈ l → dep d ≤ depL l
  | x :: r, d, h => by
    rw [depL]
    rcases List.mem_cons.mp h with rfl | h
    · exact Nat.le_max_left _ _
    · exact Nat.le_trans (dep_mem h) (Nat.le_max_right _ _)
theorem depL_le {n : Nat} : ∀ {l : List E}, (∀ d ∈ l, dep d ≤ n) → depL l ≤ n
  | [], _ => Nat.zero_le _
  | x :: r, h => by
    rw [depL]
    exact Nat.max_le.mpr ⟨h x List.mem_cons_self, depL_le fun d hd => h d (List.mem_cons_of_mem _ hd)⟩
/-- the value v stands for the tree d; no more than 900 items in one object -/
inductive Rp (H : Hp) : V → E → Prop
  | non : Rp H .non .non
  | bl (b : Bool) : Rp H (.bl b) (.bl b)
  | int (i : Int) : Rp H (.int i) (.int i)
  | str (x : Str) (h : TxOk x) : Rp H (.str x) (.str x)
  | tup {a : Addr} {xs : List V} {ds : List E} (h : TuA H a xs) (hl : xs.length = ds.length) (hz : ds.length ≤ 900) (hs : ∀ (i : Nat) (v : V) (d : E), xs[i]? = some v → ds[i]? = some d → Rp H v d) : Rp H (.ref a) (.tup ds)
  | lst {a : Addr} {xs : List V} {ds : List E} (h : H a = some (.lst xs)) (hl : xs.length = ds.length) (hz : ds.length ≤ 900) (hs : ∀ (i : Nat) (v : V) (d : E), xs[i]? = some v → ds[i]? = some d → Rp H v d) : Rp H (.ref a) (.lst ds)
  | map {a : Addr} {vs : List V} {ks : List L2.Key} {ds : List E} (h : H a = some (.dK (mk ks vs))) (hv : vs.length = ds.length) (hk : ks.length = ds.length) (hz : ds.length ≤ 900) (nd : ks.Nodup)
      (hs : ∀ (i : Nat) (v : V) (d : E), vs[i]? = some v → ds[i]? = some d → Rp H v d) : Rp H (.ref a) (.map ks ds)
  | ins {a dx C : Addr} {vs : List V} {ns : List Str} {ds : List E} (h : H a = some (.ins C dx (ns.zip vs))) (hv : vs.length = ds.length) (hk : ns.length = ds.length) (hz : ds.length ≤ 900)
      (hs : ∀ (i : Nat) (v : V) (d : E), vs[i]? = some v → ds[i]? = some d → Rp H v d) : Rp H (.ref a) (.ins C ns ds)
section
variable {H H' : Hp} {v : V} {d : E} {P : Addr → Prop}
theorem Rp.mono (m : ∀ a o, H a = some o → H' a = some o) (h : Rp H v d) : Rp H' v d := by
  induction h with
  | non => exact .non
  | bl b => exact .bl b
  | int i => exact .int i
  | str x h => exact .str x h
  | tup h hl hz _ ih => exact .tup (h.mono m) hl hz ih
  | lst h hl hz _ ih => exact .lst (m _ _ h) hl hz ih
  | map h hv hk hz nd _ ih => exact .map (m _ _ h) hv hk hz nd ih
  | ins h hv hk hz _ ih => exact .ins (m _ _ h) hv hk hz ih
theorem Rp.same (m : Same H H') (h : Rp H v d) : Rp H' v d := h.mono m
theorem Rp.keepS (m : Same H H') (h : Rp (keepH P H) v d) : Rp (keepH P H') v d := h.same (keep_same m)
theorem Rp.ofKeep (h : Rp (keepH P H) v d) : Rp H v d := h.mono fun _ _ e => (keep_some e).2
theorem Rp.all (h : Rp H v d) : Rp (keepH (fun _ => True) H) v d := h.mono fun a o e => by rw [keep_at trivial]; exact e
theorem Rp.within {P' : Addr → Prop} (hp : ∀ b o, P b → H b = some o → P' b) (h : Rp (keepH P H) v d) : Rp (keepH P' H) v d := h.mono fun a o e => by
  obtain ⟨p, e'⟩ := keep_some e
  rw [keep_at (hp a o p e')]
  exact e'
/-- a new object that is still filled does not stand in it -/
theorem keep_off {D : Addr} (hD : H D = none) (m : ∀ b o, H b = some o → H' b = some o) : ∀ a o, keepH P H a = some o → keepH (fun b => P b ∧ b ≠ D) H' a = some o := fun a o e => by
  obtain ⟨p, e'⟩ := keep_some e
  rw [keep_at ⟨p, ne_of_none e' hD⟩]
  exact m _ _ e'
end
/-- the free places are of the part -/
def Fr (P : Addr → Prop) (H : Hp) : Prop := ∀ b, H b = none → P b
theorem Fr.same {P : Addr → Prop} {H H' : Hp} (h : Fr P H) (m : Same H H') : Fr P H' := fun b e => h b (same_none m e)
/-- the slots that hold trees -/
def En (H : Hp) (σ : L2.St) (env : List (Option E)) : Prop := σ.length = env.length ∧ ∀ (i : Nat) (d : E), env[i]? = some (some d) → ∃ v, σ[i]? = some (some v) ∧ Rp H v d
theorem En.mono {H H' : Hp} {σ : L2.St} {env : List (Option E)} (h : En H σ env) (m : ∀ a o, H a = some o → H' a = some o) : En H' σ env := ⟨h.1, fun i d e => let ⟨v, a, b⟩ := h.2 i d e; ⟨v, a, b.mono m⟩⟩
theorem En.keepS {P : Addr → Prop} {H H' : Hp} {σ : L2.St} {env : List (Option E)} (h : En (keepH P H) σ env) (m : Same H H') : En (keepH P H') σ env := h.mono (keep_same m)
theorem En.set {H : Hp} {σ : L2.St} {env : List (Option E)} {i : Nat} {v : V} {d : E} (h : En H σ env) (r : Rp H v d) : En H (σ.set i (some v)) (env.set i (some d)) := by
  refine ⟨by rw [List.length_set, List.length_set, h.1], fun j e he => ?_⟩
  by_cases hj : i = j
  · subst hj
    have hl : i < env.length := by
      have := (List.getElem?_eq_some_iff.mp he).1
      rwa [List.length_set] at this
    rw [List.getElem?_set_self hl] at he
    cases he
    exact ⟨v, List.getElem?_set_self (by rw [h.1]; exact hl), r⟩
  · rw [List.getElem?_set_ne hj] at he ⊢
    exact h.2 j e he
theorem En.wipe {H : Hp} {σ : L2.St} {env : List (Option E)} (h : En H σ env) : ∀ vs : List Nat, En H (wipe σ vs) (vs.foldr (fun v e => e.set v none) env)
  | [] => h
  | v :: vs => by
    have ih := En.wipe h vs
    refine ⟨by rw [List.foldr_cons, List.length_set]; show ((L2.wipe σ vs).set v none).length = _; rw [List.length_set]; exact ih.1, fun j e he => ?_⟩
    rw [List.foldr_cons] at he
    by_cases hj : v = j
    · subst hj
      have hl := (List.getElem?_eq_some_iff.mp he).1
      rw [List.length_set] at hl
      rw [List.getElem?_set_self hl] at he
      cases he
    · rw [List.getElem?_set_ne hj] at he
      show ∃ u, ((L2.wipe σ vs).set v none)[j]? = _ ∧ _
      rw [List.getElem?_set_ne hj]
      exact ih.2 j e he
abbrev FE := List (Option E) → Option E
abbrev FT := List (Option E) → Option Bool
abbrev FA := List (Option E) → Option (List E)
inductive RpL (H : Hp) : List V → List E → Prop
  | nil : RpL H [] []
  | cons {v : V} {d : E} {vs : List V} {ds : List E} (h : Rp H v d) (t : RpL H vs ds) : RpL H (v :: vs) (d :: ds)
theorem RpL.length {H : Hp} {vs : List V} {ds : List E} (h : RpL H vs ds) : vs.length = ds.length := by
  induction h with
  | nil => rfl
  | cons _ _ ih => rw [List.length_cons, List.length_cons, ih]
theorem RpL.get {H : Hp} {vs : List V} {ds : List E} (h : RpL H vs ds) : ∀ (i : Nat) (v : V) (d : E), vs[i]? = some v → ds[i]? = some d → Rp H v d := by
  induction h with
  | nil => intro i v d h; cases h
  | cons h t ih =>
    intro i v d h1 h2
    cases i with
    | zero => cases h1; cases h2; exact h
    | succ i => exact ih i v d h1 h2
theorem RpL.mono {H H' : Hp} {vs : List V} {ds : List E} (h : RpL H vs ds) (m : ∀ a o, H a = some o → H' a = some o) : RpL H' vs ds := by
  induction h with
  | nil => exact .nil
  | cons h t ih => exact .cons (h.mono m) ih
theorem RpL.of {H : Hp} : ∀ {vs : List V} {ds : List E}, vs.length = ds.length → (∀ (i : Nat) (v : V) (d : E), vs[i]? = some v → ds[i]? = some d → Rp H v d) → RpL H vs ds
  | [], [], _, _ => .nil
  | v :: vs, d :: ds, h, hs => .cons (hs 0 v d rfl rfl) (RpL.of (Nat.succ.inj h) fun i v d h1 h2 => hs (i + 1) v d h1 h2)
/-- a reading that makes nothing but new objects gives the tree f -/
def PuE (te : TE) (f : FE) : Prop := ∀ (P : Addr → Prop) (σ : L2.St) (H : Hp) (env : List (Option E)) (d : E) (Q : VK), En (keepH P H) σ env → Fr P H → f env = some d → (∀ v H', Same H H' → Rp (keepH P H') v d → Q v H') → te σ H Q
def PuT (tt : TT) (f : FT) : Prop := ∀ (P : Addr → Prop) (σ : L2.St) (H : Hp) (env : List (Option E)) (d : Bool) (Q : Bool → Hp → Prop), En (keepH P H) σ env → Fr P H → f env = some d → (∀ H', Same H H' → Q d H') → tt σ H Q
def PuA (ta : TA) (f : FA) : Prop := ∀ (P : Addr → Prop) (σ : L2.St) (H : Hp) (env : List (Option E)) (d : List E) (Q : List V → Hp → Prop), En (keepH P H) σ env → Fr P H → f env = some d → (∀ v H', Same H H' → RpL (keepH P H') v d → Q v H') → ta σ H Q
/-- an operator by values -/
def PuR (r : R2) (f : E → E → Option E) : Prop := ∀ (P : Addr → Prop) (x y : V) (H : Hp) (d e c : E) (Q : VK), Rp (keepH P H) x d → Rp (keepH P H) y e → Fr P H → f d e = some c → (∀ v H', Same H H' → Rp (keepH P H') v c → Q v H') → r x y H Q
def PuC (r : List V → Hp → VK → Prop) (f : List E → Option E) : Prop := ∀ (P : Addr → Prop) (xs : List V) (H : Hp) (ds : List E) (c : E) (Q : VK), RpL (keepH P H) xs ds → Fr P H → f ds = some c → (∀ v H', Same H H' → Rp (keepH P H') v c → Q v H') → r xs H Q
section
variable {ta tb tc : TE} {fa fb fc : FE} {tx ty : TT} {fx fy : FT} {tl : TA} {fl : FA} {r r' : R2} {fr fr' : E → E → Option E}
theorem pu_var (i : Nat) : PuE (tVar i) (fun env => (env[i]?).bind id) := fun P σ H env d Q he hf e k => by
  have e : (env[i]?).bind id = some d := e
  have e' : env[i]? = some (some d) := by
    cases h : env[i]? with
    | none => rw [h] at e; cases e
    | some o => rw [h] at e; cases o with | none => cases e | some x => cases e; rfl
  obtain ⟨v, h1, h2⟩ := he.2 i d e'
  exact ⟨v, h1, k v H (fun _ _ z => z) h2⟩
theorem pu_non : PuE (tC .non) (fun _ => some .non) := fun P σ H env d Q he hf e k => by cases e; exact k _ H (fun _ _ z => z) .non
theorem pu_bl (b : Bool) : PuE (tC (.bl b)) (fun _ => some (.bl b)) := fun P σ H env d Q he hf e k => by cases e; exact k _ H (fun _ _ z => z) (.bl b)
theorem pu_int (i : Int) : PuE (tC (.int i)) (fun _ => some (.int i)) := fun P σ H env d Q he hf e k => by cases e; exact k _ H (fun _ _ z => z) (.int i)
theorem pu_str (x : Str) (h : TxOk x := by first | exact ⟨by decide +kernel, by decide +kernel⟩) : PuE (tC (.str x)) (fun _ => some (.str x)) := fun P σ H env d Q he hf e k => by cases e; exact k _ H (fun _ _ z => z) (.str x h)
theorem pu_nil : PuA tNil (fun _ => some []) := fun P σ H env d Q he hf e k => by cases e; exact k _ H (fun _ _ z => z) .nil
theorem pu_cons (ha : PuE ta fa) (hl : PuA tl fl) : PuA (tCons ta tl) (fun env => (fa env).bind fun d => (fl env).map (d :: ·)) := fun P σ H env ds Q he hf e k => by
  obtain ⟨d, e1, e2⟩ := Option.bind_eq_some_iff.mp e
  obtain ⟨l, e3, rfl⟩ := Option.map_eq_some_iff.mp e2
  exact ha P σ H env d _ he hf e1 fun v H1 m1 r1 => hl P σ H1 env l _ (he.keepS m1) (hf.same m1) e3 fun vs H2 m2 r2 => k _ H2 (m1.trans m2) (.cons (r1.keepS m2) r2)
theorem pu_tup (hl : PuA tl fl) : PuE (tTup tl) (fun env => (fl env).bind fun l => if l.length ≤ 900 then some (.tup l) else none) := fun P σ H env d Q he hf e k => by
  obtain ⟨l, e1, e2⟩ := Option.bind_eq_some_iff.mp e
  split at e2
  · rename_i hz
    cases e2
    refine hl P σ H env l _ he hf e1 fun vs H1 m1 r1 => ⟨?_, fun p hp => ?_⟩
    · rw [r1.length, sizeLine_eq]
      omega
    · have n := same_new (o := .tup vs) hp
      refine k _ _ (m1.trans n) (.tup (.inl <| by rw [keep_at (hf _ (same_none m1 hp))]; exact upd_same) r1.length hz fun i v d h1 h2 => (r1.get i v d h1 h2).keepS n)
  · cases e2
theorem pu_lst (hl : PuA tl fl) : PuE (tLst tl) (fun env => (fl env).bind fun l => if l.length ≤ 900 then some (.lst l) else none) := fun P σ H env d Q he hf e k => by
  obtain ⟨l, e1, e2⟩ := Option.bind_eq_some_iff.mp e
  split at e2
  · rename_i hz
    cases e2
    refine hl P σ H env l _ he hf e1 fun vs H1 m1 r1 => ⟨?_, fun p hp => ?_⟩
    · rw [r1.length, sizeLine_eq]
      omega
    · have n := same_new (o := .lst vs) hp
      refine k _ _ (m1.trans n) (.lst (by rw [keep_at (hf _ (same_none m1 hp))]; exact upd_same) r1.length hz fun i v d h1 h2 => (r1.get i v d h1 h2).keepS n)
  · cases e2
theorem pu_op (ha : PuE ta fa) (hb : PuE tb fb) (hr : PuR r fr) : PuE (tOp r ta tb) (fun env => (fa env).bind fun d => (fb env).bind fun e => fr d e) := fun P σ H env c Q he hf e k => by
  obtain ⟨d, e1, e2⟩ := Option.bind_eq_some_iff.mp e
  obtain ⟨u, e3, e4⟩ := Option.bind_eq_some_iff.mp e2
  exact ha P σ H env d _ he hf e1 fun v H1 m1 r1 => hb P σ H1 env u _ (he.keepS m1) (hf.same m1) e3 fun w H2 m2 r2 => hr P v w H2 d u c Q (r1.keepS m2) r2 (hf.same (m1.trans m2)) e4 fun z H3 m3 r3 => k z H3 ((m1.trans m2).trans m3) r3
theorem pu_cb {r : List V → Hp → VK → Prop} {f : List E → Option E} (hl : PuA tl fl) (hr : PuC r f) : PuE (tCB r tl) (fun env => (fl env).bind f) := fun P σ H env c Q he hf e k => by
  obtain ⟨l, e1, e2⟩ := Option.bind_eq_some_iff.mp e
  exact hl P σ H env l _ he hf e1 fun vs H1 m1 r1 => hr P vs H1 l c Q r1 (hf.same m1) e2 fun z H3 m3 r3 => k z H3 (m1.trans m3) r3
def toB : E → Option Bool
  | .bl b => some b
  | _ => none
theorem toB_eq {d : E} {b : Bool} (h : toB d = some b) : d = .bl b := by
  cases d <;> first | (cases h; rfl) | cases h
theorem pu_test (ha : PuE ta fa) : PuT (tTest ta) (fun env => (fa env).bind toB) := fun P σ H env b Q he hf e k => by
  obtain ⟨d, e1, e2⟩ := Option.bind_eq_some_iff.mp e
  cases toB_eq e2
  exact ha P σ H env _ _ he hf e1 fun v H1 m1 r1 => by
    cases r1
    exact ⟨b, rfl, k H1 m1⟩
theorem pu_b (ha : PuE ta fa) : PuT (tB ta) (fun env => (fa env).bind toB) := pu_test ha
theorem pu_and (hx : PuT tx fx) (hy : PuT ty fy) : PuT (tAnd tx ty) (fun env => (fx env).bind fun b => if b = true then fy env else some false) := fun P σ H env b Q he hf e k => by
  obtain ⟨c, e1, e2⟩ := Option.bind_eq_some_iff.mp e
  refine hx P σ H env c _ he hf e1 fun H1 m1 => ?_
  cases c with
  | true => exact iteT (hy P σ H1 env b Q (he.keepS m1) (hf.same m1) e2 fun H2 m2 => k H2 (m1.trans m2))
  | false => cases e2; exact iteF (k H1 m1)
theorem pu_or (hx : PuT tx fx) (hy : PuT ty fy) : PuT (tOr tx ty) (fun env => (fx env).bind fun b => if b = true then some true else fy env) := fun P σ H env b Q he hf e k => by
  obtain ⟨c, e1, e2⟩ := Option.bind_eq_some_iff.mp e
  refine hx P σ H env c _ he hf e1 fun H1 m1 => ?_
  cases c with
  | false => exact iteF (hy P σ H1 env b Q (he.keepS m1) (hf.same m1) e2 fun H2 m2 => k H2 (m1.trans m2))
  | true => cases e2; exact iteT (k H1 m1)
theorem pu_not (hx : PuT tx fx) : PuT (tNot tx) (fun env => (fx env).map (!·)) := fun P σ H env b Q he hf e k => by
  obtain ⟨c, e1, rfl⟩ := Option.map_eq_some_iff.mp e
  exact hx P σ H env c _ he hf e1 fun H1 m1 => k H1 m1
theorem pu_andV (ha : PuE ta fa) (hb : PuE tb fb) : PuE (tAndV ta tb) (fun env => ((fa env).bind toB).bind fun b => if b = true then fb env else some (.bl false)) := fun P σ H env d Q he hf e k => by
  obtain ⟨c, e1, e2⟩ := Option.bind_eq_some_iff.mp e
  refine pu_test ha P σ H env c (fun b H1 => if b = true then tb σ H1 Q else Q (.bl false) H1) he hf e1 fun H1 m1 => ?_
  cases c with
  | true => exact iteT (hb P σ H1 env d Q (he.keepS m1) (hf.same m1) e2 fun v H2 m2 r2 => k v H2 (m1.trans m2) r2)
  | false => cases e2; exact iteF (k _ H1 m1 (.bl false))
theorem pu_orV (ha : PuE ta fa) (hb : PuE tb fb) : PuE (tOrV ta tb) (fun env => ((fa env).bind toB).bind fun b => if b = true then some (.bl true) else fb env) := fun P σ H env d Q he hf e k => by
  obtain ⟨c, e1, e2⟩ := Option.bind_eq_some_iff.mp e
  refine pu_test ha P σ H env c (fun b H1 => if b = true then Q (.bl true) H1 else tb σ H1 Q) he hf e1 fun H1 m1 => ?_
  cases c with
  | false => exact iteF (hb P σ H1 env d Q (he.keepS m1) (hf.same m1) e2 fun v H2 m2 r2 => k v H2 (m1.trans m2) r2)
  | true => cases e2; exact iteT (k _ H1 m1 (.bl true))
theorem pu_notV (ha : PuE ta fa) : PuE (tNotV ta) (fun env => ((fa env).bind toB).map fun b => .bl (!b)) := fun P σ H env d Q he hf e k => by
  obtain ⟨c, e1, rfl⟩ := Option.map_eq_some_iff.mp e
  exact pu_test ha P σ H env c (fun b H1 => Q (.bl (!b)) H1) he hf e1 fun H1 m1 => k _ H1 m1 (.bl _)
theorem pu_if (hx : PuT tx fx) (ha : PuE ta fa) (hb : PuE tb fb) : PuE (tIf tx ta tb) (fun env => (fx env).bind fun b => if b = true then fa env else fb env) := fun P σ H env d Q he hf e k => by
  obtain ⟨c, e1, e2⟩ := Option.bind_eq_some_iff.mp e
  refine hx P σ H env c _ he hf e1 fun H1 m1 => ?_
  cases c with
  | true => exact iteT (ha P σ H1 env d Q (he.keepS m1) (hf.same m1) e2 fun v H2 m2 r2 => k v H2 (m1.trans m2) r2)
  | false => exact iteF (hb P σ H1 env d Q (he.keepS m1) (hf.same m1) e2 fun v H2 m2 r2 => k v H2 (m1.trans m2) r2)
/-! statements without loops -/
abbrev FS := List (Option E) → Option (E ⊕ List (Option E))
def PuS (ts : TS) (f : FS) : Prop := ∀ (P : Addr → Prop) (σ : L2.St) (H : Hp) (env : List (Option E)) (D : Ends), En (keepH P H) σ env → Fr P H →
  (∀ d, f env = some (.inl d) → (∀ v H', Same H H' → Rp (keepH P H') v d → D.rt v H') → ts D σ H) ∧
  (∀ env', f env = some (.inr env') → (∀ σ' H', Same H H' → En (keepH P H') σ' env' → D.nx σ' H') → ts D σ H)
theorem pu_ret (ha : PuE ta fa) : PuS (tRet ta) (fun env => (fa env).map .inl) := fun P σ H env D he hf => by
  refine ⟨fun d e k => ?_, fun env' e k => ?_⟩
  · obtain ⟨c, e1, e2⟩ := Option.map_eq_some_iff.mp e
    cases e2
    exact ha P σ H env _ _ he hf e1 k
  · obtain ⟨c, e1, e2⟩ := Option.map_eq_some_iff.mp e
    cases e2
theorem pu_next : PuS tNext (fun env => some (.inr env)) := fun P σ H env D he hf => ⟨fun d e k => (by have e' : some (Sum.inr env) = some (Sum.inl d) := e; cases e'), fun env' e k => (by cases e; exact k σ H (fun _ _ z => z) he)⟩
theorem pu_asg {i : Nat} (ha : PuE ta fa) : PuS (tAsg ta (gName i)) (fun env => (fa env).map fun d => .inr (env.set i (some d))) := fun P σ H env D he hf => by
  refine ⟨fun d e k => ?_, fun env' e k => ?_⟩
  · obtain ⟨c, e1, e2⟩ := Option.map_eq_some_iff.mp e
    cases e2
  · obtain ⟨c, e1, e2⟩ := Option.map_eq_some_iff.mp e
    cases e2
    exact ha P σ H env c _ he hf e1 fun v H1 m1 r1 => k _ H1 m1 ((he.keepS m1).set r1)
theorem pu_seq {t u : TS} {f g : FS} (ht : PuS t f) (hu : PuS u g) : PuS (tSeq t u) (fun env => (f env).bind fun x => match x with | .inl d => some (.inl d) | .inr env' => g env') := fun P σ H env D he hf => by
  have go : ∀ z, ((f env).bind fun x => match x with | .inl d => some (.inl d) | .inr env' => g env') = some z → (∃ d, f env = some (.inl d) ∧ z = .inl d) ∨ ∃ env', f env = some (.inr env') ∧ g env' = some z := fun z e => by
    obtain ⟨x, e1, e2⟩ := Option.bind_eq_some_iff.mp e
    cases x with
    | inl d => cases e2; exact .inl ⟨d, e1, rfl⟩
    | inr env' => exact .inr ⟨env', e1, e2⟩
  refine ⟨fun d e k => ?_, fun env' e k => ?_⟩
  · rcases go _ e with ⟨d', e1, e2⟩ | ⟨env', e1, e2⟩
    · cases e2
      exact (ht P σ H env { D with nx := u D } he hf).1 _ e1 k
    · exact (ht P σ H env { D with nx := u D } he hf).2 _ e1 fun σ' H1 m1 he1 => (hu P σ' H1 env' D he1 (hf.same m1)).1 d e2 fun v H2 m2 r2 => k v H2 (m1.trans m2) r2
  · rcases go _ e with ⟨d', e1, e2⟩ | ⟨env1, e1, e2⟩
    · cases e2
    · exact (ht P σ H env { D with nx := u D } he hf).2 _ e1 fun σ' H1 m1 he1 => (hu P σ' H1 env1 D he1 (hf.same m1)).2 env' e2 fun σ2 H2 m2 r2 => k σ2 H2 (m1.trans m2) r2
theorem pu_ifS {t u : TS} {f g : FS} (hx : PuT tx fx) (ht : PuS t f) (hu : PuS u g) : PuS (tIfS tx t u) (fun env => (fx env).bind fun b => if b = true then f env else g env) := fun P σ H env D he hf => by
  refine ⟨fun d e k => ?_, fun env' e k => ?_⟩
  · obtain ⟨c, e1, e2⟩ := Option.bind_eq_some_iff.mp e
    refine hx P σ H env c _ he hf e1 fun H1 m1 => ?_
    cases c with
    | true => exact iteT ((ht P σ H1 env D (he.keepS m1) (hf.same m1)).1 d e2 fun v H2 m2 r2 => k v H2 (m1.trans m2) r2)
    | false => exact iteF ((hu P σ H1 env D (he.keepS m1) (hf.same m1)).1 d e2 fun v H2 m2 r2 => k v H2 (m1.trans m2) r2)
  · obtain ⟨c, e1, e2⟩ := Option.bind_eq_some_iff.mp e
    refine hx P σ H env c _ he hf e1 fun H1 m1 => ?_
    cases c with
    | true => exact iteT ((ht P σ H1 env D (he.keepS m1) (hf.same m1)).2 env' e2 fun v H2 m2 r2 => k v H2 (m1.trans m2) r2)
    | false => exact iteF ((hu P σ H1 env D (he.keepS m1) (hf.same m1)).2 env' e2 fun v H2 m2 r2 => k v H2 (m1.trans m2) r2)
end
/-! a def that makes nothing but new objects -/
def spP (f : List E → Option E) : Sp := fun vs H Q _ => ∃ (P : Addr → Prop) (ds : List E) (d : E), RpL (keepH P H) vs ds ∧ Fr P H ∧ f ds = some d ∧ ∀ v H', Same H H' → Rp (keepH P H') v d → Q v H'
theorem pu_call {tl : TA} {fl : FA} {f : List E → Option E} {E0 : XK} (hl : PuA tl fl) : PuE (tCall (spP f) [] E0 tl) (fun env => (fl env).bind f) := fun P σ H env c Q he hf e k => by
  obtain ⟨l, e1, e2⟩ := Option.bind_eq_some_iff.mp e
  exact hl P σ H env l _ he hf e1 fun vs H1 m1 r1 => ⟨P, l, c, by rw [List.append_nil]; exact r1, hf.same m1, e2, fun z H3 m3 r3 => k z H3 (m1.trans m3) r3⟩
end ET

/-! operators and calls on trees -/
namespace ET
open PySem L2 XR VT
variable [KC]
def tyN : E → String
  | .non => "NoneType"
  | .bl _ => "bool"
  | .int _ => "int"
  | .str _ => "str"
  | .tup _ => "tuple"
  | .lst _ => "list"
  | .map _ _ => "dict"
  | .ins _ _ _ => ""
def tyE : E → Value
  | .ins C _ _ => .ref C
  | d => .type (tyN d)
abbrev tys : List String := ["tuple", "bool", "int", "dict", "str", "list"]
def isN (t : String) (d : E) : Bool := tyN d == t || (tyN d == "bool" && t == "int")
/-- an own class whose instances stand in trees -/
structure CF (K : PySem.W.Frag) (C : Addr) : Prop where
  cl : Cls K C
  c1 : PySem.W.findIn K (.ref C) "__class__" = some (some (.builtin "object.__class__"))
  c2 : PySem.W.specialIn K (.builtin "object.__class__") "__get__" = some (some (.builtin "getset_descriptor.__get__"))
  c3 : PySem.W.takesIn K (.builtin "object.__class__") = some true
  c4 : PySem.W.mroIn K C (.type "object") = some true
  no : ∀ t ∈ tys, PySem.W.kitOne K (.ref C) (.type t) = some false
def isT (CS : List Addr) (t : String) : E → Option E
  | .ins C _ _ => if C ∈ CS then some (.bl false) else none
  | d => some (.bl (isN t d))
def isC (CS : List Addr) (sb : Addr → Bool) : E → Option E
  | .ins C _ _ => if C ∈ CS then some (.bl (sb C)) else none
  | _ => some (.bl false)
section
variable {K : PySem.W.Frag} [KcOk K] {CS : List Addr} {ta tb tc : TE} {fa fb fc : FE} {tl : TA} {fl : FA} {P : Addr → Prop} {H : Hp} {v : V} {d : E}
theorem Rp.ty (hC : ∀ C ∈ CS, CF K C) (h : Rp H v d) (hi : ∀ C ns ds, d = .ins C ns ds → C ∈ CS) : TyX K H v (tyE d) := by
  cases h with
  | non => exact .base .non
  | bl b => exact .base (.bl b)
  | int i => exact .base (.int i)
  | str x h => exact .base (.str x)
  | tup h =>
    rcases h with h | h
    · exact .base (.tup h)
    · obtain ⟨o, its, n, e, c, _⟩ := KcOk.ok (K := K) _ _ h
      exact .kTuple e c
  | lst h => exact .base (.lst h)
  | map h => exact .base (.dK h)
  | ins h =>
    have F := hC _ (hi _ _ _ rfl)
    exact .base (.ins h F.cl F.c1 F.c2 F.c3 F.c4)
theorem kit_is (t : String) (ht : t ∈ tys) (d : E) (hd : ∀ C ns ds, d ≠ .ins C ns ds) : PySem.W.kitOne K (tyE d) (.type t) = some (isN t d) := by
  have tb : ∀ a ∈ ["NoneType", "bool", "int", "str", "tuple", "dict", "list"], ∀ t ∈ tys, kitB a t = some (a == t || (a == "bool" && t == "int")) := by decide +kernel
  cases d with
  | non => exact kit_ty (tb "NoneType" (by decide) t ht)
  | bl b => exact kit_ty (tb "bool" (by decide) t ht)
  | int i => exact kit_ty (tb "int" (by decide) t ht)
  | str x => exact kit_ty (tb "str" (by decide) t ht)
  | tup l => exact kit_ty (tb "tuple" (by decide) t ht)
  | lst l => exact kit_ty (tb "list" (by decide) t ht)
  | map ks ds => exact kit_ty (tb "dict" (by decide) t ht)
  | ins C ns ds => exact absurd rfl (hd _ _ _)
theorem pu_isi (hC : ∀ C ∈ CS, CF K C) {t : String} (ha : PuE ta fa) (ht : t ∈ tys := by decide) : PuE (tCB (rIsi K) (tCons ta (tCons (tC (.ty t)) tNil))) (fun env => (fa env).bind (isT CS t)) := fun P σ H env c Q he hf e k => by
  obtain ⟨d, e1, e2⟩ := Option.bind_eq_some_iff.mp e
  refine ha P σ H env d _ he hf e1 fun v H1 m1 r1 => ?_
  have fin : ∀ b, c = .bl b → Q (.bl b) H1 := fun b z => by subst z; exact k _ H1 m1 (.bl b)
  cases d with
  | ins C ns ds =>
    have e3 : (if C ∈ CS then some (E.bl false) else none) = some c := e2
    split at e3
    · rename_i hm
      cases e3
      exact ⟨v, .ty t, _, _, false, rfl, .ty t, r1.ofKeep.ty hC (fun C' ns' ds' z => by cases z; exact hm), (hC C hm).no t ht, fin false rfl⟩
    · cases e3
  | _ =>
    cases e2
    exact ⟨v, .ty t, _, _, _, rfl, .ty t, r1.ofKeep.ty hC (fun C' ns' ds' z => nomatch z), kit_is t ht _ (fun _ _ _ z => nomatch z), fin _ rfl⟩
theorem pu_isC (hC : ∀ C ∈ CS, CF K C) {C0 : Addr} {sb : Addr → Bool} (own : ∀ C ∈ CS, PySem.W.kitOne K (.ref C) (.ref C0) = some (sb C)) (bas : ∀ t ∈ ["NoneType", "bool", "int", "str", "tuple", "dict", "list"], PySem.W.kitOne K (.type t) (.ref C0) = some false) (ha : PuE ta fa) :
    PuE (tCB (rIsi K) (tCons ta (tCons (tC (.ref C0)) tNil))) (fun env => (fa env).bind (isC CS sb)) := fun P σ H env c Q he hf e k => by
  obtain ⟨d, e1, e2⟩ := Option.bind_eq_some_iff.mp e
  refine ha P σ H env d _ he hf e1 fun v H1 m1 r1 => ?_
  have fin : ∀ b, c = .bl b → Q (.bl b) H1 := fun b z => by subst z; exact k _ H1 m1 (.bl b)
  cases d with
  | ins C ns ds =>
    have e3 : (if C ∈ CS then some (E.bl (sb C)) else none) = some c := e2
    split at e3
    · rename_i hm
      cases e3
      exact ⟨v, .ref C0, _, _, _, rfl, .own C0, r1.ofKeep.ty hC (fun C' ns' ds' z => by cases z; exact hm), own C hm, fin _ rfl⟩
    · cases e3
  | non => cases e2; exact ⟨v, .ref C0, _, _, _, rfl, .own C0, r1.ofKeep.ty hC (fun C' ns' ds' z => nomatch z), bas "NoneType" (by decide), fin _ rfl⟩
  | bl b => cases e2; exact ⟨v, .ref C0, _, _, _, rfl, .own C0, r1.ofKeep.ty hC (fun C' ns' ds' z => nomatch z), bas "bool" (by decide), fin _ rfl⟩
  | int b => cases e2; exact ⟨v, .ref C0, _, _, _, rfl, .own C0, r1.ofKeep.ty hC (fun C' ns' ds' z => nomatch z), bas "int" (by decide), fin _ rfl⟩
  | str b => cases e2; exact ⟨v, .ref C0, _, _, _, rfl, .own C0, r1.ofKeep.ty hC (fun C' ns' ds' z => nomatch z), bas "str" (by decide), fin _ rfl⟩
  | tup b => cases e2; exact ⟨v, .ref C0, _, _, _, rfl, .own C0, r1.ofKeep.ty hC (fun C' ns' ds' z => nomatch z), bas "tuple" (by decide), fin _ rfl⟩
  | lst b => cases e2; exact ⟨v, .ref C0, _, _, _, rfl, .own C0, r1.ofKeep.ty hC (fun C' ns' ds' z => nomatch z), bas "list" (by decide), fin _ rfl⟩
  | map b c => cases e2; exact ⟨v, .ref C0, _, _, _, rfl, .own C0, r1.ofKeep.ty hC (fun C' ns' ds' z => nomatch z), bas "dict" (by decide), fin _ rfl⟩
/-! len, all -/
def lenE : List E → Option E
  | [.str x] => some (.int x.length)
  | [.tup l] => some (.int l.length)
  | [.lst l] => some (.int l.length)
  | [.map _ ds] => some (.int ds.length)
  | _ => none
def rLenE (K : PySem.W.Frag) : List V → Hp → VK → Prop := fun xs H Q => (∃ x n, xs = [x] ∧ LenV K x H n ∧ Q (.int n) H) ∨ ∃ d kvs, xs = [.ref d] ∧ H d = some (.dK kvs) ∧ Q (.int kvs.length) H
theorem call_lenE {X : Cx} : CallR X (.builtin "len") (rLenE X.K) := by
  intro pins s σ H xs us Q I r h
  rcases h with h | h
  · exact call_len pins s σ H xs us Q I r h
  · exact call_lenD pins s σ H xs us Q I r h
theorem mk_length {ks : List L2.Key} {vs : List V} (h : ks.length = vs.length) : (mk ks vs).length = ks.length := by
  unfold mk
  rw [List.length_zip, ← h, Nat.min_self]
theorem pu_len : PuC (rLenE K) lenE := fun P xs H ds c Q r hf e k => by
  unfold lenE at e
  split at e
  · cases e
    cases r with
    | cons h t =>
      cases t
      cases h with
      | str x hx => exact .inl ⟨_, _, rfl, ⟨Nat.le_trans hx.2 (by rw [sizeLine_eq]; omega), rfl⟩, k _ H (fun _ _ z => z) (.int _)⟩
  · cases e
    cases r with
    | cons h t =>
      cases t
      cases h with
      | tup h hl hz hs =>
        rw [← hl] at k
        exact .inl ⟨_, _, rfl, .inr ⟨_, (TuA.sq h), rfl⟩, k _ H (fun _ _ z => z) (.int _)⟩
  · cases e
    cases r with
    | cons h t =>
      cases t
      cases h with
      | lst h hl hz hs =>
        rw [← hl] at k
        exact .inl ⟨_, _, rfl, .inl ⟨_, SqL.of (keep_some h).2, rfl⟩, k _ H (fun _ _ z => z) (.int _)⟩
  · cases e
    cases r with
    | cons h t =>
      cases t
      cases h with
      | map h hv hk hz nd hs =>
        refine .inr ⟨_, _, rfl, (keep_some h).2, ?_⟩
        rw [mk_length (hk.trans hv.symm), hk]
        exact k _ H (fun _ _ z => z) (.int _)
  · cases e
def bools : List E → Option (List Bool)
  | [] => some []
  | .bl b :: l => (bools l).map (b :: ·)
  | _ :: _ => none
theorem bools_rep : ∀ {l : List E} {bs : List Bool} {xs : List V}, bools l = some bs → RpL H xs l → xs = bs.map V.bl
  | [], bs, xs, h, r => by
    cases h
    cases r
    rfl
  | .bl b :: l, bs, xs, h, r => by
    obtain ⟨bs', e, rfl⟩ := Option.map_eq_some_iff.mp h
    cases r with
    | cons h1 t =>
      cases h1
      rw [bools_rep e t]
      rfl
def allE : List E → Option E
  | [.lst l] => (bools l).map fun bs => .bl (bs.all id)
  | _ => none
theorem pu_all : PuC (rAll K) allE := fun P xs H ds c Q r hf e k => by
  unfold allE at e
  split at e
  · obtain ⟨bs, e1, rfl⟩ := Option.map_eq_some_iff.mp e
    cases r with
    | cons h t =>
      cases t
      cases h with
      | lst h hl hz hs =>
        have ex := bools_rep e1 (RpL.of hl hs)
        subst ex
        exact ⟨_, bs, rfl, SqL.of (keep_some h).2, k _ H (fun _ _ z => z) (.bl _)⟩
  · cases e
def anyE : List E → Option E
  | [.lst l] => (bools l).map fun bs => .bl (bs.any id)
  | _ => none
theorem pu_any : PuC (rAny K) anyE := fun P xs H ds c Q r hf e k => by
  unfold anyE at e
  split at e
  · obtain ⟨bs, e1, rfl⟩ := Option.map_eq_some_iff.mp e
    cases r with
    | cons h t =>
      cases t
      cases h with
      | lst h hl hz hs =>
        have ex := bools_rep e1 (RpL.of hl hs)
        subst ex
        exact ⟨_, bs, rfl, SqL.of (keep_some h).2, k _ H (fun _ _ z => z) (.bl _)⟩
  · cases e
/-! items -/
def ixT : E → E → Option E
  | .tup l, .int i => atI l i
  | _, _ => none
def ixL : E → E → Option E
  | .lst l, .int i => atI l i
  | _, _ => none
theorem atI_rel {xs : List V} {ds : List E} {i : Int} {c : E} (hl : xs.length = ds.length) (hs : ∀ (i : Nat) (v : V) (d : E), xs[i]? = some v → ds[i]? = some d → Rp H v d) (e : atI ds i = some c) : ∃ v, atI xs i = some v ∧ Rp H v c := by
  obtain ⟨j, e1, e2⟩ := Option.bind_eq_some_iff.mp e
  have hj : j < xs.length := by rw [hl]; exact (List.getElem?_eq_some_iff.mp e2).1
  refine ⟨xs[j], ?_, hs j _ c (List.getElem?_eq_getElem hj) e2⟩
  unfold atI
  rw [hl, e1]
  exact List.getElem?_eq_getElem hj
theorem pu_ixT : PuR (rIxT K) ixT := fun P x y H d e c Q rx ry hf h k => by
  unfold ixT at h
  split at h
  · cases ry
    cases rx with
    | tup h1 hl hz hs =>
      obtain ⟨v, e1, r1⟩ := atI_rel hl hs h
      exact ⟨_, _, _, v, rfl, rfl, (TuA.sq h1), e1, k v H (fun _ _ z => z) r1⟩
  · cases h
theorem pu_ixL : PuR (rIxL K) ixL := fun P x y H d e c Q rx ry hf h k => by
  unfold ixL at h
  split at h
  · cases ry
    cases rx with
    | lst h1 hl hz hs =>
      obtain ⟨v, e1, r1⟩ := atI_rel hl hs h
      exact ⟨_, _, _, v, rfl, rfl, SqL.of (keep_some h1).2, e1, k v H (fun _ _ z => z) r1⟩
  · cases h
/-! is None -/
def isNo : E → E → Option E
  | d, .non => some (.bl (match d with | .non => true | _ => false))
  | _, _ => none
def notNo : E → E → Option E
  | d, .non => some (.bl (match d with | .non => false | _ => true))
  | _, _ => none
theorem pu_isN : PuR (fun x y H Q => y = .non ∧ Q (.bl (decide (x = .non))) H) isNo := fun P x y H d e c Q rx ry hf h k => by
  cases ry <;> (try (cases d <;> cases h))
  all_goals (cases rx; exact ⟨rfl, k _ H (fun _ _ z => z) (by first | exact .bl _ | (simp; exact .bl _))⟩)
theorem pu_notN : PuR (fun x y H Q => y = .non ∧ Q (.bl (!decide (x = .non))) H) notNo := fun P x y H d e c Q rx ry hf h k => by
  cases ry <;> (try (cases d <;> cases h))
  all_goals (cases rx; exact ⟨rfl, k _ H (fun _ _ z => z) (by first | exact .bl _ | (simp; exact .bl _))⟩)
/-! == of simple values -/
def toV : E → Option V
  | .non => some .non
  | .bl b => some (.bl b)
  | .int i => some (.int i)
  | .str x => some (.str x)
  | _ => none
theorem toV_rep {d : E} {x : V} (h : toV d = some x) (r : Rp H v d) : v = x := by
  cases r <;> first | (cases h; rfl) | cases h
theorem toV_rp {d : E} {x : V} (h : toV d = some x) (r : Rp H v d) : toV d = some v := by rw [h, toV_rep h r]
def sc : E → E → Option Bool
  | .non, .non => some true
  | .int i, .int j => some (decide (i = j))
  | .bl a, .bl b => some (decide (a = b))
  | .str x, .str y => some (decide (x = y))
  | .non, .int _ => some false | .int _, .non => some false | .non, .bl _ => some false | .bl _, .non => some false | .non, .str _ => some false | .str _, .non => some false
  | .int _, .str _ => some false | .str _, .int _ => some false | .bl _, .str _ => some false | .str _, .bl _ => some false
  | _, _ => none
theorem sc_ok {H : Hp} {x y : V} {d e : E} {b : Bool} (rx : Rp H x d) (ry : Rp H y e) (h : sc d e = some b) : scal x y = true ∧ decide (x = y) = b := by
  cases rx <;> cases ry <;> first
    | (cases h; done)
    | (cases h; exact ⟨rfl, rfl⟩)
    | (cases h; refine ⟨rfl, ?_⟩; simp; done)
    | (cases h; exact ⟨rfl, by simp⟩)
def eqS (d e : E) : Option E := (sc d e).map .bl
def neS (d e : E) : Option E := (sc d e).map fun b => .bl (!b)
theorem pu_eqS : PuR rEq eqS := fun P x y H d e c Q rx ry hf h k => by
  obtain ⟨b, e1, rfl⟩ := Option.map_eq_some_iff.mp h
  obtain ⟨h1, h2⟩ := sc_ok rx ry e1
  exact ⟨h1, by rw [h2]; exact k _ H (fun _ _ z => z) (.bl _)⟩
theorem pu_neS : PuR rNe neS := fun P x y H d e c Q rx ry hf h k => by
  obtain ⟨b, e1, rfl⟩ := Option.map_eq_some_iff.mp h
  obtain ⟨h1, h2⟩ := sc_ok rx ry e1
  exact ⟨h1, by rw [h2]; exact k _ H (fun _ _ z => z) (.bl _)⟩
/-! comparisons of whole numbers -/
def cmI (p : Int → Int → Bool) : E → E → Option E
  | .int i, .int j => some (.bl (p i j))
  | _, _ => none
theorem pu_cm {p : Int → Int → Bool} : PuR (rI0 fun i j => .bl (p i j)) (cmI p) := fun P x y H d e c Q rx ry hf h k => by
  unfold cmI at h
  split at h
  · cases h
    cases rx
    cases ry
    exact ⟨_, _, rfl, rfl, k _ H (fun _ _ z => z) (.bl _)⟩
  · cases h
def arI (p : Int → Int → Int) : E → E → Option E
  | .int i, .int j => some (.int (p i j))
  | _, _ => none
theorem pu_ar {p : Int → Int → Int} : PuR (rI0 fun i j => .int (p i j)) (arI p) := fun P x y H d e c Q rx ry hf h k => by
  unfold arI at h
  split at h
  · cases h
    cases rx
    cases ry
    exact ⟨_, _, rfl, rfl, k _ H (fun _ _ z => z) (.int _)⟩
  · cases h
/-! in -/
def vals : List E → Option (List V)
  | [] => some []
  | d :: l => (toV d).bind fun x => (vals l).map (x :: ·)
theorem vals_rep : ∀ {l : List E} {vs xs : List V}, vals l = some vs → RpL H xs l → xs = vs
  | [], vs, xs, h, r => by
    cases h
    cases r
    rfl
  | d :: l, vs, xs, h, r => by
    obtain ⟨x, e1, e2⟩ := Option.bind_eq_some_iff.mp h
    obtain ⟨w, e3, rfl⟩ := Option.map_eq_some_iff.mp e2
    cases r with
    | cons h1 t => rw [toV_rep e1 h1, vals_rep e3 t]
theorem toV_flat {d : E} {x : V} (h : toV d = some x) : flatV x = true := by
  cases d <;> first | (cases h; rfl) | cases h
theorem vals_flat : ∀ {l : List E} {vs : List V}, vals l = some vs → vs.all flatV = true
  | [], vs, h => by cases h; rfl
  | d :: l, vs, h => by
    obtain ⟨x, e1, e2⟩ := Option.bind_eq_some_iff.mp h
    obtain ⟨w, e3, rfl⟩ := Option.map_eq_some_iff.mp e2
    rw [List.all_cons, toV_flat e1, vals_flat e3]
    rfl
def items : E → Option (List E)
  | .tup l => some l
  | .lst l => some l
  | _ => none
def eqF : E → E → Bool
  | .non, .non => true
  | .bl a, .bl b => a == b
  | .bl a, .int b => (if a then 1 else 0) == b
  | .int a, .bl b => a == (if b then 1 else 0)
  | .int a, .int b => a == b
  | .str a, .str b => a == b
  | _, _ => false
def flatE : E → Bool
  | .non => true | .bl _ => true | .int _ => true | .str _ => true | _ => false
theorem flat_rp {H : Hp} {v : V} {d : E} (r : Rp H v d) (h : flatE d = true) : flatV v = true := by
  cases r <;> first | rfl | cases h
theorem eqF_rp {H : Hp} {x y : V} {d e : E} (rx : Rp H x d) (ry : Rp H y e) (hd : flatE d = true) (he : flatE e = true) : eqV x y = eqF d e := by
  cases rx <;> cases ry <;> first | rfl | cases hd | cases he
def anyIn (l : List E) (d : E) : Bool := l.any (eqF · d)
theorem any_rp {H : Hp} {x : V} {d : E} (rx : Rp H x d) (hd : flatE d = true) : ∀ {xs : List V} {l : List E}, RpL H xs l → l.all flatE = true → inV x xs = anyIn l d ∧ xs.all flatV = true
  | [], [], .nil, _ => ⟨rfl, rfl⟩
  | y :: xs, e :: l, .cons h t, hl => by
    rw [List.all_cons, Bool.and_eq_true] at hl
    obtain ⟨i1, i2⟩ := any_rp rx hd t hl.2
    refine ⟨?_, ?_⟩
    · show (eqV y x || inV x xs) = (eqF e d || anyIn l d)
      rw [i1, eqF_rp h rx hl.1 hd]
    · rw [List.all_cons, flat_rp h hl.1, i2]
      rfl
def inE (neg : Bool) (d e : E) : Option E := (items e).bind fun l => if (flatE d && l.all flatE) = true then some (.bl (if neg then !(anyIn l d) else anyIn l d)) else none
theorem pu_in {neg : Bool} : PuR (rIn K neg) (inE neg) := fun P x y H d e c Q rx ry hf h k => by
  obtain ⟨l, e2, h⟩ := Option.bind_eq_some_iff.mp h
  split at h
  · rename_i hfl
    obtain ⟨f1, f2⟩ := Bool.and_eq_true_iff.mp hfl
    cases h
    cases ry with
    | tup h1 hl hz hs =>
      cases e2
      obtain ⟨g1, g2⟩ := any_rp rx f1 (RpL.of hl hs) f2
      refine ⟨_, _, rfl, .inr ((TuA.sq h1)), flat_rp rx f1, g2, ?_⟩
      rw [g1]
      exact k _ H (fun _ _ z => z) (.bl _)
    | lst h1 hl hz hs =>
      cases e2
      obtain ⟨g1, g2⟩ := any_rp rx f1 (RpL.of hl hs) f2
      refine ⟨_, _, rfl, .inl (SqL.of (keep_some h1).2), flat_rp rx f1, g2, ?_⟩
      rw [g1]
      exact k _ H (fun _ _ z => z) (.bl _)
    | _ => cases e2
  · cases h
theorem rpl_strs {H : Hp} : ∀ {xs : List Str}, (∀ x ∈ xs, TxOk x) → RpL H (xs.map V.str) (xs.map E.str)
  | [], _ => .nil
  | x :: xs, h => .cons (.str x (h x List.mem_cons_self)) (rpl_strs fun y hy => h y (List.mem_cons_of_mem _ hy))
theorem flat_strs : ∀ xs : List Str, (xs.map E.str).all flatE = true
  | [] => rfl
  | _ :: xs => flat_strs xs
/-- in a tuple of texts of the top -/
theorem pu_inK {neg : Bool} {aS : Addr} {xs : List Str} (hS : ∀ H, SqT K H aS (xs.map V.str)) (hx : ∀ x ∈ xs, TxOk x) (ha : PuE ta fa) : PuE (tOp (rIn K neg) ta (tC (.ref aS))) (fun env => (fa env).bind fun d => if flatE d = true then some (.bl (if neg then !(anyIn (xs.map E.str) d) else anyIn (xs.map E.str) d)) else none) := fun P σ H env c Q he hf e k => by
  obtain ⟨d, e1, e2⟩ := Option.bind_eq_some_iff.mp e
  split at e2
  · rename_i hd
    cases e2
    refine ha P σ H env d _ he hf e1 fun v H1 m1 r1 => ?_
    obtain ⟨g1, g2⟩ := any_rp r1 hd (rpl_strs hx) (flat_strs xs)
    refine ⟨aS, _, rfl, .inr (hS H1), flat_rp r1 hd, g2, ?_⟩
    rw [g1]
    exact k _ H1 m1 (.bl _)
  · cases e2
/-! chains -/
theorem pu_chain {r r' : R2} {fr fr' : E → E → Option E} (hr : PuR r fr) (hr' : PuR r' fr') (ha : PuE ta fa) (hb : PuE tb fb) (hc : PuE tc fc) : PuE (tChain r r' ta tb tc) (fun env => (fa env).bind fun d => (fb env).bind fun e => (fr d e).bind fun z => (toB z).bind fun b => if b = true then (fc env).bind fun u => fr' e u else some (.bl false)) := fun P σ H env c Q he hf e k => by
  obtain ⟨d, e1, e⟩ := Option.bind_eq_some_iff.mp e
  obtain ⟨u, e2, e⟩ := Option.bind_eq_some_iff.mp e
  obtain ⟨z, e3, e⟩ := Option.bind_eq_some_iff.mp e
  obtain ⟨b, e4, e⟩ := Option.bind_eq_some_iff.mp e
  cases toB_eq e4
  refine ha P σ H env d _ he hf e1 fun v H1 m1 r1 => hb P σ H1 env u _ (he.keepS m1) (hf.same m1) e2 fun y H2 m2 r2 => hr P v y H2 d u _ _ (r1.keepS m2) r2 (hf.same (m1.trans m2)) e3 fun w H3 m3 r3 => ?_
  cases r3
  refine ⟨b, rfl, ?_⟩
  have m := (m1.trans m2).trans m3
  cases b with
  | true =>
    have e' : ((fc env).bind fun u' => fr' u u') = some c := e
    obtain ⟨t, e5, e6⟩ := Option.bind_eq_some_iff.mp e'
    exact iteT (hc P σ H3 env t _ (he.keepS m) (hf.same m) e5 fun q H4 m4 r4 => hr' P y q H4 u t c Q ((r2.keepS m3).keepS m4) r4 (hf.same (m.trans m4)) e6 fun q' H5 m5 r5 => k q' H5 ((m.trans m4).trans m5) r5)
  | false =>
    cases e
    exact iteF (k _ H3 m (.bl false))
end
end ET

/-! comprehensions, slices, joins of trees -/
namespace ET
open PySem L2 XR VT
variable [KC]
section
variable {K : PySem.W.Frag} [KcOk K] {ta tb tc : TE} {fa fb fc : FE} {tx : TT} {fx : FT}
/-- what is walked -/
def PuI (wi : TI) (f : FA) : Prop := ∀ (P : Addr → Prop) (σ : L2.St) (H : Hp) (env : List (Option E)) (l : List E) (R : It → Hp → Prop), En (keepH P H) σ env → Fr P H → f env = some l → l.length ≤ 900 ∧
  ((∀ (J : It) (H1 : Hp) (G : Hp → Prop) (Y : Nat → Hp → V → Hp → Prop), Walk J l.length G Y → Same H H1 → (∀ H', Same H1 H' → G H') → (∀ i x H2 H3 d, Same H1 H2 → Y i H2 x H3 → l[i]? = some d → H3 = H2 ∧ Rp (keepH P H1) x d) → R J H1) → wi σ H R)
theorem pu_iTup (ha : PuE ta fa) : PuI (iTup K ta) (fun env => (fa env).bind fun d => match d with | .tup l => if l.length ≤ 900 then some l else none | _ => none) := fun P σ H env l R he hf e => by
  obtain ⟨d, e1, e2⟩ := Option.bind_eq_some_iff.mp e
  cases d with
  | tup l' =>
    have e3 : (if l'.length ≤ 900 then some l' else none) = some l := e2
    split at e3
    · rename_i hz
      cases e3
      refine ⟨hz, fun k => ha P σ H env _ _ he hf e1 fun v H1 m1 r1 => ?_⟩
      cases r1 with
      | @tup a xs ds h hl hz hs =>
        refine ⟨a, rfl, ⟨xs, (TuA.sq h)⟩, k _ H1 _ _ (hl ▸ walk_tup (K := K) (a := a) (xs := xs)) m1 (fun H' m => TuA.sq (h.mono (keep_same m))) fun i x H2 H3 d m hy hd => ?_⟩
        obtain ⟨rfl, hx⟩ := hy
        exact ⟨rfl, hs i x d hx hd⟩
    · cases e3
  | _ => cases e2
theorem pu_iLst (ha : PuE ta fa) : PuI (iList K ta) (fun env => (fa env).bind fun d => match d with | .lst l => if l.length ≤ 900 then some l else none | _ => none) := fun P σ H env l R he hf e => by
  obtain ⟨d, e1, e2⟩ := Option.bind_eq_some_iff.mp e
  cases d with
  | lst l' =>
    have e3 : (if l'.length ≤ 900 then some l' else none) = some l := e2
    split at e3
    · rename_i hz
      cases e3
      refine ⟨hz, fun k => ha P σ H env _ _ he hf e1 fun v H1 m1 r1 => ?_⟩
      cases r1 with
      | @lst a xs ds h hl hz hs =>
        have h' := (keep_some h).2
        refine ⟨a, rfl, ⟨xs, SqL.of h'⟩, k _ H1 _ _ (hl ▸ walk_list (K := K) (a := a) (xs := xs)) m1 (fun H' m => SqL.of (m _ _ h')) fun i x H2 H3 d m hy hd => ?_⟩
        obtain ⟨rfl, hx⟩ := hy
        exact ⟨rfl, hs i x d hx hd⟩
    · cases e3
  | _ => cases e2
theorem pu_yes : PuT tYes (fun _ => some true) := fun P σ H env d Q he hf e k => by cases e; exact k H (fun _ _ z => z)
def lcE (ft : FT) (fe : FE) (env : List (Option E)) (i : Nat) : List E → Option (List E)
  | [] => some []
  | x :: l => (ft (env.set i (some x))).bind fun b => if b = true then (fe (env.set i (some x))).bind fun d => (lcE ft fe env i l).map (d :: ·) else lcE ft fe env i l
theorem lcE_split {ft : FT} {fe : FE} {env : List (Option E)} {i : Nat} : ∀ {l : List E} {ds : List E} {k : Nat} {x : E}, lcE ft fe env i l = some ds → l[k]? = some x →
    ∃ d1 b, lcE ft fe env i (l.take k) = some d1 ∧ ft (env.set i (some x)) = some b ∧ (b = true → ∃ d, fe (env.set i (some x)) = some d ∧ lcE ft fe env i (l.take (k + 1)) = some (d1 ++ [d])) ∧ (b = false → lcE ft fe env i (l.take (k + 1)) = some d1)
  | y :: l, ds, 0, x, h, hx => by
    cases hx
    rw [lcE] at h
    obtain ⟨b, e1, e2⟩ := Option.bind_eq_some_iff.mp h
    refine ⟨[], b, rfl, e1, fun hb => ?_, fun hb => ?_⟩
    · rw [if_pos hb] at e2
      obtain ⟨d, e3, e4⟩ := Option.bind_eq_some_iff.mp e2
      refine ⟨d, e3, ?_⟩
      show lcE ft fe env i [y] = _
      rw [lcE, e1, Option.bind_some, if_pos hb, e3]
      rfl
    · show lcE ft fe env i [y] = _
      rw [lcE, e1, Option.bind_some, if_neg (by rw [hb]; decide)]
      rfl
  | y :: l, ds, k + 1, x, h, hx => by
    have hx' : l[k]? = some x := hx
    rw [lcE] at h
    obtain ⟨b0, e1, e2⟩ := Option.bind_eq_some_iff.mp h
    cases b0 with
    | true =>
      rw [if_pos rfl] at e2
      obtain ⟨d0, e3, e4⟩ := Option.bind_eq_some_iff.mp e2
      obtain ⟨ds', e5, _⟩ := Option.map_eq_some_iff.mp e4
      obtain ⟨d1, b, f1, f2, f3, f4⟩ := lcE_split e5 hx'
      refine ⟨d0 :: d1, b, ?_, f2, fun hb => ?_, fun hb => ?_⟩
      · show lcE ft fe env i (y :: l.take k) = _
        rw [lcE, e1, Option.bind_some, if_pos rfl, e3, Option.bind_some, f1]
        rfl
      · obtain ⟨d, g1, g2⟩ := f3 hb
        refine ⟨d, g1, ?_⟩
        show lcE ft fe env i (y :: l.take (k + 1)) = _
        rw [lcE, e1, Option.bind_some, if_pos rfl, e3, Option.bind_some, g2]
        rfl
      · show lcE ft fe env i (y :: l.take (k + 1)) = _
        rw [lcE, e1, Option.bind_some, if_pos rfl, e3, Option.bind_some, f4 hb]
        rfl
    | false =>
      rw [if_neg (by decide)] at e2
      obtain ⟨d1, b, f1, f2, f3, f4⟩ := lcE_split e2 hx'
      refine ⟨d1, b, ?_, f2, fun hb => ?_, fun hb => ?_⟩
      · show lcE ft fe env i (y :: l.take k) = _
        rw [lcE, e1, Option.bind_some, if_neg (by decide), f1]
      · obtain ⟨d, g1, g2⟩ := f3 hb
        refine ⟨d, g1, ?_⟩
        show lcE ft fe env i (y :: l.take (k + 1)) = _
        rw [lcE, e1, Option.bind_some, if_neg (by decide), g2]
      · show lcE ft fe env i (y :: l.take (k + 1)) = _
        rw [lcE, e1, Option.bind_some, if_neg (by decide), f4 hb]
theorem lcE_len {ft : FT} {fe : FE} {env : List (Option E)} {i : Nat} : ∀ {l ds : List E}, lcE ft fe env i l = some ds → ds.length ≤ l.length
  | [], ds, h => by cases h; exact Nat.le_refl _
  | y :: l, ds, h => by
    rw [lcE] at h
    obtain ⟨b0, e1, e2⟩ := Option.bind_eq_some_iff.mp h
    cases b0 with
    | true =>
      rw [if_pos rfl] at e2
      obtain ⟨d0, e3, e4⟩ := Option.bind_eq_some_iff.mp e2
      obtain ⟨ds', e5, rfl⟩ := Option.map_eq_some_iff.mp e4
      have := lcE_len e5
      rw [List.length_cons, List.length_cons]
      omega
    | false =>
      rw [if_neg (by decide)] at e2
      have := lcE_len e2
      rw [List.length_cons]
      omega
theorem RpL.snoc {H : Hp} {vs : List V} {ds : List E} {v : V} {d : E} (h : RpL H vs ds) (r : Rp H v d) : RpL H (vs ++ [v]) (ds ++ [d]) := by
  induction h with
  | nil => exact .cons r .nil
  | cons h t ih => exact .cons h ih
theorem keep_updD {P : Addr → Prop} {H : Hp} {D : Addr} {o : HO} : ∀ a u, keepH (fun b => P b ∧ b ≠ D) H a = some u → keepH (fun b => P b ∧ b ≠ D) (upd H D o) a = some u := fun a u e => by
  obtain ⟨p, e'⟩ := keep_some e
  rw [keep_at p, upd_ne p.2]
  exact e'
theorem pu_lc {wi : TI} {fi : FA} {tt : TT} {ft : FT} {te : TE} {fe : FE} {i : Nat} (hi : PuI wi fi) (ht : PuT tt ft) (hE : PuE te fe) : PuE (tLc wi (gName i) tt te [i]) (fun env => (fi env).bind fun l => (lcE ft fe env i l).map .lst) := fun P σ H env d Q he hf e k => by
  obtain ⟨l, e1, e2⟩ := Option.bind_eq_some_iff.mp e
  obtain ⟨ds, e3, rfl⟩ := Option.map_eq_some_iff.mp e2
  obtain ⟨h900, hw⟩ := hi P σ H env l (fun J H1 => ∀ D, H1 D = none → ∃ W : Nat → Nat → Hp → Prop, (∃ m, W 0 m (upd H1 D (.lst []))) ∧ ∀ i' m H, W i' m H →
    (J.stop i' H ∧ Q (.ref D) H) ∨ (J.go i' H ∧ ∃ Nx : Hp → Prop, (∀ H', Nx H' → ∃ m', m' < m ∧ W (i' + 1) m' H') ∧ ∀ x H', J.yld i' H x H' → gName i x (wipe σ [i]) H' fun σ2 H2 => wipe σ2 [i] = wipe σ [i] ∧ tt σ2 H2 fun b H3 =>
      if b = true then te σ2 H3 fun y H4 => ∃ acc, H4 D = some (.lst acc) ∧ acc.length < sizeLine ∧ Nx (upd H4 D (.lst (acc ++ [y]))) else Nx H3)) he hf e1
  refine hw fun J H1 G Y w m1 hG hY D hD => ?_
  have he1 := he.keepS m1
  have fr1 := hf.same m1
  have dl := lcE_len e3
  refine lc_it w (fun k' H' => Same H1 H' ∧ ∃ acc ds', H' D = some (.lst acc) ∧ RpL (keepH (fun b => P b ∧ b ≠ D) H') acc ds' ∧ lcE ft fe env i (l.take k') = some ds') ⟨same_new hD, [], [], upd_same, .nil, rfl⟩ (fun k' H' _ q => hG H' q.1) ?_ ?_
  · rintro k' x H2 H3 hk ⟨m2, acc, ds', hDa, hR, hL⟩ hy
    have hlk : l[k']? = some l[k'] := List.getElem?_eq_getElem hk
    obtain ⟨rfl, rx⟩ := hY k' x H2 H3 _ m2 hy hlk
    obtain ⟨d1, b, f1, f2, f3, f4⟩ := lcE_split e3 hlk
    rw [hL] at f1
    cases f1
    have hal : acc.length < sizeLine := by
      have := hR.length
      have := lcE_len hL
      rw [List.length_take] at this
      rw [sizeLine_eq]
      omega
    have en : En (keepH (fun b => P b ∧ b ≠ D) H3) ((wipe σ [i]).set i (some x)) (env.set i (some l[k'])) := by
      have q := ((he1.mono (keep_off hD m2)).wipe [i]).set (i := i) (rx.mono (keep_off hD m2))
      have z : ([i].foldr (fun v e => e.set v none) env).set i (some l[k']) = env.set i (some l[k']) := by
        show (env.set i none).set i (some l[k']) = _
        rw [List.set_set]
      rw [z] at q
      exact q
    have fr : Fr (fun b => P b ∧ b ≠ D) H3 := fun b hb => ⟨fr1.same m2 b hb, fun z => by rw [z, hDa] at hb; cases hb⟩
    refine ⟨?_, ht _ _ H3 _ b _ en fr f2 fun H4 m4 => ?_⟩
    · show ((σ.set i none).set i (some x)).set i none = σ.set i none
      rw [List.set_set, List.set_set]
    · cases b with
      | true =>
        obtain ⟨d, g1, g2⟩ := f3 rfl
        refine iteT (hE _ _ H4 _ d _ (en.keepS m4) (fr.same m4) g1 fun y H5 m5 r5 => ⟨acc, m5 _ _ (m4 _ _ hDa), hal, fun q o e => ?_, acc ++ [y], ds' ++ [d], upd_same, ?_, g2⟩)
        · rw [upd_ne (ne_of_none e hD)]
          exact m5 _ _ (m4 _ _ (m2 _ _ e))
        · exact ((hR.mono (keep_same (m4.trans m5))).snoc r5).mono keep_updD
      | false => exact iteF ⟨m2.trans m4, acc, ds', m4 _ _ hDa, hR.mono (keep_same m4), f4 rfl⟩
  · rintro H' ⟨m2, acc, ds', hDa, hR, hL⟩
    rw [List.take_of_length_le (Nat.le_refl _), e3] at hL
    cases hL
    refine k _ H' (m1.trans m2) (.lst (by rw [keep_at (fr1 D hD)]; exact hDa) hR.length (by omega) fun j v d h1 h2 => ?_)
    exact (hR.get j v d h1 h2).within fun b o p _ => p.1
/-! tuple(x), list(x) -/
def tupE : List E → Option E
  | [.lst l] => if l.length ≤ 900 then some (.tup l) else none
  | [.tup l] => some (.tup l)
  | _ => none
end
end ET

/-! dicts made of trees, tuple(x), list(x), slices, joins, == of data -/
namespace ET
open PySem L2 XR VT
variable [KC]
section
variable {K : PySem.W.Frag} [KcOk K] {ta tb tc : TE} {fa fb fc : FE}
def toK : E → Option L2.Key
  | .int i => some (.inl i)
  | .str x => some (.inr x)
  | _ => none
theorem toK_rep {H : Hp} {d : E} {k : L2.Key} {v : V} (h : toK d = some k) (r : Rp H v d) : v = kV k := by
  cases r <;> first | (cases h; rfl) | cases h
def putE (kvs : List (L2.Key × E)) (k : L2.Key) (d : E) : List (L2.Key × E) :=
  if (kvs.any fun kv => decide (kv.1 = k)) = true then kvs.map (fun kv => if kv.1 = k then (kv.1, d) else kv) else kvs ++ [(k, d)]
inductive RpK (H : Hp) : List (L2.Key × V) → List (L2.Key × E) → Prop
  | nil : RpK H [] []
  | cons {k : L2.Key} {v : V} {d : E} {vs : List (L2.Key × V)} {ds : List (L2.Key × E)} (h : Rp H v d) (t : RpK H vs ds) : RpK H ((k, v) :: vs) ((k, d) :: ds)
section
variable {H H' : Hp}
theorem RpK.mono {vs : List (L2.Key × V)} {ds : List (L2.Key × E)} (h : RpK H vs ds) (m : ∀ a o, H a = some o → H' a = some o) : RpK H' vs ds := by
  induction h with
  | nil => exact .nil
  | cons h t ih => exact .cons (h.mono m) ih
theorem RpK.keys {vs : List (L2.Key × V)} {ds : List (L2.Key × E)} (h : RpK H vs ds) : vs.map (·.1) = ds.map (·.1) := by
  induction h with
  | nil => rfl
  | cons h t ih => rw [List.map_cons, List.map_cons, ih]
theorem RpK.any {vs : List (L2.Key × V)} {ds : List (L2.Key × E)} (h : RpK H vs ds) (k : L2.Key) : (vs.any fun kv => decide (kv.1 = k)) = ds.any fun kv => decide (kv.1 = k) := by
  induction h with
  | nil => rfl
  | cons h t ih => rw [List.any_cons, List.any_cons, ih]
theorem RpK.rep {vs : List (L2.Key × V)} {ds : List (L2.Key × E)} {k : L2.Key} {v : V} {d : E} (h : RpK H vs ds) (r : Rp H v d) : RpK H (vs.map fun kv => if kv.1 = k then (kv.1, v) else kv) (ds.map fun kv => if kv.1 = k then (kv.1, d) else kv) := by
  induction h with
  | nil => exact .nil
  | @cons k0 v0 d0 vs ds h t ih =>
    rw [List.map_cons, List.map_cons]
    by_cases e : k0 = k
    · rw [if_pos e, if_pos e]
      exact .cons r ih
    · rw [if_neg e, if_neg e]
      exact .cons h ih
theorem RpK.snoc {vs : List (L2.Key × V)} {ds : List (L2.Key × E)} {k : L2.Key} {v : V} {d : E} (h : RpK H vs ds) (r : Rp H v d) : RpK H (vs ++ [(k, v)]) (ds ++ [(k, d)]) := by
  induction h with
  | nil => exact .cons r .nil
  | cons h t ih => exact .cons h ih
theorem RpK.put {vs : List (L2.Key × V)} {ds : List (L2.Key × E)} {k : L2.Key} {v : V} {d : E} (h : RpK H vs ds) (r : Rp H v d) : RpK H (putK vs k v) (putE ds k d) := by
  unfold putK putE
  rw [h.any k]
  split
  · exact h.rep r
  · exact h.snoc r
theorem RpK.lists {vs : List (L2.Key × V)} {ds : List (L2.Key × E)} (h : RpK H vs ds) : vs = mk (ds.map (·.1)) (vs.map (·.2)) ∧ RpL H (vs.map (·.2)) (ds.map (·.2)) := by
  induction h with
  | nil => exact ⟨rfl, .nil⟩
  | cons h t ih =>
    refine ⟨?_, .cons h ih.2⟩
    show _ = _ :: mk _ _
    rw [← ih.1]
end
theorem putE_len (kvs : List (L2.Key × E)) (k : L2.Key) (d : E) : (putE kvs k d).length ≤ kvs.length + 1 := by
  unfold putE
  split
  · rw [List.length_map]
    omega
  · rw [List.length_append]
    exact Nat.le_refl _
theorem putE_nd {kvs : List (L2.Key × E)} (k : L2.Key) (d : E) (h : (kvs.map (·.1)).Nodup) : ((putE kvs k d).map (·.1)).Nodup := by
  unfold putE
  split
  · have : (kvs.map fun kv => if kv.1 = k then (kv.1, d) else kv).map (·.1) = kvs.map (·.1) := by
      rw [List.map_map]
      refine List.map_congr_left fun x _ => ?_
      show (if x.1 = k then (x.1, d) else x).1 = x.1
      split <;> rfl
    rw [this]
    exact h
  · rename_i hn
    rw [List.map_append, List.nodup_append]
    refine ⟨h, by simp, fun a ha b hb => ?_⟩
    obtain ⟨x, hx, rfl⟩ := List.mem_map.mp ha
    have hb' : b = k := by simpa using hb
    subst hb'
    intro z
    exact hn (List.any_eq_true.mpr ⟨x, hx, decide_eq_true z⟩)
def dcE (fk fv : FE) (env : List (Option E)) (i : Nat) : List E → List (L2.Key × E) → Option (List (L2.Key × E))
  | [], acc => some acc
  | x :: l, acc => ((fk (env.set i (some x))).bind toK).bind fun k => (fv (env.set i (some x))).bind fun d => dcE fk fv env i l (putE acc k d)
theorem dcE_split {fk fv : FE} {env : List (Option E)} {i : Nat} : ∀ {l : List E} {a0 r : List (L2.Key × E)} {n : Nat} {x : E}, dcE fk fv env i l a0 = some r → l[n]? = some x →
    ∃ acc k d, dcE fk fv env i (l.take n) a0 = some acc ∧ (fk (env.set i (some x))).bind toK = some k ∧ fv (env.set i (some x)) = some d ∧ dcE fk fv env i (l.take (n + 1)) a0 = some (putE acc k d)
  | y :: l, a0, r, 0, x, h, hx => by
    cases hx
    rw [dcE] at h
    obtain ⟨k, e1, e2⟩ := Option.bind_eq_some_iff.mp h
    obtain ⟨d, e3, e4⟩ := Option.bind_eq_some_iff.mp e2
    refine ⟨a0, k, d, rfl, e1, e3, ?_⟩
    show dcE fk fv env i [y] a0 = _
    rw [dcE, e1, Option.bind_some, e3]
    rfl
  | y :: l, a0, r, n + 1, x, h, hx => by
    have hx' : l[n]? = some x := hx
    rw [dcE] at h
    obtain ⟨k, e1, e2⟩ := Option.bind_eq_some_iff.mp h
    obtain ⟨d, e3, e4⟩ := Option.bind_eq_some_iff.mp e2
    obtain ⟨acc, k', d', f1, f2, f3, f4⟩ := dcE_split e4 hx'
    refine ⟨acc, k', d', ?_, f2, f3, ?_⟩
    · show dcE fk fv env i (y :: l.take n) a0 = _
      rw [dcE, e1, Option.bind_some, e3, Option.bind_some, f1]
    · show dcE fk fv env i (y :: l.take (n + 1)) a0 = _
      rw [dcE, e1, Option.bind_some, e3, Option.bind_some, f4]
theorem pu_dc {wi : TI} {fi : FA} {tk tv : TE} {fk fv : FE} {i : Nat} (hi : PuI wi fi) (hk : PuE tk fk) (hv : PuE tv fv) : PuE (tDc wi (gName i) tYes tk tv [i]) (fun env => (fi env).bind fun l => (dcE fk fv env i l []).map fun kvs => .map (kvs.map (·.1)) (kvs.map (·.2))) := fun P σ H env d Q he hf e k => by
  obtain ⟨l, e1, e2⟩ := Option.bind_eq_some_iff.mp e
  obtain ⟨kvs, e3, rfl⟩ := Option.map_eq_some_iff.mp e2
  obtain ⟨h900, hw⟩ := hi P σ H env l (fun J H1 => ∀ D, H1 D = none → ∃ W : Nat → Nat → Hp → Prop, (∃ m, W 0 m (upd H1 D (.dK []))) ∧ ∀ i' m H, W i' m H →
    (J.stop i' H ∧ Q (.ref D) H) ∨ (J.go i' H ∧ ∃ Nx : Hp → Prop, (∀ H', Nx H' → ∃ m', m' < m ∧ W (i' + 1) m' H') ∧ ∀ x H', J.yld i' H x H' → gName i x (wipe σ [i]) H' fun σ2 H2 => wipe σ2 [i] = wipe σ [i] ∧ tYes σ2 H2 fun b H3 =>
      if b = true then tk σ2 H3 fun y H4 => tv σ2 H4 fun z H5 => ∃ kvs k, y = kV k ∧ H5 D = some (.dK kvs) ∧ kvs.length < sizeLine ∧ Nx (upd H5 D (.dK (putK kvs k z))) else Nx H3)) he hf e1
  refine hw fun J H1 G Y w m1 hG hY D hD => ?_
  have he1 := he.keepS m1
  have fr1 := hf.same m1
  refine dc_it w (fun n H' => Same H1 H' ∧ ∃ (vs : List (L2.Key × V)) (acc : List (L2.Key × E)), H' D = some (.dK vs) ∧ RpK (keepH (fun b => P b ∧ b ≠ D) H') vs acc ∧ dcE fk fv env i (l.take n) [] = some acc ∧ acc.length ≤ n ∧ (acc.map (·.1)).Nodup) ⟨same_new hD, [], [], upd_same, .nil, rfl, Nat.le_refl _, by simp⟩ (fun n H' _ q => hG H' q.1) ?_ ?_
  · rintro n x H2 H3 hn ⟨m2, vs, acc, hDa, hR, hL, hlen, nd⟩ hy
    have hlk : l[n]? = some l[n] := List.getElem?_eq_getElem hn
    obtain ⟨rfl, rx⟩ := hY n x H2 H3 _ m2 hy hlk
    obtain ⟨a1, kk, dd, f1, f2, f3, f4⟩ := dcE_split e3 hlk
    rw [hL] at f1
    cases f1
    have en : En (keepH (fun b => P b ∧ b ≠ D) H3) ((wipe σ [i]).set i (some x)) (env.set i (some l[n])) := by
      have q := ((he1.mono (keep_off hD m2)).wipe [i]).set (i := i) (rx.mono (keep_off hD m2))
      have z : ([i].foldr (fun v e => e.set v none) env).set i (some l[n]) = env.set i (some l[n]) := by
        show (env.set i none).set i (some l[n]) = _
        rw [List.set_set]
      rw [z] at q
      exact q
    have fr : Fr (fun b => P b ∧ b ≠ D) H3 := fun b hb => ⟨fr1.same m2 b hb, fun z => by rw [z, hDa] at hb; cases hb⟩
    obtain ⟨kd, g1, g2⟩ := Option.bind_eq_some_iff.mp f2
    refine ⟨?_, yes_t (hk _ _ H3 _ kd _ en fr g1 fun y H4 m4 r4 => hv _ _ H4 _ dd _ (en.keepS m4) (fr.same m4) f3 fun z H5 m5 r5 => ?_)⟩
    · show ((σ.set i none).set i (some x)).set i none = σ.set i none
      rw [List.set_set, List.set_set]
    · have lvs : vs.length = acc.length := by
        have := congrArg List.length hR.keys
        rwa [List.length_map, List.length_map] at this
      refine ⟨vs, kk, toK_rep g2 r4, m5 _ _ (m4 _ _ hDa), by rw [sizeLine_eq]; omega, fun q o e => ?_, _, _, upd_same, ((hR.mono (keep_same (m4.trans m5))).put r5).mono keep_updD, f4, ?_, putE_nd _ _ nd⟩
      · rw [upd_ne (ne_of_none e hD)]
        exact m5 _ _ (m4 _ _ (m2 _ _ e))
      · have := putE_len acc kk dd
        omega
  · rintro H' ⟨m2, vs, acc, hDa, hR, hL, hlen, nd⟩
    rw [List.take_of_length_le (Nat.le_refl _), e3] at hL
    cases hL
    obtain ⟨ev, rl⟩ := hR.lists
    refine k _ H' (m1.trans m2) (.map (vs := vs.map (·.2)) (by rw [keep_at (fr1 D hD), ← ev]; exact hDa) rl.length (by rw [List.length_map, List.length_map]) (by rw [List.length_map]; omega) nd fun j v d h1 h2 => ?_)
    exact (rl.get j v d h1 h2).within fun b o p _ => p.1
/-! tuple(x), list(x) -/
def rTupOf (K : PySem.W.Frag) : List V → Hp → VK → Prop := fun xs H Q => ∃ p ys, xs = [.ref p] ∧ ((SqL K H p ys ∧ ∀ l, H l = none → Q (.ref l) (upd H l (.tup ys))) ∨ (SqT K H p ys ∧ Q (.ref p) H))
theorem call_tupE {X : Cx} : CallR X (.type "tuple") (rTupOf X.K) := call_tuple_of
theorem pu_tupOf : PuC (rTupOf K) tupE := fun P xs H ds c Q r hf e k => by
  unfold tupE at e
  split at e
  · split at e
    · rename_i hz
      cases e
      cases r with
      | cons h t =>
        cases t
        cases h with
        | @lst a ys ds h hl _ hs =>
          refine ⟨_, ys, rfl, .inl ⟨SqL.of (keep_some h).2, fun l hl' => ?_⟩⟩
          have n := same_new (o := .tup ys) hl'
          exact k _ _ n (.tup (.inl <| by rw [keep_at (hf _ hl')]; exact upd_same) hl hz fun i v d h1 h2 => (hs i v d h1 h2).keepS n)
    · cases e
  · cases e
    cases r with
    | cons h t =>
      cases t
      cases h with
      | @tup a ys ds h hl hz hs => exact ⟨_, ys, rfl, .inr ⟨(TuA.sq h), k _ H (fun _ _ z => z) (.tup h hl hz hs)⟩⟩
  · cases e
def lstE : List E → Option E
  | [.lst l] => some (.lst l)
  | [.tup l] => some (.lst l)
  | _ => none
def rLstOf (K : PySem.W.Frag) : List V → Hp → VK → Prop := fun xs H Q => ∃ p ys, xs = [.ref p] ∧ (SqL K H p ys ∨ SqT K H p ys) ∧ ∀ l, H l = none → Q (.ref l) (upd H l (.lst ys))
theorem call_lstE {X : Cx} : CallR X (.type "list") (rLstOf X.K) := call_list_of
theorem pu_lstOf : PuC (rLstOf K) lstE := fun P xs H ds c Q r hf e k => by
  unfold lstE at e
  split at e
  · cases e
    cases r with
    | cons h t =>
      cases t
      cases h with
      | @lst a ys ds h hl hz hs =>
        refine ⟨_, ys, rfl, .inl (SqL.of (keep_some h).2), fun l hl' => ?_⟩
        have n := same_new (o := .lst ys) hl'
        exact k _ _ n (.lst (by rw [keep_at (hf _ hl')]; exact upd_same) hl hz fun i v d h1 h2 => (hs i v d h1 h2).keepS n)
  · cases e
    cases r with
    | cons h t =>
      cases t
      cases h with
      | @tup a ys ds h hl hz hs =>
        refine ⟨_, ys, rfl, .inr ((TuA.sq h)), fun l hl' => ?_⟩
        have n := same_new (o := .lst ys) hl'
        exact k _ _ n (.lst (by rw [keep_at (hf _ hl')]; exact upd_same) hl hz fun i v d h1 h2 => (hs i v d h1 h2).keepS n)
  · cases e
/-! slices -/
def cutE {α : Type} (xs : List α) (lo hi : Option Int) : List α := (xs.drop (HT.sIx xs.length 0 lo)).take (HT.sIx xs.length xs.length hi - HT.sIx xs.length 0 lo)
theorem cut_rp {H : Hp} {xs : List V} {ds : List E} {lo hi : Option Int} (hl : xs.length = ds.length) (hs : ∀ (i : Nat) (v : V) (d : E), xs[i]? = some v → ds[i]? = some d → Rp H v d) : (cutV xs lo hi).length = (cutE ds lo hi).length ∧ ∀ (i : Nat) (v : V) (d : E), (cutV xs lo hi)[i]? = some v → (cutE ds lo hi)[i]? = some d → Rp H v d := by
  unfold cutV cutE
  rw [hl]
  refine ⟨by rw [List.length_take, List.length_take, List.length_drop, List.length_drop, hl], fun i v d h1 h2 => ?_⟩
  rw [List.getElem?_take] at h1 h2
  split at h1
  · rename_i hi'
    rw [if_pos hi'] at h2
    rw [List.getElem?_drop] at h1 h2
    exact hs _ v d h1 h2
  · cases h1
theorem cutE_len {α : Type} (xs : List α) (lo hi : Option Int) : (cutE xs lo hi).length ≤ xs.length := by
  unfold cutE
  rw [List.length_take, List.length_drop]
  omega
def PuO (to : TO) (o : Option Int) : Prop := ∀ (σ : L2.St) (H : Hp) (Q : Option Int → Hp → Prop), Q o H → to σ H Q
theorem pu_noPart : PuO tNoPart none := fun σ H Q q => q
theorem pu_part (i : Int) : PuO (tPart (tC (.int i))) (some i) := fun σ H Q q => ⟨i, rfl, q⟩
theorem pu_slT {tl th : TO} {lo hi : Option Int} (ha : PuE ta fa) (hl : PuO tl lo) (hh : PuO th hi) : PuE (tSl (rSlT K) ta tl th) (fun env => (fa env).bind fun d => match d with | .tup l => if HT.sIx l.length 0 lo = 0 ∧ HT.sIx l.length l.length hi = l.length then none else some (.tup (cutE l lo hi)) | _ => none) := fun P σ H env c Q he hf e k => by
  obtain ⟨d, e1, e2⟩ := Option.bind_eq_some_iff.mp e
  cases d with
  | tup l =>
    have e3 : (if HT.sIx l.length 0 lo = 0 ∧ HT.sIx l.length l.length hi = l.length then none else some (E.tup (cutE l lo hi))) = some c := e2
    split at e3
    · cases e3
    · rename_i hn
      cases e3
      refine ha P σ H env _ _ he hf e1 fun v H1 m1 r1 => hl _ _ _ (hh _ _ _ ?_)
      cases r1 with
      | @tup a xs ds h hle hz hs =>
        refine ⟨a, xs, rfl, (TuA.sq h), by rw [hle]; exact hn, fun p hp => ?_⟩
        obtain ⟨c1, c2⟩ := cut_rp (lo := lo) (hi := hi) hle hs
        have n := same_new (o := .tup (cutV xs lo hi)) hp
        exact k _ _ (m1.trans n) (.tup (.inl <| by rw [keep_at (hf _ (same_none m1 hp))]; exact upd_same) c1 (Nat.le_trans (cutE_len _ _ _) hz) fun i v d h1 h2 => (c2 i v d h1 h2).keepS n)
  | _ => cases e2
theorem pu_slL {tl th : TO} {lo hi : Option Int} (ha : PuE ta fa) (hl : PuO tl lo) (hh : PuO th hi) : PuE (tSl (rSlL K) ta tl th) (fun env => (fa env).bind fun d => match d with | .lst l => some (.lst (cutE l lo hi)) | _ => none) := fun P σ H env c Q he hf e k => by
  obtain ⟨d, e1, e2⟩ := Option.bind_eq_some_iff.mp e
  cases d with
  | lst l =>
    cases e2
    refine ha P σ H env _ _ he hf e1 fun v H1 m1 r1 => hl _ _ _ (hh _ _ _ ?_)
    cases r1 with
    | @lst a xs ds h hle hz hs =>
      refine ⟨a, xs, rfl, SqL.of (keep_some h).2, fun p hp => ?_⟩
      obtain ⟨c1, c2⟩ := cut_rp (lo := lo) (hi := hi) hle hs
      have n := same_new (o := .lst (cutV xs lo hi)) hp
      exact k _ _ (m1.trans n) (.lst (by rw [keep_at (hf _ (same_none m1 hp))]; exact upd_same) c1 (Nat.le_trans (cutE_len _ _ _) hz) fun i v d h1 h2 => (c2 i v d h1 h2).keepS n)
  | _ => cases e2
/-! joins -/
theorem RpL.app {H : Hp} {vs ws : List V} {ds es : List E} (h : RpL H vs ds) (h' : RpL H ws es) : RpL H (vs ++ ws) (ds ++ es) := by
  induction h with
  | nil => exact h'
  | cons h t ih => exact .cons h ih
def catT : E → E → Option E
  | .tup [], _ => none
  | .tup (x :: l), .tup m => if (x :: l).length + m.length ≤ 900 then some (.tup (x :: l ++ m)) else none
  | _, _ => none
theorem pu_catT : PuR (rCatT K) catT := fun P x y H d e c Q rx ry hf h k => by
  unfold catT at h
  split at h
  · cases h
  · rename_i x0 l m
    split at h
    · rename_i hz
      cases h
      cases rx with
      | @tup a xs ds h1 hl1 hz1 hs1 =>
      cases ry with
      | @tup b ys es h2 hl2 hz2 hs2 =>
      refine ⟨a, b, xs, ys, rfl, rfl, (TuA.sq h1), (TuA.sq h2), (fun z => by rw [z] at hl1; cases hl1), by rw [hl1, hl2, sizeLine_eq]; omega, fun z => ?_, fun z p hp => ?_⟩
      · have : m = [] := by
          rw [z] at hl2
          exact List.eq_nil_of_length_eq_zero hl2.symm
        subst this
        rw [List.append_nil] at k
        exact k _ H (fun _ _ z => z) (.tup h1 hl1 hz1 hs1)
      · have n := same_new (o := .tup (xs ++ ys)) hp
        have r := ((RpL.of hl1 hs1).app (RpL.of hl2 hs2)).mono (keep_same n)
        exact k _ _ n (.tup (.inl <| by rw [keep_at (hf _ hp)]; exact upd_same) r.length (by rw [List.length_append]; exact hz) r.get)
    · cases h
  · cases h
def catL : E → E → Option E
  | .lst l, .lst m => if l.length + m.length ≤ 900 then some (.lst (l ++ m)) else none
  | _, _ => none
theorem pu_catL : PuR rCat catL := fun P x y H d e c Q rx ry hf h k => by
  unfold catL at h
  split at h
  · split at h
    · rename_i hz
      cases h
      cases rx with
      | @lst a xs ds h1 hl1 hz1 hs1 =>
      cases ry with
      | @lst b ys es h2 hl2 hz2 hs2 =>
      refine ⟨a, b, xs, ys, rfl, rfl, (keep_some h1).2, (keep_some h2).2, by rw [hl1, hl2, sizeLine_eq]; omega, fun p hp => ?_⟩
      have n := same_new (o := .lst (xs ++ ys)) hp
      have r := ((RpL.of hl1 hs1).app (RpL.of hl2 hs2)).mono (keep_same n)
      exact k _ _ n (.lst (by rw [keep_at (hf _ hp)]; exact upd_same) r.length (by rw [List.length_append]; exact hz) r.get)
    · cases h
  · cases h
/-! == of data -/
mutual
def toP : E → Option PyData
  | .non => some .none
  | .bl b => some (.bool b)
  | .int i => some (.int i)
  | .str x => some (.str x)
  | .tup l => (toPL l).map .tuple
  | .lst l => (toPL l).map .list
  | _ => none
def toPL : List E → Option (List PyData)
  | [] => some []
  | d :: l => (toP d).bind fun p => (toPL l).map (p :: ·)
end
theorem toPL_rep {H : Hp} (hP : ∀ (d : E) (v : V) (p : PyData), toP d = some p → Rp H v d → Dp K H v p) : ∀ {l : List E} {xs : List V} {ps : List PyData}, toPL l = some ps → RpL H xs l → DpAll K H xs ps
  | [], _, _, h, .nil => by cases h; exact .nil
  | d :: l, _, _, h, .cons h1 t => by
    obtain ⟨p, e1, e2⟩ := Option.bind_eq_some_iff.mp h
    obtain ⟨ps, e3, rfl⟩ := Option.map_eq_some_iff.mp e2
    exact .cons (hP d _ p e1 h1) (toPL_rep hP e3 t)
theorem Rp.dp {H : Hp} {v : V} {d : E} (r : Rp H v d) : ∀ {p : PyData}, toP d = some p → Dp K H v p := by
  induction r with
  | non => intro p h; cases h; exact .non
  | bl b => intro p h; cases h; exact .bl b
  | int i => intro p h; cases h; exact .int i
  | str x hx => intro p h; cases h; exact .str x
  | @tup a xs ds h hl hz hs ih =>
    intro p e
    obtain ⟨ps, e1, rfl⟩ := Option.map_eq_some_iff.mp e
    refine .tup h.sq0 ?_
    clear e
    have go : ∀ {l : List E} {ys : List V} {ps : List PyData}, toPL l = some ps → ys.length = l.length → (∀ (i : Nat) (v : V) (d : E), ys[i]? = some v → l[i]? = some d → ∀ {p : PyData}, toP d = some p → Dp K H v p) → DpAll K H ys ps := by
      intro l
      induction l with
      | nil =>
        intro ys ps h hl _
        cases h
        cases ys with
        | nil => exact .nil
        | cons y ys => cases hl
      | cons d l ihl =>
        intro ys ps h hl hh
        obtain ⟨p, e1, e2⟩ := Option.bind_eq_some_iff.mp h
        obtain ⟨ps', e3, rfl⟩ := Option.map_eq_some_iff.mp e2
        cases ys with
        | nil => cases hl
        | cons y ys => exact .cons (hh 0 y d rfl rfl e1) (ihl e3 (Nat.succ.inj hl) fun i v d h1 h2 => hh (i + 1) v d h1 h2)
    exact go e1 hl ih
  | @lst a xs ds h hl hz hs ih =>
    intro p e
    obtain ⟨ps, e1, rfl⟩ := Option.map_eq_some_iff.mp e
    refine .lst (SqL.of h) ?_
    clear e
    have go : ∀ {l : List E} {ys : List V} {ps : List PyData}, toPL l = some ps → ys.length = l.length → (∀ (i : Nat) (v : V) (d : E), ys[i]? = some v → l[i]? = some d → ∀ {p : PyData}, toP d = some p → Dp K H v p) → DpAll K H ys ps := by
      intro l
      induction l with
      | nil =>
        intro ys ps h hl _
        cases h
        cases ys with
        | nil => exact .nil
        | cons y ys => cases hl
      | cons d l ihl =>
        intro ys ps h hl hh
        obtain ⟨p, e1, e2⟩ := Option.bind_eq_some_iff.mp h
        obtain ⟨ps', e3, rfl⟩ := Option.map_eq_some_iff.mp e2
        cases ys with
        | nil => cases hl
        | cons y ys => exact .cons (hh 0 y d rfl rfl e1) (ihl e3 (Nat.succ.inj hl) fun i v d h1 h2 => hh (i + 1) v d h1 h2)
    exact go e1 hl ih
  | map h hv hk hz nd hs ih => intro p e; cases e
  | ins h hv hk hz hs ih => intro p e; cases e
def eqP (neg : Bool) (d e : E) : Option E := (toP d).bind fun p => (toP e).bind fun q => if (SeqAt.shaped p && SeqAt.shaped q) = true then some (.bl (if neg then !PyData.eqv p q else PyData.eqv p q)) else none
theorem pu_eqP : PuR (rEqD K) (eqP false) := fun P x y H d e c Q rx ry hf h k => by
  obtain ⟨p, e1, h⟩ := Option.bind_eq_some_iff.mp h
  obtain ⟨q, e2, h⟩ := Option.bind_eq_some_iff.mp h
  split at h
  · rename_i hs
    cases h
    obtain ⟨s1, s2⟩ := Bool.and_eq_true_iff.mp hs
    exact ⟨p, q, rx.ofKeep.dp e1, ry.ofKeep.dp e2, s1, s2, k _ H (fun _ _ z => z) (.bl _)⟩
  · cases h
theorem pu_neP : PuR (rNeD K) (eqP true) := fun P x y H d e c Q rx ry hf h k => by
  obtain ⟨p, e1, h⟩ := Option.bind_eq_some_iff.mp h
  obtain ⟨q, e2, h⟩ := Option.bind_eq_some_iff.mp h
  split at h
  · rename_i hs
    cases h
    obtain ⟨s1, s2⟩ := Bool.and_eq_true_iff.mp hs
    exact ⟨p, q, rx.ofKeep.dp e1, ry.ofKeep.dp e2, s1, s2, k _ H (fun _ _ z => z) (.bl _)⟩
  · cases h
end
end ET

/-! the rules with the written part by name; a def's promise from its reading -/
namespace ET
open PySem L2 XR VT
variable [KC]
section
variable {X : Cx} {K : PySem.W.Frag} [KcOk K]
theorem call_isiK (h : X.K = K) : CallR X (.builtin "isinstance") (rIsi K) := by subst h; exact call_isi
theorem call_lenK (h : X.K = K) : CallR X (.builtin "len") (rLenE K) := by subst h; exact call_lenE
theorem cr_allK (h : X.K = K) (hc : X.calm = true) : CallR X (.builtin "all") (rAll K) := by subst h; exact cr_all hc
theorem cr_anyK (h : X.K = K) (hc : X.calm = true) : CallR X (.builtin "any") (rAny K) := by subst h; exact cr_any hc
theorem call_tupK (h : X.K = K) : CallR X (.type "tuple") (rTupOf K) := by subst h; exact call_tupE
theorem call_lstK (h : X.K = K) : CallR X (.type "list") (rLstOf K) := by subst h; exact call_lstE
theorem ix_tupK (h : X.K = K) : IxR X (rIxT K) := by subst h; exact ix_tup
theorem ix_lstK (h : X.K = K) : IxR X (rIxL K) := by subst h; exact ix_list
theorem op_inK (h : X.K = K) : OpR X (compareOp .In) (rIn K false) := by subst h; exact op_in_seq
theorem op_ninK (h : X.K = K) : OpR X (compareOp .NotIn) (rIn K true) := by subst h; exact op_notIn_seq
theorem sl_tupK (h : X.K = K) : SlR X (rSlT K) := by subst h; exact sl_tup
theorem sl_lstK (h : X.K = K) : SlR X (rSlL K) := by subst h; exact sl_list
theorem op_catTK (h : X.K = K) : OpR X (binaryOp .Add) (rCatT K) := by subst h; exact op_catT
theorem op_eqPK (h : X.K = K) (hu : X.A.units + 64 < cLine) : OpR X (compareOp .Eq) (rEqD K) := by subst h; exact op_eqD hu
theorem op_nePK (h : X.K = K) (hu : X.A.units + 64 < cLine) : OpR X (compareOp .NotEq) (rNeD K) := by subst h; exact op_neD hu
theorem pi_tupK {tg e : Expr} {te : TE} (h : X.K = K) (he : PE X e te) : PI X tg e (iTup K te) := by subst h; exact pi_tup he
theorem pi_lstK {tg e : Expr} {te : TE} (h : X.K = K) (he : PE X e te) : PI X tg e (iList K te) := by subst h; exact pi_list he
def rIsNo : R2 := fun x y H Q => y = .non ∧ Q (.bl (decide (x = .non))) H
def rNotNo : R2 := fun x y H Q => y = .non ∧ Q (.bl (!decide (x = .non))) H
theorem op_isNo : OpR X (compareOp .Is) rIsNo := op_isN
theorem op_notNo : OpR X (compareOp .IsNot) rNotNo := op_notN
theorem pu_isNo : PuR rIsNo isNo := pu_isN
theorem pu_notNo : PuR rNotNo notNo := pu_notN
end
theorem pu_lcV {wi : TI} {fi : FA} {tt : TT} {ft : FT} {te : TE} {fe : FE} {i : Nat} {vs : List Nat} (hv : vs = [i]) (hi : PuI wi fi) (ht : PuT tt ft) (hE : PuE te fe) : PuE (tLc wi (gName i) tt te vs) (fun env => (fi env).bind fun l => (lcE ft fe env i l).map .lst) := by
  subst hv
  exact pu_lc hi ht hE
theorem pu_dcV {wi : TI} {fi : FA} {tk tv : TE} {fk fv : FE} {i : Nat} {vs : List Nat} (hv : vs = [i]) (hi : PuI wi fi) (hk : PuE tk fk) (hv' : PuE tv fv) : PuE (tDc wi (gName i) tYes tk tv vs) (fun env => (fi env).bind fun l => (dcE fk fv env i l []).map fun kvs => .map (kvs.map (·.1)) (kvs.map (·.2))) := by
  subst hv
  exact pu_dc hi hk hv'
def env0 (N : List Str) (ds : List E) : List (Option E) := ds.map some ++ List.replicate (N.length - ds.length) none
theorem en_start {H : Hp} {N : List Str} {vs : List V} {ds : List E} (r : RpL H vs ds) : En H (L2.start N vs) (env0 N ds) := by
  have hl := r.length
  refine ⟨?_, fun i d e => ?_⟩
  · show (vs.map some ++ List.replicate (N.length - vs.length) none).length = _
    unfold env0
    simp [hl]
  · unfold env0 at e
    by_cases hi : i < ds.length
    · rw [List.getElem?_append_left (by rw [List.length_map]; exact hi), List.getElem?_map] at e
      obtain ⟨d', e1, e2⟩ := Option.map_eq_some_iff.mp e
      cases e2
      have hv : i < vs.length := by omega
      refine ⟨vs[i], ?_, r.get i _ _ (List.getElem?_eq_getElem hv) e1⟩
      show (vs.map some ++ List.replicate (N.length - vs.length) none)[i]? = _
      rw [List.getElem?_append_left (by rw [List.length_map]; exact hv), List.getElem?_map, List.getElem?_eq_getElem hv]
      rfl
    · rw [List.getElem?_append_right (by rw [List.length_map]; omega), List.getElem?_replicate] at e
      split at e
      · cases e
      · cases e
theorem pu_def {t : TS} {f : FS} {F : List E → Option E} {N : List Str} {vs : List V} {H : Hp} {Q : VK} {E0 : XK} (pu : PuS t f) (hF : ∀ ds d, F ds = some d → f (env0 N ds) = some (.inl d)) (h : spP F vs H Q E0) : t { nx := fun _ H' => Q .non H', rt := Q } (L2.start N vs) H := by
  obtain ⟨P, ds, d, r, fr, e, k⟩ := h
  exact (pu P _ H (env0 N ds) { nx := fun _ H' => Q .non H', rt := Q } (en_start r) fr).1 d (hF ds d e) k
theorem spP_len {F : List E → Option E} {n : Nat} (hF : ∀ ds d, F ds = some d → ds.length = n) {vs : List V} {H : Hp} {Q : VK} {E0 : XK} (h : spP F vs H Q E0) : vs.length = n := by
  obtain ⟨P, ds, d, r, fr, e, k⟩ := h
  rw [r.length]
  exact hF ds d e
end ET

/-! t == (), t != () of any tuple -/
namespace ET
open PySem PySem.Spec PyProof.Rows L2 XR VT
variable [KC]
section
variable {X : Cx} {K : PySem.W.Frag} [KcOk K]
def rEqNilT (K : PySem.W.Frag) : R2 := fun x y H Q => ∃ (a b : Addr) (xs : List V), x = .ref a ∧ y = .ref b ∧ SqT K H a xs ∧ SqT K H b [] ∧ Q (.bl xs.isEmpty) H
def rNeNilT (K : PySem.W.Frag) : R2 := fun x y H Q => ∃ (a b : Addr) (xs : List V), x = .ref a ∧ y = .ref b ∧ SqT K H a xs ∧ SqT K H b [] ∧ Q (.bl (!xs.isEmpty)) H
theorem op_eqNilT (h : X.K = K) (hu : X.A.units < cLine) : OpR X (compareOp .Eq) (rEqNilT K) := by
  subst h
  intro pins s σ H x y v u Q I rx ry h
  obtain ⟨a, b, xs, rfl, rfl, ha, hb, q⟩ := h
  obtain rfl : v = Value.ref a := rx
  obtain rfl : u = Value.ref b := ry
  obtain ⟨its, r1, l1, _⟩ := I.tuple ha
  obtain ⟨its2, r2, l2, _⟩ := I.tuple hb
  cases r2
  have len := r1.length
  show wpAny (model X.prog X.w) X.A (richCompare .Eq (.ref a) (.ref b)) (EP X pins σ Q) X.xe s
  refine PySem.SeqAt.RcAt.tuples (e := fun _ => true) l1 l2 hu (fun j h1 h2 => absurd h2 (Nat.not_lt_zero _)) X.prog X.w X.xe _ ?_
  cases xs with
  | nil =>
    cases r1
    exact ⟨.bl true, H, I, rfl, q⟩
  | cons x xs =>
    cases r1
    exact ⟨.bl false, H, I, by first | rfl | simp, q⟩
theorem op_neNilT (h : X.K = K) (hu : X.A.units < cLine) : OpR X (compareOp .NotEq) (rNeNilT K) := by
  subst h
  intro pins s σ H x y v u Q I rx ry h
  obtain ⟨a, b, xs, rfl, rfl, ha, hb, q⟩ := h
  obtain rfl : v = Value.ref a := rx
  obtain rfl : u = Value.ref b := ry
  obtain ⟨its, r1, l1, _⟩ := I.tuple ha
  obtain ⟨its2, r2, l2, _⟩ := I.tuple hb
  cases r2
  have len := r1.length
  show wpAny (model X.prog X.w) X.A (richCompare .NotEq (.ref a) (.ref b)) (EP X pins σ Q) X.xe s
  refine PySem.SeqAt.RcNeAt.tuples (e := fun _ => true) l1 l2 hu (fun j h1 h2 => absurd h2 (Nat.not_lt_zero _)) X.prog X.w X.xe _ ?_
  cases xs with
  | nil =>
    cases r1
    exact ⟨.bl false, H, I, rfl, q⟩
  | cons x xs =>
    cases r1
    exact ⟨.bl true, H, I, by first | rfl | simp, q⟩
def eqNilT : E → E → Option E
  | .tup l, .tup [] => some (.bl l.isEmpty)
  | _, _ => none
def neNilT : E → E → Option E
  | .tup l, .tup [] => some (.bl (!l.isEmpty))
  | _, _ => none
theorem nil_emp {xs : List V} {l : List E} (h : xs.length = l.length) : xs.isEmpty = l.isEmpty := by
  cases xs <;> cases l <;> first | rfl | cases h
theorem pu_eqNilT : PuR (rEqNilT K) eqNilT := fun P x y H d e c Q rx ry hf h k => by
  unfold eqNilT at h
  split at h
  · cases h
    cases rx with
    | @tup a xs ds h1 hl1 hz1 hs1 =>
    cases ry with
    | @tup b ys es h2 hl2 hz2 hs2 =>
    have : ys = [] := List.eq_nil_of_length_eq_zero hl2
    subst this
    refine ⟨a, b, xs, rfl, rfl, (TuA.sq h1), (TuA.sq h2), ?_⟩
    rw [nil_emp hl1]
    exact k _ H (fun _ _ z => z) (.bl _)
  · cases h
theorem pu_neNilT : PuR (rNeNilT K) neNilT := fun P x y H d e c Q rx ry hf h k => by
  unfold neNilT at h
  split at h
  · cases h
    cases rx with
    | @tup a xs ds h1 hl1 hz1 hs1 =>
    cases ry with
    | @tup b ys es h2 hl2 hz2 hs2 =>
    have : ys = [] := List.eq_nil_of_length_eq_zero hl2
    subst this
    refine ⟨a, b, xs, rfl, rfl, (TuA.sq h1), (TuA.sq h2), ?_⟩
    rw [nil_emp hl1]
    exact k _ H (fun _ _ z => z) (.bl _)
  · cases h
end
end ET

/-! [e for a, b in zip(s, t)] of two tuples, its items True or False -/
namespace ET
open PySem L2 XR VT
variable [KC]
theorem walk_zipT {K : PySem.W.Frag} {a b : Addr} {xs ys : List V} {n : Nat} (hn : n = xs.length) (hm : n = ys.length) : Walk (RZ.ItzT K a b) n (fun H => SqT K H a xs ∧ SqT K H b ys) (YPair (fun i => xs[i]?) (fun i => ys[i]?)) := by
  refine ⟨fun i _ hi q => ?_, fun _ q => ⟨xs, ys, q.1, q.2, by omega⟩, fun i H v H' _ q y => ?_⟩
  · have h1 : i < xs.length := by omega
    have h2 : i < ys.length := by omega
    exact ⟨xs, ys, xs[i], ys[i], q.1, q.2, by simp [h1], by simp [h2]⟩
  · obtain ⟨T, x, z, h1, h2, h3, h4, h5⟩ := y
    exact ⟨T, x, z, h1, h2, h3, h4 xs q.1, h5 ys q.2⟩
def lcZ (fe : FE) (env : List (Option E)) (i j : Nat) : List E → List E → Option (List Bool)
  | x :: l, y :: m => ((fe ((env.set i (some x)).set j (some y))).bind toB).bind fun b => (lcZ fe env i j l m).map (b :: ·)
  | [], [] => some []
  | _, _ => none
theorem lcZ_get {fe : FE} {env : List (Option E)} {i j : Nat} : ∀ {l m : List E} {bs : List Bool}, lcZ fe env i j l m = some bs → l.length = bs.length ∧ m.length = bs.length ∧ ∀ (k : Nat) x y b, l[k]? = some x → m[k]? = some y → bs[k]? = some b → fe ((env.set i (some x)).set j (some y)) = some (.bl b)
  | [], [], bs, h => by cases h; exact ⟨rfl, rfl, fun k x y b h => nomatch h⟩
  | x :: l, y :: m, bs, h => by
    obtain ⟨b, e1, e2⟩ := Option.bind_eq_some_iff.mp h
    obtain ⟨d, e3, e4⟩ := Option.bind_eq_some_iff.mp e1
    obtain ⟨bs', e5, rfl⟩ := Option.map_eq_some_iff.mp e2
    cases toB_eq e4
    obtain ⟨h1, h2, h3⟩ := lcZ_get e5
    refine ⟨by rw [List.length_cons, List.length_cons, h1], by rw [List.length_cons, List.length_cons, h2], fun k a c b' g1 g2 g3 => ?_⟩
    cases k with
    | zero => cases g1; cases g2; cases g3; exact e3
    | succ k => exact h3 k a c b' g1 g2 g3
  | [], _ :: _, _, h => by cases h
  | _ :: _, [], _, h => by cases h
theorem wipe2 {σ : L2.St} {i j : Nat} {a b : Option V} (hij : i ≠ j) : wipe (((wipe σ [i, j]).set i a).set j b) [i, j] = wipe σ [i, j] := by
  show ((((((σ.set j none).set i none).set i a).set j b).set j none).set i none) = (σ.set j none).set i none
  rw [List.set_set, List.set_set, List.set_comm _ _ hij, List.set_set, List.set_set]
theorem En.set2 {H : Hp} {σ : L2.St} {env : List (Option E)} {i j : Nat} {v w : V} {d e : E} (h : En H σ env) (r : Rp H v d) (q : Rp H w e) : En H (((L2.wipe σ [i, j]).set i (some v)).set j (some w)) ((env.set i (some d)).set j (some e)) := by
  have z := ((h.wipe [i, j]).set (i := i) r).set (i := j) q
  have e1 : ((([i, j].foldr (fun v e => e.set v none) env).set i (some d)).set j (some e)) = (env.set i (some d)).set j (some e) := by
    show ((((env.set j none).set i none).set i (some d)).set j (some e)) = _
    rw [List.set_set]
    by_cases hij : i = j
    · subst hij
      rw [List.set_set, List.set_set, List.set_set]
    · rw [List.set_comm _ _ (Ne.symm hij), List.set_set]
  rw [e1] at z
  exact z
theorem pu_lcZ {K : PySem.W.Frag} [KcOk K] {ta tb te : TE} {fa fb fe : FE} {i j : Nat} {vs : List Nat} (hv : vs = [i, j]) (hij : i ≠ j) (ha : PuE ta fa) (hb : PuE tb fb) (hE : PuE te fe) : PuE (tLc (RZ.iZipA K (tCons ta (tCons tb tNil))) (gTup K 2 (gCons (gName i) (gCons (gName j) gNil))) tYes te vs)
    (fun env => (fa env).bind fun d => (fb env).bind fun e => match d, e with | .tup l, .tup m => (lcZ fe env i j l m).map fun bs => .lst (bs.map .bl) | _, _ => none) := fun P σ H env d Q he hf e k => by
  subst hv
  obtain ⟨d1, e1, e⟩ := Option.bind_eq_some_iff.mp e
  obtain ⟨d2, e2, e⟩ := Option.bind_eq_some_iff.mp e
  split at e
  case h_2 => cases e
  rename_i l m _
  obtain ⟨bs, e3, rfl⟩ := Option.map_eq_some_iff.mp e
  obtain ⟨l1, l2, l3⟩ := lcZ_get e3
  refine ha P σ H env _ _ he hf e1 fun v H1 m1 r1 => hb P σ H1 env _ _ (he.keepS m1) (hf.same m1) e2 fun u H2 m2 r2 => ?_
  have r1 := r1.keepS m2
  cases r1 with
  | @tup a xs _ h1 hl1 hz1 hs1 =>
  cases r2 with
  | @tup b ys _ h2 hl2 hz2 hs2 =>
  have m12 := m1.trans m2
  have g1 : SqT K H2 a xs := TuA.sq h1
  have g2 : SqT K H2 b ys := TuA.sq h2
  refine ⟨a, b, xs, ys, rfl, .inr ⟨g1, g2, fun D hD => ?_⟩⟩
  have hf2 := hf.same m12
  refine lc_pure (walk_zipT (xs := xs) (ys := ys) rfl (by omega)) hD (bs.map V.bl) (by rw [List.length_map]; omega) (small1000 (by omega)) (fun H' m => ⟨TuA.sq (h1.mono (keep_same m)), TuA.sq (h2.mono (keep_same m))⟩) (fun n x H3 H4 y hy m3 hY N hN => ?_) mono_pair (fun H' m3 f => ?_)
  · obtain ⟨T0, x1, y1, rfl, hT, rfl, q1, q2⟩ := hY
    have q1 : xs[n]? = some x1 := q1
    have q2 : ys[n]? = some y1 := q2
    have hT2 : H2 T0 = none := same_none m3 hT
    have mT := same_new (o := .tup [x1, y1]) hT
    refine ⟨T0, _, rfl, SqT.of upd_same, rfl, _, _, rfl, _, _, rfl, rfl, wipe2 hij, ?_⟩
    rw [List.getElem?_map] at hy
    obtain ⟨b', hb', rfl⟩ := Option.map_eq_some_iff.mp hy
    have n1 : n < l.length := by
      have := (List.getElem?_eq_some_iff.mp hb').1
      omega
    have n2 : n < m.length := by omega
    have f := l3 n l[n] m[n] b' (List.getElem?_eq_getElem n1) (List.getElem?_eq_getElem n2) hb'
    refine hE P _ _ _ (.bl b') _ (((he.keepS m12).keepS (m3.trans mT)).set2 ((hs1 n x1 _ q1 (List.getElem?_eq_getElem n1)).keepS (m3.trans mT)) ((hs2 n y1 _ q2 (List.getElem?_eq_getElem n2)).keepS (m3.trans mT))) ((hf2.same m3).same mT) f fun z H5 m5 r5 => ?_
    cases r5
    exact hN H5 (mT.trans m5)
  · refine k _ H' (m12.trans m3) (.lst (by rw [keep_at (hf2 D hD)]; exact f) (by rw [List.length_map, List.length_map]) (by rw [List.length_map]; omega) fun n v d h1 h2 => ?_)
    rw [List.getElem?_map] at h1 h2
    obtain ⟨b1, z1, rfl⟩ := Option.map_eq_some_iff.mp h1
    obtain ⟨b2, z2, rfl⟩ := Option.map_eq_some_iff.mp h2
    rw [z1] at z2
    cases z2
    exact .bl _
theorem pi_zipAK {X : Cx} {K : PySem.W.Frag} {e e2 : Expr} {ta : TA} {p pos tpos : Pos} {elts : List Expr} {kk : Nat} (hK : X.K = K) (hg : Gl X "zip") (hm : X.mg "zip" = none) (ha : PA X [e, e2] ta)
    (hs : starEach [e, e2] X.env = (false, eval e X.env) :: starEach [e2] X.env := by rfl) (hpl : (backTo pos (starEach [e2] X.env)).any (·.1) = false := by rfl) :
    PI X (.Tuple elts kk tpos) (.Call (.Name "zip" p) [e, e2] [] pos) (RZ.iZipA K ta) := by subst hK; exact RZ.pi_zipA hg hm ha hs hpl
end ET

/-! attributes and methods of instances; == and != by an own __eq__ -/
namespace ET
open PySem L2 XR VT
variable [KC]
def getF (ns : List Str) (ds : List E) (f : Str) : Option E := (ns.zip ds).lookup f
theorem lookup_rp {H : Hp} : ∀ {ns : List Str} {vs : List V} {ds : List E} {f : Str} {d : E}, vs.length = ds.length → (∀ (i : Nat) (v : V) (d : E), vs[i]? = some v → ds[i]? = some d → Rp H v d) → (ns.zip ds).lookup f = some d → ∃ v, (ns.zip vs).lookup f = some v ∧ Rp H v d
  | n :: ns, v :: vs, e :: ds, f, d, hl, hs, h => by
    have h' : (match f == n with | true => some e | false => (ns.zip ds).lookup f) = some d := h
    show ∃ u, (match f == n with | true => some v | false => (ns.zip vs).lookup f) = some u ∧ _
    cases hb : f == n with
    | true =>
      rw [hb] at h'
      cases h'
      exact ⟨v, rfl, hs 0 v e rfl rfl⟩
    | false =>
      rw [hb] at h'
      exact lookup_rp (Nat.succ.inj hl) (fun i v d h1 h2 => hs (i + 1) v d h1 h2) h'
  | [], _, _, f, d, _, _, h => by cases h
  | n :: ns, [], [], f, d, _, _, h => by cases h
  | n :: ns, _ :: _, [], f, d, hl, _, _ => by cases hl
  | n :: ns, [], _ :: _, f, d, hl, _, _ => by cases hl
theorem lookup_none : ∀ {ns : List Str} {vs : List V} {f : Str}, f ∉ ns → (ns.zip vs).lookup f = none
  | [], _, _, _ => rfl
  | n :: ns, [], f, _ => rfl
  | n :: ns, v :: vs, f, h => by
    show (match f == n with | true => some v | false => (ns.zip vs).lookup f) = none
    have hb : (f == n) = false := beq_eq_false_iff_ne.mpr fun z => h (by rw [z]; exact List.mem_cons_self)
    rw [hb]
    exact lookup_none fun z => h (List.mem_cons_of_mem _ z)
def fldE (C : Addr) (f : Str) : E → Option E
  | .ins C' ns ds => if C' = C then getF ns ds f else none
  | _ => none
section
variable {K : PySem.W.Frag} [KcOk K] {C : Addr} {CS : List Addr} {ta : TE} {fa : FE} {f m : Str} {X : Cx}
theorem pu_fld (cK : Cls K C) (nA : NoAttr K C f) (ha : PuE ta fa) : PuE (tFld K ta f) (fun env => (fa env).bind (fldE C f)) := fun P σ H env c Q he hf e k => by
  obtain ⟨d, e1, e2⟩ := Option.bind_eq_some_iff.mp e
  refine ha P σ H env d _ he hf e1 fun v H1 m1 r1 => ?_
  unfold fldE at e2
  split at e2
  case h_2 => cases e2
  split at e2
  case isFalse => cases e2
  rename_i hc
  subst hc
  cases r1 with
  | @ins a dx _ vs ns ds h hv hk hz hs =>
  obtain ⟨u, h1, h2⟩ := lookup_rp hv hs e2
  exact ⟨a, _, dx, _, u, rfl, (keep_some h).2, cK, nA, h1, k u H1 m1 h2⟩
def mthE (C : Addr) (m : Str) (F : List E → Option E) : E → Option E
  | .ins C' ns ds => if C' = C ∧ m ∉ ns then F [.ins C' ns ds] else none
  | _ => none
theorem pu_meth {F : List E → Option E} {E0 : XK} (ha : PuE ta fa) : PuE (tMeth C m (spP F) [] E0 ta tNil) (fun env => (fa env).bind (mthE C m F)) := fun P σ H env c Q he hf e k => by
  obtain ⟨d, e1, e2⟩ := Option.bind_eq_some_iff.mp e
  refine ha P σ H env d _ he hf e1 fun v H1 m1 r1 => ?_
  unfold mthE at e2
  split at e2
  case h_2 => cases e2
  split at e2
  case isFalse => cases e2
  rename_i hc
  obtain ⟨rfl, hm⟩ := hc
  cases r1 with
  | @ins a dx _ vs ns ds h hv hk hz hs =>
  exact ⟨a, dx, _, rfl, (keep_some h).2, lookup_none hm, P, _, c, .cons (.ins h hv hk hz hs) .nil, hf.same m1, e2, fun z H3 m3 r3 => k z H3 (m1.trans m3) r3⟩
def insOk (CS : List Addr) : E → Bool
  | .ins C _ _ => decide (C ∈ CS)
  | _ => true
def eqU (C : Addr) (CS : List Addr) (F : List E → Option E) (d e : E) : Option E := match d with
  | .ins C' ns ds => if C' = C ∧ insOk CS e = true then F [.ins C' ns ds, e] else none
  | _ => none
def neU (C : Addr) (CS : List Addr) (F : List E → Option E) (d e : E) : Option E := ((eqU C CS F d e).bind toB).map fun b => .bl (!b)
theorem nf_of (hn : ∀ t ∈ ["NoneType", "bool", "int", "str", "tuple", "dict", "list"], PySem.W.notFirst K C (.type t) = true) (hc : ∀ D ∈ CS, PySem.W.notFirst K C (.ref D) = true) {e : E} (h : insOk CS e = true) : PySem.W.notFirst K C (tyE e) = true := by
  cases e with
  | ins D ns ds => exact hc D (of_decide_eq_true h)
  | _ => exact hn _ (by simp [tyN])
theorem spP_mono {F : List E → Option E} (vs : List V) (H : Hp) (Q Q' : VK) (E0 : XK) (h : spP F vs H Q E0) (k : ∀ v H', Q v H' → Q' v H') : spP F vs H Q' E0 := by
  obtain ⟨P, ds, d, r, fr, e, z⟩ := h
  exact ⟨P, ds, d, r, fr, e, fun v H' m r => k v H' (z v H' m r)⟩
theorem pu_eqU {F : List E → Option E} (hC : ∀ C ∈ CS, CF K C) (hn : ∀ t ∈ ["NoneType", "bool", "int", "str", "tuple", "dict", "list"], PySem.W.notFirst K C (.type t) = true) (hc : ∀ D ∈ CS, PySem.W.notFirst K C (.ref D) = true) (hb : ∀ ds d, F ds = some d → ∃ b, d = .bl b) : PuR (rEqU K C (spP F)) (eqU C CS F) := fun P x y H d e c Q rx ry hf h k => by
  unfold eqU at h
  split at h
  case h_2 => cases h
  split at h
  case isFalse => cases h
  rename_i hq
  obtain ⟨rfl, hi⟩ := hq
  obtain ⟨b, rfl⟩ := hb _ _ h
  have ty : TyX K H y (tyE e) := ry.ofKeep.ty hC fun D ns ds z => by rw [z] at hi; exact of_decide_eq_true hi
  cases rx with
  | @ins a dx _ vs ns ds h' hv hk hz hs =>
  exact ⟨a, dx, _, _, rfl, (keep_some h').2, ty, nf_of hn hc hi, P, _, _, .cons (.ins h' hv hk hz hs) (.cons ry .nil), hf, h, fun v H' m r => by cases r; exact ⟨⟨b, rfl⟩, k _ H' m (.bl b)⟩⟩
theorem pu_neU {F : List E → Option E} (hC : ∀ C ∈ CS, CF K C) (hn : ∀ t ∈ ["NoneType", "bool", "int", "str", "tuple", "dict", "list"], PySem.W.notFirst K C (.type t) = true) (hc : ∀ D ∈ CS, PySem.W.notFirst K C (.ref D) = true) : PuR (rNeU K C (spP F)) (neU C CS F) := fun P x y H d e c Q rx ry hf h k => by
  obtain ⟨b, h0, rfl⟩ := Option.map_eq_some_iff.mp h
  clear h
  obtain ⟨c, h, hb⟩ := Option.bind_eq_some_iff.mp h0
  cases toB_eq hb
  unfold eqU at h
  split at h
  case h_2 => cases h
  split at h
  case isFalse => cases h
  rename_i hq
  obtain ⟨rfl, hi⟩ := hq
  have ty : TyX K H y (tyE e) := ry.ofKeep.ty hC fun D ns ds z => by rw [z] at hi; exact of_decide_eq_true hi
  cases rx with
  | @ins a dx _ vs ns ds h' hv hk hz hs =>
  exact ⟨a, dx, _, _, rfl, (keep_some h').2, ty, nf_of hn hc hi, P, _, _, .cons (.ins h' hv hk hz hs) (.cons ry .nil), hf, h, fun v H' m r => by cases r; exact ⟨b, rfl, k _ H' m (.bl _)⟩⟩
theorem pe_fldK {o : Expr} {pos : Pos} (h : X.K = K) (he : PE X o ta) (hb : attributeBase o f X.env (eval o X.env) = eval o X.env) : PE X (.Attribute o f pos) (tFld K ta f) := by subst h; exact pe_fld he hb
theorem op_eqUK {n : Nat} {g : Addr} {fd : FuncData} {ps : List Str} {sp : Sp} (h : X.K = K) (F : FnOk X.prog X.w K X.mg X.base CX0 n g fd ps sp) (hs : PySem.W.findIn K (.ref C) "__eq__" = some (some (.ref g))) (hf : PySem.W.isFn K (.ref g) = true) (hb : Binds K fd ps []) (hr : Room n X.A) : OpR X (compareOp .Eq) (rEqU K C sp) := by subst h; exact op_eqU F hs hf hb hr
theorem op_neUK {n : Nat} {g : Addr} {fd : FuncData} {ps : List Str} {F0 : List E → Option E} (h : X.K = K) (F : FnOk X.prog X.w K X.mg X.base CX0 n g fd ps (spP F0)) (hs : PySem.W.findIn K (.ref C) "__eq__" = some (some (.ref g))) (hf : PySem.W.isFn K (.ref g) = true) (hne : PySem.W.findIn K (.ref C) "__ne__" = some (some (.builtin "object.__ne__"))) (hm : PySem.W.subIn K (.ref C) (.type "object") = some true) (hb : Binds K fd ps []) (hr : Room (n + 1) X.A) : OpR X (compareOp .NotEq) (rNeU K C (spP F0)) := by subst h; exact op_neU F hs hf hne hm hb hr spP_mono
end
end ET

/-! text + text, list * number, for c in text -/
namespace ET
open PySem L2 XR VT
variable [KC]
def txT (x : Str) : Bool := PyData.strOk x && decide (x.length ≤ 2000000)
theorem txT_of {x : Str} (h : txT x = true) : TxOk x := ⟨(Bool.and_eq_true_iff.mp h).1, of_decide_eq_true (Bool.and_eq_true_iff.mp h).2⟩
def rAddS : R2 := fun x y H Q => ∃ i j, x = .str i ∧ y = .str j ∧ i.length + j.length ≤ sizeLine ∧ Q (.str (i ++ j)) H
def addS : E → E → Option E
  | .str i, .str j => if txT (i ++ j) = true ∧ i.length + j.length ≤ 900 then some (.str (i ++ j)) else none
  | _, _ => none
theorem pu_addS : PuR rAddS addS := fun P x y H d e c Q rx ry hf h k => by
  unfold addS at h
  split at h
  · split at h
    · rename_i hq
      cases h
      cases rx
      cases ry
      exact ⟨_, _, rfl, rfl, by rw [sizeLine_eq]; omega, k _ H (fun _ _ z => z) (.str _ (txT_of hq.1))⟩
    · cases h
  · cases h
def repE : E → E → Option E
  | .lst l, .int n => if 0 ≤ n ∧ n ≤ 900 ∧ l.length * n.toNat ≤ 900 then some (.lst (List.replicate n.toNat l).flatten) else none
  | _, _ => none
theorem flat_rpl {H : Hp} {vs : List V} {ds : List E} (r : RpL H vs ds) : ∀ n, RpL H (List.replicate n vs).flatten (List.replicate n ds).flatten
  | 0 => .nil
  | n + 1 => by
    rw [List.replicate_succ, List.replicate_succ, List.flatten_cons, List.flatten_cons]
    exact r.app (flat_rpl r n)
theorem pu_rep : PuR rRep repE := fun P x y H d e c Q rx ry hf h k => by
  unfold repE at h
  split at h
  · rename_i l0 n0
    split at h
    · rename_i hq
      cases h
      cases ry
      cases rx with
      | @lst a xs ds h1 hl hz hs =>
      have rr := flat_rpl (RpL.of hl hs) (Int.toNat n0)
      refine ⟨a, _, xs, rfl, rfl, (keep_some h1).2, by omega, by omega, by rw [hl, sizeLine_eq]; omega, fun p hp => ?_⟩
      have m := same_new (o := .lst (List.replicate (Int.toNat n0) xs).flatten) hp
      refine k _ _ m (.lst (by rw [keep_at (hf _ hp)]; exact upd_same) rr.length ?_ fun i v d g1 g2 => (rr.get i v d g1 g2).keepS m)
      have e : ∀ n, (List.replicate n l0).flatten.length = l0.length * n := fun n => by
        induction n with
        | zero => rfl
        | succ n ih => rw [List.replicate_succ, List.flatten_cons, List.length_append, ih, Nat.mul_succ]; omega
      rw [e]
      exact hq.2.2
    · cases h
  · cases h
def chrs (x : Str) : List E := x.cps.toList.map fun c => E.str ⟨#[c]⟩
def chrF (x : Str) : Option (List E) := if x.cps.size ≤ 900 ∧ (x.cps.toList.all fun c => txT ⟨#[c]⟩) = true then some (chrs x) else none
theorem pu_iStr {ta : TE} {fa : FE} (ha : PuE ta fa) : PuI (iStr ta) (fun env => (fa env).bind fun d => match d with | .str x => chrF x | _ => none) := fun P σ H env l R he hf e => by
  obtain ⟨d, e1, e2⟩ := Option.bind_eq_some_iff.mp e
  cases d with
  | str x =>
    have e3 : (if x.cps.size ≤ 900 ∧ (x.cps.toList.all fun c => txT ⟨#[c]⟩) = true then some (chrs x) else none) = some l := e2
    split at e3
    · rename_i hq
      cases e3
      have ll : (chrs x).length = x.cps.size := by
        unfold chrs
        rw [List.length_map, Array.length_toList]
      refine ⟨by rw [ll]; exact hq.1, fun k => ha P σ H env _ _ he hf e1 fun v H1 m1 r1 => ?_⟩
      cases r1
      refine ⟨x, rfl, k _ H1 (fun _ => True) _ (ll ▸ walk_str) m1 (fun _ _ => trivial) fun i v H2 H3 d m2 hy hd => ?_⟩
      obtain ⟨rfl, c, hc, rfl⟩ := hy
      refine ⟨rfl, ?_⟩
      unfold chrs at hd
      have hc' : x.cps.toList[i]? = some c := by rw [Array.getElem?_toList]; exact hc
      rw [List.getElem?_map, hc'] at hd
      cases hd
      exact .str _ (txT_of (List.all_eq_true.mp hq.2 c (List.mem_of_getElem? hc')))
    · cases e3
  | _ => cases e2
theorem cut_whole {α : Type} {xs : List α} {lo hi : Option Int} (h : HT.sIx xs.length 0 lo = 0 ∧ HT.sIx xs.length xs.length hi = xs.length) : cutE xs lo hi = xs := by
  unfold cutE
  rw [h.1, h.2, List.drop_zero, Nat.sub_zero, List.take_length]
theorem pu_slA {K : PySem.W.Frag} [KcOk K] {ta : TE} {fa : FE} {tl th : TO} {lo hi : Option Int} (ha : PuE ta fa) (hl : PuO tl lo) (hh : PuO th hi) : PuE (tSl (rSlA K) ta tl th) (fun env => (fa env).bind fun d => match d with | .tup l => some (.tup (cutE l lo hi)) | _ => none) := fun P σ H env c Q he hf e k => by
  obtain ⟨d, e1, e2⟩ := Option.bind_eq_some_iff.mp e
  cases d with
  | tup l =>
    cases e2
    refine ha P σ H env _ _ he hf e1 fun v H1 m1 r1 => hl _ _ _ (hh _ _ _ ?_)
    cases r1 with
    | @tup a xs ds h hle hz hs =>
      refine ⟨a, xs, rfl, (TuA.sq h), fun hw => ?_, fun _ p hp => ?_⟩
      · rw [hle] at hw
        refine k _ _ m1 ?_
        rw [cut_whole hw]
        exact .tup h hle hz hs
      · obtain ⟨c1, c2⟩ := cut_rp (lo := lo) (hi := hi) hle hs
        have n := same_new (o := .tup (cutV xs lo hi)) hp
        exact k _ _ (m1.trans n) (.tup (.inl <| by rw [keep_at (hf _ (same_none m1 hp))]; exact upd_same) c1 (Nat.le_trans (cutE_len _ _ _) hz) fun i v d h1 h2 => (c2 i v d h1 h2).keepS n)
  | _ => cases e2
theorem sl_tupAK {X : Cx} {K : PySem.W.Frag} (h : X.K = K) : SlR X (rSlA K) := by subst h; exact sl_tupA
end ET

namespace ET
open PySem L2 XR VT
variable [KC]
/-! steps of options, comprehensions of trees, dicts -/
theorem bnd {α β : Type} {o : Option α} {f : α → Option β} {b : β} (a : α) (h1 : o = some a) (h2 : f a = some b) : o.bind f = some b := by rw [h1]; exact h2
theorem mp {α β : Type} {o : Option α} {f : α → β} (a : α) (h1 : o = some a) : o.map f = some (f a) := by rw [h1]; rfl
theorem lcE_map {ft : FT} {fe : FE} {env : List (Option E)} {i : Nat} (g : E → E) : ∀ (l : List E), (∀ x, ft (env.set i (some x)) = some true) → (∀ x ∈ l, fe (env.set i (some x)) = some (g x)) → lcE ft fe env i l = some (l.map g)
  | [], _, _ => rfl
  | x :: l, h1, h2 => by
    rw [lcE, h1 x, Option.bind_some, if_pos rfl, h2 x List.mem_cons_self, Option.bind_some, lcE_map g l h1 fun y hy => h2 y (List.mem_cons_of_mem _ hy)]
    rfl
theorem bools_map (p : E → Bool) : ∀ l : List E, bools (l.map fun x => .bl (p x)) = some (l.map p)
  | [] => rfl
  | x :: l => by
    show (bools (l.map fun x => .bl (p x))).map (p x :: ·) = _
    rw [bools_map p l]
    rfl
theorem allE_map (p : E → Bool) (l : List E) : allE [.lst (l.map fun x => .bl (p x))] = some (.bl (l.all p)) := by
  show (bools (l.map fun x => .bl (p x))).map _ = _
  rw [bools_map, Option.map_some, List.all_map]
  rfl
theorem bT {c : Option Bool} {β : Type} {X Y : Option β} {y : β} (h : c = some true) (hx : X = some y) : (c.bind fun b => if b = true then X else Y) = some y := by rw [h]; exact hx
theorem bF {c : Option Bool} {β : Type} {X Y : Option β} {y : β} (h : c = some false) (hx : Y = some y) : (c.bind fun b => if b = true then X else Y) = some y := by rw [h]; exact hx
theorem ix0 (a : E) (r : List E) : ixT (.tup (a :: r)) (.int 0) = some a := by simp [ixT, atI, ixN]
theorem ix1 (a b : E) (r : List E) : ixT (.tup (a :: b :: r)) (.int 1) = some b := by
  have h : (1 : Int) < (r.length : Int) + 1 + 1 := by omega
  simp [ixT, atI, ixN, h]
def sx : E → Str
  | .str x => x
  | _ => ""
theorem mk_get {ks : List L2.Key} {vs : List V} {i : Nat} {k : L2.Key} {v : V} (h : (mk ks vs)[i]? = some (k, v)) : ks[i]? = some k ∧ vs[i]? = some v := List.getElem?_zip_eq_some.mp h
theorem mk_val : ∀ {ks : List L2.Key} {vs : List V} {i : Nat} {k : L2.Key} {v : V}, ks.Nodup → ks[i]? = some k → vs[i]? = some v → valV (mk ks vs) k = some v
  | k0 :: ks, v0 :: vs, 0, k, v, _, hk, hv => by
    cases hk; cases hv
    exact valV_pos rfl
  | k0 :: ks, v0 :: vs, i + 1, k, v, nd, hk, hv => by
    have hk' : ks[i]? = some k := hk
    have nd' := List.nodup_cons.mp nd
    have ne : ¬ k0 = k := fun z => nd'.1 (by rw [z]; exact List.mem_of_getElem? hk')
    show valV ((k0, v0) :: mk ks vs) k = some v
    rw [valV_neg ne]
    exact mk_val nd'.2 hk' hv
theorem valV_at {kvs : List (L2.Key × V)} (nd : (kvs.map (·.1)).Nodup) : ∀ {i : Nat} {k : L2.Key} {v : V}, kvs[i]? = some (k, v) → valV kvs k = some v := by
  induction kvs with
  | nil => intro i k v h; simp at h
  | cons p r ih =>
    intro i k v h
    obtain ⟨k0, v0⟩ := p
    rw [List.map_cons, List.nodup_cons] at nd
    cases i with
    | zero =>
      simp at h
      obtain ⟨rfl, rfl⟩ := h
      simp [valV]
    | succ i =>
      have h' : r[i]? = some (k, v) := by simpa using h
      have hm : k ∈ r.map (·.1) := List.mem_map.mpr ⟨(k, v), List.mem_of_getElem? h', rfl⟩
      have hne : ¬ k0 = k := fun z => nd.1 (z ▸ hm)
      have := ih nd.2 h'
      unfold valV at this ⊢
      rw [List.find?_cons_of_neg (by simpa using hne)]
      exact this
theorem nodup_at {α : Type} {l : List α} (hN : l.Nodup) {i j : Nat} {x : α} (a : l[i]? = some x) (b : l[j]? = some x) : i = j := by
  obtain ⟨h1, e1⟩ := List.getElem?_eq_some_iff.mp a
  obtain ⟨h2, e2⟩ := List.getElem?_eq_some_iff.mp b
  exact (List.getElem_inj hN).mp (e1.trans e2.symm)
theorem valV_take {kvs : List (L2.Key × V)} (nd : (kvs.map (·.1)).Nodup) {i : Nat} {k : L2.Key} {v : V} (h : kvs[i]? = some (k, v)) (g : L2.Key × V → L2.Key × V) (hg : ∀ p, (g p).1 = p.1) : valV ((kvs.take i).map g) k = none := by
  have hi : i < kvs.length := (List.getElem?_eq_some_iff.mp h).1
  unfold valV
  rw [Option.map_eq_none_iff, List.find?_eq_none]
  intro q hq z
  obtain ⟨p, hp, rfl⟩ := List.mem_map.mp hq
  have z' : p.1 = k := by
    rw [← hg p]
    simpa using z
  obtain ⟨j, hj⟩ := List.mem_iff_getElem?.mp hp
  have hj1 : j < i := by
    have := (List.getElem?_eq_some_iff.mp hj).1
    rw [List.length_take] at this
    omega
  rw [List.getElem?_take_of_lt hj1] at hj
  have e1 : (kvs.map (·.1))[j]? = some k := by rw [List.getElem?_map, hj]; exact congrArg some z'
  have e2 : (kvs.map (·.1))[i]? = some k := by rw [List.getElem?_map, h]; rfl
  have := nodup_at nd e1 e2
  omega
theorem tk_next {α : Type} {l : List α} {i : Nat} {x : α} (h : l[i]? = some x) : l.take (i + 1) = l.take i ++ [x] := by
  rw [List.take_succ, h]
  rfl
theorem valV_no {kvs : List (L2.Key × V)} {k : L2.Key} (h : k ∉ kvs.map (·.1)) : valV kvs k = none := by
  unfold valV
  rw [Option.map_eq_none_iff, List.find?_eq_none]
  intro q hq z
  have z' : q.1 = k := by simpa using z
  exact h (List.mem_map.mpr ⟨q, hq, z'⟩)
theorem mk_keys {ks : List L2.Key} {vs : List V} (h : ks.length = vs.length) : (mk ks vs).map (·.1) = ks := by
  show (ks.zip vs).map Prod.fst = ks
  exact List.map_fst_zip (by omega)
def txB (x : Str) : Bool := PyData.strOk x && decide (x.length ≤ 2000000)
theorem tx_of {x : Str} (h : txB x = true) : TxOk x := ⟨(Bool.and_eq_true_iff.mp h).1, of_decide_eq_true (Bool.and_eq_true_iff.mp h).2⟩
def keyB : L2.Key → Bool
  | .inr x => txB x
  | _ => false
def getE (ks : List L2.Key) (ds : List E) (k : L2.Key) : E := match (ks.zip ds).find? (fun p => decide (p.1 = k)) with
  | some p => p.2
  | none => .non
theorem get_ok : ∀ {ks : List L2.Key} {ds : List E} {k : L2.Key}, ks.length = ds.length → ks.Nodup → k ∈ ks → ∃ j : Nat, ks[j]? = some k ∧ ds[j]? = some (getE ks ds k)
  | k0 :: ks, d0 :: ds, k, hl, nd, hm => by
    by_cases e : k0 = k
    · refine ⟨0, by rw [e]; rfl, ?_⟩
      unfold getE
      rw [show (k0 :: ks).zip (d0 :: ds) = (k0, d0) :: ks.zip ds from rfl, List.find?_cons_of_pos (by simpa using e)]
      rfl
    · have hm' : k ∈ ks := by
        rcases List.mem_cons.mp hm with h | h
        · exact absurd h.symm e
        · exact h
      obtain ⟨j, h1, h2⟩ := get_ok (Nat.succ.inj hl) (List.nodup_cons.mp nd).2 hm'
      refine ⟨j + 1, h1, ?_⟩
      have : getE (k0 :: ks) (d0 :: ds) k = getE ks ds k := by
        unfold getE
        rw [show (k0 :: ks).zip (d0 :: ds) = (k0, d0) :: ks.zip ds from rfl, List.find?_cons_of_neg (by simpa using e)]
      rw [this]
      exact h2
  | [], _, k, _, _, hm => by cases hm
  | _ :: _, [], k, hl, _, _ => by cases hl
def hasK (ks : List L2.Key) (k : L2.Key) : Bool := ks.any fun q => decide (q = k)
theorem hasK_iff {ks : List L2.Key} {k : L2.Key} : hasK ks k = true ↔ k ∈ ks := by
  unfold hasK
  rw [List.any_eq_true]
  exact ⟨fun ⟨x, h1, h2⟩ => of_decide_eq_true h2 ▸ h1, fun h => ⟨k, h, decide_eq_true rfl⟩⟩
theorem lcZ_all {fe : FE} {env : List (Option E)} {i j : Nat} (q : E → E → Bool) : ∀ {l m : List E}, l.length = m.length → (∀ x y, x ∈ l → y ∈ m → fe ((env.set i (some x)).set j (some y)) = some (.bl (q x y))) → lcZ fe env i j l m = some ((l.zip m).map fun p => q p.1 p.2)
  | [], [], _, _ => rfl
  | x :: l, y :: m, hl, h => by
    rw [lcZ, h x y List.mem_cons_self List.mem_cons_self, Option.bind_some]
    show (some (q x y)).bind _ = _
    rw [Option.bind_some, lcZ_all q (Nat.succ.inj hl) fun a b ha hb => h a b (List.mem_cons_of_mem _ ha) (List.mem_cons_of_mem _ hb)]
    rfl
theorem lkd {G : Hp} {a b : Addr} {o : Obj} {k k' : List (L2.Key × V)} (h1 : G a = some (.dK k)) (h2 : G b = some (.dK k')) {H : Hp} (m : Same (upd G a (.frz o (.dK k))) H) : H b = some (.dK k') ∨ ∃ od, H b = some (.frz od (.dK k')) := by
  by_cases e : b = a
  · subst e
    rw [h1] at h2
    cases h2
    exact .inr ⟨o, m _ _ upd_same⟩
  · exact .inl (m _ _ (by rw [upd_ne e]; exact h2))
theorem flat_any {H H' : Hp} {v : V} {d : E} (r : Rp H v d) (h : flatE d = true) : Rp H' v d := by
  cases r with
  | non => exact .non
  | bl b => exact .bl b
  | int i => exact .int i
  | str x hx => exact .str x hx
  | _ => cases h
theorem cut1 (m : E) (r : List E) : cutE (m :: r) (some 1) none = r := by
  have h : HT.sIx (m :: r).length 0 (some 1) = 1 := by
    rw [show ((1 : Int)) = ((1 : Nat) : Int) from rfl, HT.sIx_nat, List.length_cons]
    omega
  unfold cutE
  rw [h, HT.sIx_none]
  simp
theorem lcE_filter {ft : FT} {fe : FE} {env : List (Option E)} {i : Nat} (p : E → Bool) (g : E → E) : ∀ (l : List E), (∀ x ∈ l, ft (env.set i (some x)) = some (p x)) → (∀ x ∈ l, p x = true → fe (env.set i (some x)) = some (g x)) → lcE ft fe env i l = some ((l.filter p).map g)
  | [], _, _ => rfl
  | x :: l, h1, h2 => by
    have ih := lcE_filter p g l (fun y hy => h1 y (List.mem_cons_of_mem _ hy)) (fun y hy => h2 y (List.mem_cons_of_mem _ hy))
    rw [lcE, h1 x List.mem_cons_self, Option.bind_some]
    cases hp : p x with
    | true => rw [if_pos rfl, h2 x List.mem_cons_self hp, Option.bind_some, ih, List.filter_cons_of_pos hp]; rfl
    | false => rw [if_neg (by decide), ih, List.filter_cons_of_neg (by rw [hp]; decide)]
section
variable {tt : TT} {ft : FT} {rest t u : TS} {D : Ends} {σ : L2.St} {H : Hp} {Pr : Addr → Prop} {env : List (Option E)} {b : Bool} {C : Addr} {fld part : Str} {W : WX}
theorem step_if (pu : PuT tt ft) (he : En (keepH Pr H) σ env) (hf : Fr Pr H) (e : ft env = some b) (hT : b = true → ∀ H1, Same H H1 → t { D with nx := rest D } σ H1) (hF : b = false → ∀ H1, Same H H1 → u { D with nx := rest D } σ H1) : tSeq (tIfS tt t u) rest D σ H := by
  refine pu Pr σ H env b _ he hf e fun H1 m1 => ?_
  cases b with
  | true => exact iteT (hT rfl H1 m1)
  | false => exact iteF (hF rfl H1 m1)
/-- if ..: raise C("part") -/
theorem step_raise (pu : PuT tt ft) (he : En (keepH Pr H) σ env) (hf : Fr Pr H) (e : ft env = some b)
    (hT : b = true → ∀ d H', Same H H' → H d = none → H' d = some (.xd [(fld, .str part)]) → W (.ref C) (some d) σ H') (hF : b = false → ∀ H1, Same H H1 → rest D σ H1) : tSeq (tIfS tt (tRaiseI C fld W (tC (.str part))) tNext) rest D σ H :=
  step_if pu he hf e (fun hb H1 m1 => raiseK fun d H' hd m2 hx => hT hb d H' (m1.trans m2) (by cases z : H d with | none => rfl | some o => rw [m1 _ _ z] at hd; cases hd) hx) hF
end
section
variable {ta : TA} {fl : FA} {rest : TS} {D : Ends} {σ : L2.St} {H : Hp} {Pr : Addr → Prop} {env : List (Option E)} {i j : Nat} {d d2 : E}
theorem step_par (pu : PuA ta fl) (he : En (keepH Pr H) σ env) (hf : Fr Pr H) (e : fl env = some [d, d2]) (hF : ∀ v w H1, Same H H1 → Rp (keepH Pr H1) v d → Rp (keepH Pr H1) w d2 → rest D ((σ.set i (some v)).set j (some w)) H1) : tSeq (tPar i j ta) rest D σ H := by
  refine pu Pr σ H env _ _ he hf e fun vs H1 m1 r => ?_
  cases r with
  | @cons v _ _ _ h1 t =>
  cases t with
  | @cons w _ _ _ h2 t =>
  cases t
  exact ⟨v, w, rfl, hF v w H1 m1 h1 h2⟩
end
theorem any_mem {l : List E} {y : Str} (h : E.str y ∈ l) : anyIn l (.str y) = true := List.any_eq_true.mpr ⟨_, h, by show (y == y) = true; exact beq_self_eq_true y⟩
theorem any_not {l : List E} {y : Str} (h : ∀ e ∈ l, ∃ z, e = .str z ∧ z ≠ y) : anyIn l (.str y) = false := by
  cases e : anyIn l (.str y) with
  | false => rfl
  | true =>
    obtain ⟨x, hx, hq⟩ := List.any_eq_true.mp e
    obtain ⟨z, rfl, hz⟩ := h x hx
    exact absurd (eq_of_beq (show (z == y) = true from hq)) hz
theorem and_l {a b : Bool} (h : a = false) : (a && b) = false := by rw [h]; rfl
theorem and_r {a b : Bool} (h : b = false) : (a && b) = false := by rw [h, Bool.and_false]
theorem itd {p q : Prop} {b : Bool} (ht : b = true → p) (hf : b = false → q) : if b = true then p else q := by
  cases b with
  | true => exact iteT (ht rfl)
  | false => exact iteF (hf rfl)
theorem rpS {x : Str} (h : TxOk x) : ∀ H : Hp, Rp H (.str x) (.str x) := fun _ => .str x h
theorem rpI {x : Int} : ∀ H : Hp, Rp H (.int x) (.int x) := fun _ => .int x
end ET

namespace ET
open PySem L2 XR VT
variable [KC]
/-! wells, readings that draw, lists that are being filled -/
theorem But.new {w p : Addr} {H : Hp} {o : HO} (h : H p = none) : But w H (L2.upd H p o) := fun b u e n => by rw [upd_ne (ne_of_none e h)]; exact e
structure Well (H : Hp) (w : Addr) (a b c : Int) : Prop where
  at_ : H w = some (.lst [.int a, .int b, .int c])
  b0 : 0 ≤ b
  b1 : b < 2147483647
  c0 : 0 ≤ c
  c1 : c ≤ 1000000000000000
def spWell : Sp := fun vs H Q _ => ∃ z : Int, vs = [.int z] ∧ ∀ (p : Addr) (a b : Int) (H' : Hp), Same H H' → H p = none → Well H' p a b 0 → Q (.ref p) H'
def spDraw : Sp := fun vs H Q _ => ∃ (w : Addr) (a b c m : Int), vs = [.ref w, .int m] ∧ Well H w a b c ∧ c < 1000000000000000 ∧ 0 < m ∧ m < 1000000 ∧
  ∀ (d a' c' : Int) (H' : Hp), 0 ≤ d → d < m → c' ≤ c + 1 → Well H' w a' b c' → But w H H' → Q (.int d) H'
def spOne (K : PySem.W.Frag) : Sp := fun vs H Q _ => ∃ (w l : Addr) (a b c : Int) (xs : List V), vs = [.ref w, .ref l] ∧ Well H w a b c ∧ c < 1000000000000000 ∧ H l = some (.lst xs) ∧ l ≠ w ∧ 0 < xs.length ∧ xs.length < 1000 ∧
  ∀ (v : V) (a' c' : Int) (H' : Hp), v ∈ xs → c' ≤ c + 1 → Well H' w a' b c' → But w H H' → Q v H'
structure Txt0 (mg : Str → Option Value) : Prop where
  int : mg "int" = none
  len : mg "len" = none
def Wl (H : Hp) (w : Addr) (n : Nat) : Prop := ∃ a b c, Well H w a b c ∧ c + n ≤ 1000000000000000
theorem Wl.same {H H' : Hp} {w : Addr} {n : Nat} (m : Same H H') (h : Wl H w n) : Wl H' w n := by
  obtain ⟨a, b, c, W, hc⟩ := h
  exact ⟨a, b, c, ⟨m _ _ W.at_, W.b0, W.b1, W.c0, W.c1⟩, hc⟩
theorem Wl.le {H : Hp} {w : Addr} {n n' : Nat} (h : Wl H w n') (l : n ≤ n') : Wl H w n := by
  obtain ⟨a, b, c, W, hc⟩ := h
  exact ⟨a, b, c, W, by omega⟩
theorem Wl.there {H : Hp} {w : Addr} {n : Nat} (h : Wl H w n) : ∃ o, H w = some o := by
  obtain ⟨a, b, c, W, hc⟩ := h
  exact ⟨_, W.at_⟩
theorem keepB {P : Addr → Prop} {H H' : Hp} {w : Addr} (nw : ¬ P w) (B : But w H H') : ∀ a o, keepH P H a = some o → keepH P H' a = some o := fun a o e => by
  obtain ⟨p, e'⟩ := keep_some e
  rw [keep_at p]
  exact B a o e' fun z => nw (z ▸ p)
theorem frB {P : Addr → Prop} {H H' : Hp} {w : Addr} {n : Nat} (fr : Fr P H) (B : But w H H') (W : Wl H' w n) : Fr P H' := fun b hb => by
  refine fr b ?_
  cases h : H b with
  | none => rfl
  | some o =>
    have nb : b ≠ w := fun z => by
      obtain ⟨o', ho⟩ := W.there
      rw [z, ho] at hb
      cases hb
    rw [B _ _ h nb] at hb
    cases hb
structure Nd (w : Addr) (i n : Nat) (P : Addr → Prop) (σ : L2.St) (H : Hp) (env : List (Option E)) : Prop where
  en : En (keepH P H) σ env
  fr : Fr P H
  nw : ¬ P w
  wl : Wl H w n
  at_ : σ[i]? = some (some (.ref w))
theorem Nd.next {w : Addr} {i n n' : Nat} {P : Addr → Prop} {σ : L2.St} {H H' : Hp} {env : List (Option E)} (h : Nd w i n P σ H env) (B : But w H H') (W : Wl H' w n') : Nd w i n' P σ H' env := ⟨h.en.mono (keepB h.nw B), frB h.fr B W, h.nw, W, h.at_⟩
theorem Nd.le {w : Addr} {i n n' : Nat} {P : Addr → Prop} {σ : L2.St} {H : Hp} {env : List (Option E)} (h : Nd w i n P σ H env) (l : n' ≤ n) : Nd w i n' P σ H env := ⟨h.en, h.fr, h.nw, h.wl.le l, h.at_⟩
theorem Nd.set {w : Addr} {i j n : Nat} {P : Addr → Prop} {σ : L2.St} {H : Hp} {env : List (Option E)} {v : V} {d : E} (h : Nd w i n P σ H env) (ij : j ≠ i) (r : Rp (keepH P H) v d) : Nd w i n P (σ.set j (some v)) H (env.set j (some d)) := ⟨h.en.set r, h.fr, h.nw, h.wl, by rw [List.getElem?_set_ne ij]; exact h.at_⟩
theorem Rp.but {P : Addr → Prop} {H H' : Hp} {w : Addr} {v : V} {d : E} (r : Rp (keepH P H) v d) (nw : ¬ P w) (B : But w H H') : Rp (keepH P H') v d := r.mono (keepB nw B)
theorem RpL.but {P : Addr → Prop} {H H' : Hp} {w : Addr} {v : List V} {d : List E} (r : RpL (keepH P H) v d) (nw : ¬ P w) (B : But w H H') : RpL (keepH P H') v d := r.mono (keepB nw B)
abbrev NE := List (Option E) → (E → Prop) → Prop
abbrev NT := List (Option E) → (Bool → Prop) → Prop
abbrev NA := List (Option E) → (List E → Prop) → Prop
def NdE (i q : Nat) (te : TE) (f : NE) : Prop := ∀ (w : Addr) (n : Nat) (P : Addr → Prop) (σ : L2.St) (H : Hp) (env : List (Option E)) (Q : VK) (Φ : E → Prop), Nd w i (n + q) P σ H env → f env Φ → (∀ v d H', But w H H' → Wl H' w n → Rp (keepH P H') v d → Φ d → Q v H') → te σ H Q
def NdT (i q : Nat) (tt : TT) (f : NT) : Prop := ∀ (w : Addr) (n : Nat) (P : Addr → Prop) (σ : L2.St) (H : Hp) (env : List (Option E)) (Q : Bool → Hp → Prop) (Φ : Bool → Prop), Nd w i (n + q) P σ H env → f env Φ → (∀ b H', But w H H' → Wl H' w n → Φ b → Q b H') → tt σ H Q
def NdA (i q : Nat) (ta : TA) (f : NA) : Prop := ∀ (w : Addr) (n : Nat) (P : Addr → Prop) (σ : L2.St) (H : Hp) (env : List (Option E)) (Q : List V → Hp → Prop) (Φ : List E → Prop), Nd w i (n + q) P σ H env → f env Φ → (∀ vs ds H', But w H H' → Wl H' w n → RpL (keepH P H') vs ds → Φ ds → Q vs H') → ta σ H Q
section
variable {i q q1 q2 q3 : Nat} {te ta tb : TE} {tt : TT} {tl : TA} {f fa fb : NE} {ft : NT} {fl : NA} {pe : FE} {pt : FT} {pa : FA}
theorem nd_pu (h : PuE te pe) : NdE i 0 te (fun env Φ => ∃ d, pe env = some d ∧ Φ d) := fun w n P σ H env Q Φ nd ⟨d, e, hd⟩ k => h P σ H env d Q nd.en nd.fr e fun v H' m r => k v d H' (But.of m) (nd.wl.same m) r hd
theorem nd_pt (h : PuT tt pt) : NdT i 0 tt (fun env Φ => ∃ d, pt env = some d ∧ Φ d) := fun w n P σ H env Q Φ nd ⟨d, e, hd⟩ k => h P σ H env d Q nd.en nd.fr e fun H' m => k d H' (But.of m) (nd.wl.same m) hd
theorem nd_pa (h : PuA tl pa) : NdA i 0 tl (fun env Φ => ∃ d, pa env = some d ∧ Φ d) := fun w n P σ H env Q Φ nd ⟨d, e, hd⟩ k => h P σ H env d Q nd.en nd.fr e fun v H' m r => k v d H' (But.of m) (nd.wl.same m) r hd
theorem nd_test (h : NdE i q te f) : NdT i q (tTest te) (fun env Φ => f env fun d => ∃ b, d = .bl b ∧ Φ b) := fun w n P σ H env Q Φ nd hf k => h w n P σ H env _ _ nd hf fun v d H' B W r hd => by
  obtain ⟨b, rfl, hb⟩ := hd
  cases r
  exact ⟨b, rfl, k b H' B W hb⟩
theorem nd_nil : NdA i 0 tNil (fun env Φ => Φ []) := fun w n P σ H env Q Φ nd hf k => k [] [] H (But.of fun _ _ z => z) nd.wl .nil hf
theorem nd_cons (ha : NdE i q1 ta fa) (hl : NdA i q2 tl fl) : NdA i (q1 + q2) (tCons ta tl) (fun env Φ => fa env fun d => fl env fun l => Φ (d :: l)) := fun w n P σ H env Q Φ nd hf k =>
  ha w (n + q2) P σ H env _ _ (nd.le (by omega)) hf fun v d H1 B1 W1 r1 h1 => hl w n P σ H1 env _ _ (nd.next B1 W1) h1 fun vs ds H2 B2 W2 r2 h2 => k _ _ H2 (B1.trans B2) W2 (.cons (r1.but nd.nw B2) r2) h2
theorem nd_op {r : R2} {fr : E → E → Option E} (ha : NdE i q1 ta fa) (hb : NdE i q2 tb fb) (hr : PuR r fr) : NdE i (q1 + q2) (tOp r ta tb) (fun env Φ => fa env fun d => fb env fun e => ∃ c, fr d e = some c ∧ Φ c) := fun w n P σ H env Q Φ nd hf k =>
  ha w (n + q2) P σ H env _ _ (nd.le (by omega)) hf fun v d H1 B1 W1 r1 h1 => hb w n P σ H1 env _ _ (nd.next B1 W1) h1 fun u e H2 B2 W2 r2 h2 => by
    obtain ⟨c, e1, hc⟩ := h2
    exact hr P v u H2 d e c Q (r1.but nd.nw B2) r2 (frB (frB nd.fr B1 W1) B2 W2) e1 fun z H3 m3 r3 => k z c H3 ((B1.trans B2).trans (But.of m3)) (W2.same m3) r3 hc
theorem nd_cb {r : List V → Hp → VK → Prop} {fr : List E → Option E} (hl : NdA i q tl fl) (hr : PuC r fr) : NdE i q (tCB r tl) (fun env Φ => fl env fun l => ∃ c, fr l = some c ∧ Φ c) := fun w n P σ H env Q Φ nd hf k =>
  hl w n P σ H env _ _ nd hf fun vs ds H1 B1 W1 r1 h1 => by
    obtain ⟨c, e1, hc⟩ := h1
    exact hr P vs H1 ds c Q r1 (frB nd.fr B1 W1) e1 fun z H3 m3 r3 => k z c H3 (B1.trans (But.of m3)) (W1.same m3) r3 hc
theorem nd_if (hx : NdT i q1 tt ft) (ha : NdE i q2 ta fa) (hb : NdE i q3 tb fb) : NdE i (q1 + (q2 + q3)) (tIf tt ta tb) (fun env Φ => ft env fun b => if b = true then fa env Φ else fb env Φ) := fun w n P σ H env Q Φ nd hf k =>
  hx w (n + (q2 + q3)) P σ H env _ _ (nd.le (by omega)) hf fun b H1 B1 W1 h1 => by
    cases b with
    | true => exact iteT (ha w (n + q3) P σ H1 env Q Φ (nd.next B1 (W1.le (by omega))) h1 fun v d H2 B2 W2 r2 h2 => k v d H2 (B1.trans B2) (W2.le (by omega)) r2 h2)
    | false => exact iteF (hb w (n + q2) P σ H1 env Q Φ (nd.next B1 (W1.le (by omega))) h1 fun v d H2 B2 W2 r2 h2 => k v d H2 (B1.trans B2) (W2.le (by omega)) r2 h2)
theorem nd_tup (hl : NdA i q tl fl) : NdE i q (tTup tl) (fun env Φ => fl env fun l => l.length ≤ 900 ∧ Φ (.tup l)) := fun w n P σ H env Q Φ nd hf k =>
  hl w n P σ H env _ _ nd hf fun vs ds H1 B1 W1 r1 h1 => by
    refine ⟨by rw [r1.length, sizeLine_eq]; omega, fun p hp => ?_⟩
    have m := same_new (o := .tup vs) hp
    exact k _ _ _ (B1.trans (But.of m)) (W1.same m) (.tup (.inl <| by rw [keep_at (frB nd.fr B1 W1 _ hp)]; exact upd_same) r1.length h1.1 fun i v d g1 g2 => (r1.get i v d g1 g2).keepS m) h1.2
theorem nd_lst (hl : NdA i q tl fl) : NdE i q (tLst tl) (fun env Φ => fl env fun l => l.length ≤ 900 ∧ Φ (.lst l)) := fun w n P σ H env Q Φ nd hf k =>
  hl w n P σ H env _ _ nd hf fun vs ds H1 B1 W1 r1 h1 => by
    refine ⟨by rw [r1.length, sizeLine_eq]; omega, fun p hp => ?_⟩
    have m := same_new (o := .lst vs) hp
    exact k _ _ _ (B1.trans (But.of m)) (W1.same m) (.lst (by rw [keep_at (frB nd.fr B1 W1 _ hp)]; exact upd_same) r1.length h1.1 fun i v d g1 g2 => (r1.get i v d g1 g2).keepS m) h1.2
/-- a def that draws from the well, its first parameter -/
def spN (q : Nat) (f : List E → (E → Prop) → Prop) : Sp := fun vs H Q _ => ∃ (n : Nat) (P : Addr → Prop) (w : Addr) (us : List V) (ds : List E) (Φ : E → Prop), vs = .ref w :: us ∧ RpL (keepH P H) us ds ∧ Fr P H ∧ ¬ P w ∧ Wl H w (n + q) ∧ f ds Φ ∧ ∀ v d H', But w H H' → Wl H' w n → Rp (keepH P H') v d → Φ d → Q v H'
theorem nd_call {F : List E → (E → Prop) → Prop} {E0 : XK} (hl : NdA i q1 tl fl) : NdE i (q1 + q2) (tCall (spN q2 F) [] E0 (tCons (tVar i) tl)) (fun env Φ => fl env fun l => F l Φ) := fun w n P σ H env Q Φ nd hf k =>
  ⟨_, nd.at_, hl w (n + q2) P σ H env _ _ (nd.le (by omega)) hf fun vs ds H1 B1 W1 r1 h1 => ⟨n, P, w, vs, ds, Φ, by rw [List.append_nil], r1, frB nd.fr B1 W1, nd.nw, W1, h1, fun v d H2 B2 W2 r2 h2 => k v d H2 (B1.trans B2) W2 r2 h2⟩⟩
theorem NdE.le {q' : Nat} (h : NdE i q te f) (l : q ≤ q') : NdE i q' te f := fun w n P σ H env Q Φ nd hf k => h w (n + (q' - q)) P σ H env Q Φ (nd.le (by omega)) hf fun v d H' B W r hd => k v d H' B (W.le (by omega)) r hd
/-! statements -/
abbrev NS := List (Option E) → (E → Prop) → (List (Option E) → Prop) → Prop
def NdS (i q : Nat) (ts : TS) (f : NS) : Prop := ∀ (w : Addr) (n : Nat) (P : Addr → Prop) (σ : L2.St) (H : Hp) (env : List (Option E)) (D : Ends) (Φ : E → Prop) (Ψ : List (Option E) → Prop), Nd w i (n + q) P σ H env → f env Φ Ψ →
  (∀ v d H', But w H H' → Wl H' w n → Rp (keepH P H') v d → Φ d → D.rt v H') → (∀ σ' env' H', But w H H' → Nd w i n P σ' H' env' → Ψ env' → D.nx σ' H') → ts D σ H
theorem nd_ret (h : NdE i q te f) : NdS i q (tRet te) (fun env Φ Ψ => f env Φ) := fun w n P σ H env D Φ Ψ nd hf k1 k2 => h w n P σ H env _ Φ nd hf k1
theorem nd_next : NdS i 0 tNext (fun env Φ Ψ => Ψ env) := fun w n P σ H env D Φ Ψ nd hf k1 k2 => k2 σ env H (But.of fun _ _ z => z) nd hf
theorem nd_asg {j : Nat} (ij : j ≠ i) (h : NdE i q te f) : NdS i q (tAsg te (gName j)) (fun env Φ Ψ => f env fun d => Ψ (env.set j (some d))) := fun w n P σ H env D Φ Ψ nd hf k1 k2 => h w n P σ H env _ _ nd hf fun v d H' B W r hd => k2 _ _ H' B ((nd.next B W).set ij r) hd
theorem nd_seq {t u : TS} {g g' : NS} (ht : NdS i q1 t g) (hu : NdS i q2 u g') : NdS i (q1 + q2) (tSeq t u) (fun env Φ Ψ => g env Φ fun env' => g' env' Φ Ψ) := fun w n P σ H env D Φ Ψ nd hf k1 k2 =>
  ht w (n + q2) P σ H env { D with nx := u D } Φ _ (nd.le (by omega)) hf (fun v d H' B W r hd => k1 v d H' B (W.le (by omega)) r hd) fun σ' env' H' B nd' h' => hu w n P σ' H' env' D Φ Ψ nd' h' (fun v d H2 B2 W r hd => k1 v d H2 (B.trans B2) W r hd) fun σ2 env2 H2 B2 nd2 h2 => k2 σ2 env2 H2 (B.trans B2) nd2 h2
theorem nd_ifS {t u : TS} {g g' : NS} (hx : NdT i q1 tt ft) (ht : NdS i q2 t g) (hu : NdS i q3 u g') : NdS i (q1 + (q2 + q3)) (tIfS tt t u) (fun env Φ Ψ => ft env fun b => if b = true then g env Φ Ψ else g' env Φ Ψ) := fun w n P σ H env D Φ Ψ nd hf k1 k2 =>
  hx w (n + (q2 + q3)) P σ H env _ _ (nd.le (by omega)) hf fun b H1 B1 W1 h1 => by
    cases b with
    | true => exact iteT (ht w (n + q3) P σ H1 env D Φ Ψ (nd.next B1 (W1.le (by omega))) h1 (fun v d H2 B2 W2 r2 h2 => k1 v d H2 (B1.trans B2) (W2.le (by omega)) r2 h2) fun σ2 env2 H2 B2 nd2 h2 => k2 σ2 env2 H2 (B1.trans B2) (nd2.le (by omega)) h2)
    | false => exact iteF (hu w (n + q2) P σ H1 env D Φ Ψ (nd.next B1 (W1.le (by omega))) h1 (fun v d H2 B2 W2 r2 h2 => k1 v d H2 (B1.trans B2) (W2.le (by omega)) r2 h2) fun σ2 env2 H2 B2 nd2 h2 => k2 σ2 env2 H2 (B1.trans B2) (nd2.le (by omega)) h2)
theorem NdS.le {q' : Nat} {t : TS} {g : NS} (h : NdS i q t g) (l : q ≤ q') : NdS i q' t g := fun w n P σ H env D Φ Ψ nd hf k1 k2 => h w (n + (q' - q)) P σ H env D Φ Ψ (nd.le (by omega)) hf (fun v d H' B W r hd => k1 v d H' B (W.le (by omega)) r hd) fun σ' env' H' B nd' h' => k2 σ' env' H' B (nd'.le (by omega)) h'
def envN (N : List Str) (ds : List E) : List (Option E) := none :: (ds.map some ++ List.replicate (N.length - (ds.length + 1)) none)
theorem en_startN {H : Hp} {N : List Str} {w : Addr} {us : List V} {ds : List E} (r : RpL H us ds) : En H (L2.start N (.ref w :: us)) (envN N ds) := by
  have hl := r.length
  refine ⟨?_, fun j d e => ?_⟩
  · show ((V.ref w :: us).map some ++ List.replicate (N.length - (V.ref w :: us).length) none).length = _
    unfold envN
    simp [hl]
  · cases j with
    | zero => cases e
    | succ j =>
      have e : (ds.map some ++ List.replicate (N.length - (ds.length + 1)) none)[j]? = some (some d) := e
      show ∃ v, (us.map some ++ List.replicate (N.length - (us.length + 1)) none)[j]? = some (some v) ∧ _
      by_cases hj : j < ds.length
      · rw [List.getElem?_append_left (by rw [List.length_map]; exact hj), List.getElem?_map] at e
        obtain ⟨d', h1, h2⟩ := Option.map_eq_some_iff.mp e
        cases h2
        have hj' : j < us.length := by omega
        refine ⟨us[j], ?_, r.get j _ _ (List.getElem?_eq_getElem hj') h1⟩
        rw [List.getElem?_append_left (by rw [List.length_map]; exact hj'), List.getElem?_map, List.getElem?_eq_getElem hj']
        rfl
      · rw [List.getElem?_append_right (by rw [List.length_map]; omega)] at e
        have := List.mem_of_getElem? e
        rw [List.mem_replicate] at this
        cases this.2
theorem nd_def {t : TS} {g : NS} {F : List E → (E → Prop) → Prop} {N : List Str} {vs : List V} {H : Hp} {Q : VK} {E0 : XK} {q0 : Nat} (nd : NdS 0 q0 t g) (le : q0 ≤ q) (hF : ∀ ds Φ, F ds Φ → g (envN N ds) Φ fun _ => Φ .non) (h : spN q F vs H Q E0) : t { nx := fun _ H' => Q .non H', rt := Q } (L2.start N vs) H := by
  obtain ⟨n, P, w, us, ds, Φ, rfl, r, fr, nw, W, hf, k⟩ := h
  exact (nd.le le) w n P _ H (envN N ds) _ Φ _ ⟨en_startN r, fr, nw, W, rfl⟩ (hF ds Φ hf) k fun σ' env' H' B nd' h' => k .non .non H' B nd'.wl .non h'
theorem spN_len {F : List E → (E → Prop) → Prop} {m : Nat} (hF : ∀ ds Φ, F ds Φ → ds.length = m) {vs : List V} {H : Hp} {Q : VK} {E0 : XK} (h : spN q F vs H Q E0) : vs.length = m + 1 := by
  obtain ⟨n, P, w, us, ds, Φ, rfl, r, fr, nw, W, hf, k⟩ := h
  rw [List.length_cons, r.length, hF ds Φ hf]
end
def drawN : List E → (E → Prop) → Prop
  | [.int m], Φ => 0 < m ∧ m < 1000000 ∧ ∀ d : Int, 0 ≤ d → d < m → Φ (.int d)
  | _, _ => False
def oneN : List E → (E → Prop) → Prop
  | [.lst l], Φ => 0 < l.length ∧ ∀ d ∈ l, Φ d
  | _, _ => False
section
variable {P : Program} {w : World} {K : PySem.W.Frag} [KcOk K] {mg : Str → Option Value} {base : Heap} {f : Addr} {fd : FuncData} {k : Nat}
theorem draw_nd {ps : List Str} (G : FnOk P w K mg base CX0 k f fd ps spDraw) : FnOk P w K mg base CX0 k f fd ps (spN 1 drawN) := G.imp fun vs H Q E0 h => by
  obtain ⟨n, Pr, w, us, ds, Φ, rfl, r, fr, nw, ⟨a, b, c, W, hc⟩, hf, k⟩ := h
  unfold drawN at hf
  split at hf
  · obtain ⟨m0, m1, hΦ⟩ := hf
    cases r with
    | @cons v _ _ _ h1 t =>
    cases t
    cases h1
    exact ⟨w, a, b, c, _, rfl, W, by omega, m0, m1, fun d a' c' H' d0 d1 hc' W' B => k _ _ H' B ⟨a', b, c', W', by omega⟩ (.int d) (hΦ d d0 d1)⟩
  · cases hf
theorem one_nd {ps : List Str} (G : FnOk P w K mg base CX0 k f fd ps (spOne K)) : FnOk P w K mg base CX0 k f fd ps (spN 1 oneN) := G.imp fun vs H Q E0 h => by
  obtain ⟨n, Pr, w, us, ds, Φ, rfl, r, fr, nw, ⟨a, b, c, W, hc⟩, hf, k⟩ := h
  unfold oneN at hf
  split at hf
  · obtain ⟨l0, hΦ⟩ := hf
    cases r with
    | @cons v _ _ _ h1 t =>
    cases t
    cases h1 with
    | @lst l xs _ hl' hl hz hs =>
    obtain ⟨pl', hx⟩ := keep_some hl'
    refine ⟨w, l, a, b, c, xs, rfl, W, by omega, hx, fun z => nw (z ▸ pl'), by omega, by omega, fun v a' c' H' hv hc' W' B => ?_⟩
    obtain ⟨j, hj⟩ := List.mem_iff_getElem?.mp hv
    have jl : j < _ := (List.getElem?_eq_some_iff.mp hj).1
    have jl' := hl ▸ jl
    exact k v _ H' B ⟨a', b, c', W', by omega⟩ ((hs j v _ hj (List.getElem?_eq_getElem jl')).but nw B) (hΦ _ (List.getElem_mem jl'))
  · cases hf
end
theorem nd_go {w : Addr} {i q m : Nat} {P : Addr → Prop} {σ : L2.St} {H : Hp} {env : List (Option E)} {te : TE} {f : NE} {Q : VK} {Φ : E → Prop} (hE : NdE i q te f) (nd : Nd w i m P σ H env) (hm : q ≤ m) (hf : f env Φ) (k : ∀ v d H', But w H H' → Wl H' w (m - q) → Rp (keepH P H') v d → Φ d → Q v H') : te σ H Q :=
  hE w (m - q) P σ H env Q Φ (nd.le (by omega)) hf k
theorem nd_goA {w : Addr} {i q m : Nat} {P : Addr → Prop} {σ : L2.St} {H : Hp} {env : List (Option E)} {te : TA} {f : NA} {Q : List V → Hp → Prop} {Φ : List E → Prop} (hE : NdA i q te f) (nd : Nd w i m P σ H env) (hm : q ≤ m) (hf : f env Φ) (k : ∀ v d H', But w H H' → Wl H' w (m - q) → RpL (keepH P H') v d → Φ d → Q v H') : te σ H Q :=
  hE w (m - q) P σ H env Q Φ (nd.le (by omega)) hf k
/-- beside what is kept: a list at L, in slot j, that is being filled -/
structure NdO (w L : Addr) (i j n : Nat) (P : Addr → Prop) (σ : L2.St) (H : Hp) (env : List (Option E)) (ds : List E) : Prop where
  nd : Nd w i n P σ H env
  at_ : σ[j]? = some (some (.ref L))
  nL : ¬ P L
  ne : L ≠ w
  vs : ∃ vs, H L = some (.lst vs) ∧ RpL (keepH P H) vs ds
section
variable {w L : Addr} {i j k n n' : Nat} {P : Addr → Prop} {σ : L2.St} {H H' : Hp} {env : List (Option E)} {ds : List E} {v : V} {d : E} {vs : List V}
theorem NdO.next (h : NdO w L i j n P σ H env ds) (B : But w H H') (W : Wl H' w n') : NdO w L i j n' P σ H' env ds := by
  obtain ⟨vs, h1, h2⟩ := h.vs
  exact ⟨h.nd.next B W, h.at_, h.nL, h.ne, vs, B _ _ h1 h.ne, h2.but h.nd.nw B⟩
theorem NdO.le (h : NdO w L i j n P σ H env ds) (l : n' ≤ n) : NdO w L i j n' P σ H env ds := ⟨h.nd.le l, h.at_, h.nL, h.ne, h.vs⟩
theorem NdO.set (h : NdO w L i j n P σ H env ds) (ki : k ≠ i) (kj : k ≠ j) (r : Rp (keepH P H) v d) : NdO w L i j n P (σ.set k (some v)) H (env.set k (some d)) ds :=
  ⟨h.nd.set ki r, by rw [List.getElem?_set_ne kj]; exact h.at_, h.nL, h.ne, h.vs⟩
theorem keep_out {o : HO} (nL : ¬ P L) : ∀ a u, keepH P H a = some u → keepH P (L2.upd H L o) a = some u := fun a u e => by
  obtain ⟨p, e'⟩ := keep_some e
  rw [keep_at p, upd_ne (show a ≠ L from fun z => nL (by rw [← z]; exact p))]
  exact e'
theorem Wl.upd {o : HO} (h : Wl H w n) (ne : L ≠ w) : Wl (L2.upd H L o) w n := by
  obtain ⟨a, b, c, W, hc⟩ := h
  exact ⟨a, b, c, ⟨by rw [upd_ne (fun z => ne z.symm)]; exact W.at_, W.b0, W.b1, W.c0, W.c1⟩, hc⟩
theorem NdO.put (h : NdO w L i j n P σ H env ds) (r : RpL (keepH P H) vs ds') : NdO w L i j n P σ (L2.upd H L (.lst vs)) env ds' := by
  obtain ⟨vs0, h1, h2⟩ := h.vs
  refine ⟨⟨h.nd.en.mono (keep_out h.nL), fun b hb => ?_, h.nd.nw, h.nd.wl.upd h.ne, h.nd.at_⟩, h.at_, h.nL, h.ne, vs, upd_same, r.mono (keep_out h.nL)⟩
  by_cases hq : b = L
  · rw [hq, upd_same] at hb
    cases hb
  · rw [upd_ne hq] at hb
    exact h.nd.fr b hb
theorem Nd.own (h : Nd w i n P σ H env) (ji : j ≠ i) (hj : j < env.length) (hL : H L = none) (r : RpL (keepH P H) vs ds) : NdO w L i j n (fun b => P b ∧ b ≠ L) (σ.set j (some (.ref L))) (L2.upd H L (.lst vs)) (env.set j none) ds := by
  have ne : L ≠ w := fun z => by
    obtain ⟨o, ho⟩ := h.wl.there
    rw [z, ho] at hL
    cases hL
  have mk : ∀ a u, keepH P H a = some u → keepH (fun b => P b ∧ b ≠ L) (L2.upd H L (.lst vs)) a = some u := keep_off hL fun b o e => by rw [upd_ne (ne_of_none e hL)]; exact e
  refine ⟨⟨?_, fun b hb => ?_, fun z => h.nw z.1, h.wl.upd ne, by rw [List.getElem?_set_ne ji]; exact h.at_⟩, ?_, fun z => z.2 rfl, ne, vs, upd_same, r.mono mk⟩
  · refine ⟨by rw [List.length_set, List.length_set]; exact h.en.1, fun a d e => ?_⟩
    by_cases ha : j = a
    · subst ha
      have hl : j < env.length := by
        have := (List.getElem?_eq_some_iff.mp e).1
        rwa [List.length_set] at this
      rw [List.getElem?_set_self hl] at e
      cases e
    · rw [List.getElem?_set_ne ha] at e ⊢
      obtain ⟨v, h1, h2⟩ := h.en.2 a d e
      exact ⟨v, h1, h2.mono mk⟩
  · have nb : b ≠ L := fun z => by rw [z, upd_same] at hb; cases hb
    rw [upd_ne nb] at hb
    exact ⟨h.fr b hb, nb⟩
  · rw [List.getElem?_set_self (by rw [h.en.1]; exact hj)]
theorem NdO.free (h : NdO w L i j n (fun b => P b ∧ b ≠ L) σ H env ds) (hz : ds.length ≤ 900) (fr : ∀ b, H b = none → P b) (pL : P L) (nw : ¬ P w) (ne : env[j]? = some none) : Nd w i n P σ H (env.set j (some (.lst ds))) := by
  obtain ⟨vs, h1, h2⟩ := h.vs
  have up : ∀ a u, keepH (fun b => P b ∧ b ≠ L) H a = some u → keepH P H a = some u := fun a u e => by
    obtain ⟨p, e'⟩ := keep_some e
    rw [keep_at p.1]
    exact e'
  have r2 := h2.mono up
  refine ⟨⟨by rw [List.length_set]; exact h.nd.en.1, fun a d e => ?_⟩, fr, nw, h.nd.wl, h.nd.at_⟩
  by_cases ha : j = a
  · subst ha
    rw [List.getElem?_set_self (List.getElem?_eq_some_iff.mp ne).1] at e
    cases e
    exact ⟨_, h.at_, .lst (by rw [keep_at pL]; exact h1) r2.length hz r2.get⟩
  · rw [List.getElem?_set_ne ha] at e
    obtain ⟨v, g1, g2⟩ := h.nd.en.2 a d e
    exact ⟨v, g1, g2.mono up⟩
theorem NdO.fresh {o : HO} {H0 : Hp} (B : But w H0 H) (hL : H0 L = none) : But w H0 (L2.upd H L o) := fun b u e nb => by
  rw [upd_ne (ne_of_none e hL)]
  exact B b u e nb
end
def lcN (ft : NT) (fe : NE) (env : List (Option E)) (j : Nat) : List E → (List E → Prop) → Prop
  | [], Φ => Φ []
  | x :: l, Φ => ft (env.set j (some x)) fun b => if b = true then fe (env.set j (some x)) fun d => lcN ft fe env j l fun r => Φ (d :: r) else lcN ft fe env j l Φ
section
variable {K : PySem.W.Frag} [KcOk K] {i j q1 q2 q M : Nat} {ta te : TE} {fa : FE} {tt : TT} {ft : NT} {fe : NE}
theorem nd_lcL (ji : j ≠ i) (hM : M ≤ 900) (ha : PuE ta fa) (ht : NdT i q1 tt ft) (hE : NdE i q2 te fe) : NdE i (M * (q1 + q2)) (tLc (iList K ta) (gName j) tt te [j]) (fun env Φ => ∃ l, fa env = some (.lst l) ∧ l.length ≤ M ∧ lcN ft fe env j l fun r => Φ (.lst r)) := by
  intro w n P σ H env Q Φ nd ⟨l, e1, hM', hf⟩ k
  refine ha P σ H env _ _ nd.en nd.fr e1 fun v H1 m1 r1 => ?_
  have nd1 := nd.next (But.of m1) (nd.wl.same m1)
  cases r1 with
  | @lst a xs _ h hl hz hs =>
  obtain ⟨pa, hx⟩ := keep_some h
  refine ⟨a, rfl, ⟨xs, SqL.of hx⟩, fun D hD => ?_⟩
  have nDw : D ≠ w := fun z => by
    obtain ⟨o, ho⟩ := nd1.wl.there
    rw [z, ho] at hD
    cases hD
  have naw : a ≠ w := fun z => nd.nw (z ▸ pa)
  refine lc_it (walk_list (K := K) (a := a) (xs := xs)) (fun k' H' => But w H1 H' ∧ Wl H' w (n + (l.length - k') * (q1 + q2)) ∧ ∃ acc ds', H' D = some (.lst acc) ∧ RpL (keepH (fun b => P b ∧ b ≠ D) H') acc ds' ∧ ds'.length ≤ k' ∧ lcN ft fe env j (l.drop k') fun r => Φ (.lst (ds' ++ r)))
    ⟨But.new hD, ?_, [], [], upd_same, .nil, Nat.le_refl _, by rw [List.drop_zero]; exact hf⟩ (fun k' H' _ q => SqL.of (q.1 _ _ hx naw)) ?_ ?_
  · refine (nd1.wl.upd nDw).le ?_
    rw [Nat.sub_zero]
    exact Nat.add_le_add_left (Nat.mul_le_mul_right _ hM') n
  · rintro k' x H2 H3 hk ⟨B2, W2, acc, ds', hDa, hR, hdl, hL⟩ hy
    obtain ⟨rfl, hx'⟩ := hy
    have hkl : k' < l.length := hl ▸ hk
    have hlk : l[k']? = some l[k'] := List.getElem?_eq_getElem hkl
    have rx := hs k' x _ hx' hlk
    have hB : ∀ b o, keepH P H1 b = some o → keepH (fun b => P b ∧ b ≠ D) H3 b = some o := fun b o e => by
      obtain ⟨p, e'⟩ := keep_some e
      rw [keep_at ⟨p, ne_of_none e' hD⟩]
      exact B2 _ _ e' fun z => nd.nw (z ▸ p)
    have en : En (keepH (fun b => P b ∧ b ≠ D) H3) ((wipe σ [j]).set j (some x)) (env.set j (some l[k'])) := by
      have q := ((nd1.en.mono hB).wipe [j]).set (i := j) (rx.mono hB)
      have z : ([j].foldr (fun v e => e.set v none) env).set j (some l[k']) = env.set j (some l[k']) := by
        show (env.set j none).set j (some l[k']) = _
        rw [List.set_set]
      rw [z] at q
      exact q
    have fr : Fr (fun b => P b ∧ b ≠ D) H3 := fun b hb => by
      have nb : b ≠ D := fun z => by rw [z, hDa] at hb; cases hb
      refine ⟨?_, nb⟩
      refine nd1.fr b ?_
      cases hq : H1 b with
      | none => rfl
      | some o =>
        have nbw : b ≠ w := fun z => by
          obtain ⟨o', ho⟩ := W2.there
          rw [z, ho] at hb
          cases hb
        rw [B2 _ _ hq nbw] at hb
        cases hb
    have hmul : (l.length - k') * (q1 + q2) = (l.length - (k' + 1)) * (q1 + q2) + (q1 + q2) := by
      rw [show l.length - k' = (l.length - (k' + 1)) + 1 by omega, Nat.succ_mul]
    have nd3 : Nd w i (n + (l.length - (k' + 1)) * (q1 + q2) + q2 + q1) (fun b => P b ∧ b ≠ D) ((wipe σ [j]).set j (some x)) H3 (env.set j (some l[k'])) := by
      refine ⟨en, fr, fun z => nd.nw z.1, W2.le (by omega), ?_⟩
      show (((σ.set j none).set j (some x)))[i]? = _
      rw [List.getElem?_set_ne ji, List.getElem?_set_ne ji]
      exact nd.at_
    rw [List.drop_eq_getElem_cons hkl] at hL
    refine ⟨?_, ht w _ _ _ H3 _ _ _ nd3 hL fun b H4 B4 W4 h4 => ?_⟩
    · show ((σ.set j none).set j (some x)).set j none = σ.set j none
      rw [List.set_set, List.set_set]
    · have hD4 : H4 D = some (.lst acc) := B4 _ _ hDa nDw
      cases b with
      | true =>
        refine iteT (hE w _ _ _ H4 _ _ _ (nd3.next B4 W4) h4 fun y d H5 B5 W5 r5 h5 => ⟨acc, B5 _ _ hD4 nDw, ?_, ?_, W5.upd nDw, acc ++ [y], ds' ++ [d], upd_same, ?_, ?_, ?_⟩)
        · rw [hR.length, sizeLine_eq]
          omega
        · intro b o e nb
          rw [upd_ne (ne_of_none e hD)]
          exact B5 _ _ (B4 _ _ (B2 _ _ e nb) nb) nb
        · exact (((hR.but (fun z => nd.nw z.1) B4).but (fun z => nd.nw z.1) B5).snoc r5).mono keep_updD
        · rw [List.length_append]
          simp
          omega
        · have e : (fun r => Φ (.lst (ds' ++ [d] ++ r))) = fun r => Φ (.lst (ds' ++ d :: r)) := by
            funext r
            rw [List.append_assoc]
            rfl
          rw [e]
          exact h5
      | false => exact iteF ⟨B2.trans B4, W4.le (by omega), acc, ds', hD4, hR.but (fun z => nd.nw z.1) B4, by omega, h4⟩
  · rintro H' ⟨B2, W2, acc, ds', hDa, hR, hdl, hL⟩
    rw [hl, List.drop_length] at hL
    have hL' : Φ (.lst (ds' ++ [])) := hL
    rw [List.append_nil] at hL'
    have pD : P D := nd1.fr D hD
    refine k (.ref D) (.lst ds') H' ((But.of m1).trans B2) (W2.le (by omega)) ?_ hL'
    have r2 : RpL (keepH P H') acc ds' := hR.mono fun b o e => by
      obtain ⟨p, e'⟩ := keep_some e
      rw [keep_at p.1]
      exact e'
    exact .lst (by rw [keep_at pD]; exact hDa) r2.length (by omega) r2.get
end
/-! steps -/
section
variable {w L : Addr} {i j q m : Nat} {Pr : Addr → Prop} {σ : L2.St} {H : Hp} {env : List (Option E)} {ds : List E} {te : TE} {tl : TA} {f : NE} {fl : NA} {D : Ends} {rest tb : TS} {Φ : E → Prop} {Ψ : List E → Prop} {K : PySem.W.Frag} [KcOk K]
theorem st_set (hE : NdE i q te f) (nd : Nd w i m Pr σ H env) (hm : q ≤ m) (hf : f env Φ) (ji : j ≠ i) (k : ∀ v d H1, But w H H1 → Nd w i (m - q) Pr (σ.set j (some v)) H1 (env.set j (some d)) → Φ d → rest D (σ.set j (some v)) H1) : tSeq (tAsg te (gName j)) rest D σ H :=
  nd_go hE nd hm hf fun v d H1 B W r hd => k v d H1 B ((nd.next B W).set ji r) hd
theorem st_setO {l : Nat} {D0 : List E} (hE : NdE i q te f) (nO : NdO w L i l m Pr σ H env D0) (hm : q ≤ m) (hf : f env Φ) (ji : j ≠ i) (jl : j ≠ l) (k : ∀ v d H1, But w H H1 → NdO w L i l (m - q) Pr (σ.set j (some v)) H1 (env.set j (some d)) D0 → Φ d → rest D (σ.set j (some v)) H1) : tSeq (tAsg te (gName j)) rest D σ H :=
  nd_go hE nO.nd hm hf fun v d H1 B W r hd => k v d H1 B ((nO.next B W).set ji jl r) hd
theorem st_own (hA : NdA i q tl fl) (nd : Nd w i m Pr σ H env) (hm : q ≤ m) (hf : fl env Ψ) (ji : j ≠ i) (hj : j < env.length) (hl : ∀ ds, Ψ ds → ds.length ≤ 800) (k : ∀ L ds H1, H L = none → But w H H1 → NdO w L i j (m - q) (fun b => Pr b ∧ b ≠ L) (σ.set j (some (.ref L))) H1 (env.set j none) ds → Ψ ds → rest D (σ.set j (some (.ref L))) H1) : tSeq (tAsg (tLst tl) (gName j)) rest D σ H :=
  nd_goA hA nd hm hf fun vs ds H1 B W r hd => by
    have hz := hl ds hd
    refine ⟨by rw [r.length, sizeLine_eq]; omega, fun p hp => ?_⟩
    have nd1 := nd.next B W
    have hp0 : H p = none := by
      cases hq : H p with
      | none => rfl
      | some o =>
        have nb : p ≠ w := fun z => by
          obtain ⟨o', ho⟩ := W.there
          rw [z, ho] at hp
          cases hp
        rw [B _ _ hq nb] at hp
        cases hp
    exact k p ds _ hp0 (B.trans (But.new hp)) (nd1.own ji hj hp r) hd
theorem st_add (hE : NdE i q te f) (nO : NdO w L i j m Pr σ H env ds) (hm : q ≤ m) (hf : f env Φ) (hl : ds.length ≤ 800) (k : ∀ d H2, (∀ H0, But w H0 H → H0 L = none → But w H0 H2) → NdO w L i j (m - q) Pr σ H2 env (ds ++ [d]) → Φ d → D.nx σ H2) : tDrop (tBM K "list" rAppend (tVar j) (tCons te tNil)) D σ H := by
  obtain ⟨vs0, h1, h2⟩ := nO.vs
  refine ⟨.ref L, nO.at_, .inl ⟨rfl, _, SqL.of h1⟩, ?_⟩
  refine nd_go hE nO.nd hm hf fun v d H1 B W r hd => ?_
  have nO1 := nO.next B W
  obtain ⟨vs, g1, g2⟩ := nO1.vs
  refine ⟨L, vs, v, rfl, rfl, g1, by rw [g2.length, sizeLine_eq]; omega, ?_⟩
  exact k d _ (fun H0 B0 h0 => NdO.fresh (B0.trans B) h0) (nO1.put (g2.snoc r)) hd
theorem st_range (hA : NdA i q tl fl) (nd : Nd w i m Pr σ H env) (hm : q ≤ m) (hf : fl env Ψ) (hΦ : ∀ ds, Ψ ds → ∃ c : Int, ds = [.int c] ∧ 0 ≤ c ∧ c ≤ 1000) (k : ∀ (c : Int) H1, But w H H1 → Wl H1 w (m - q) → Ψ [.int c] → ∃ Pv : Nat → L2.St → Hp → Prop, Pv 0 σ H1 ∧ (∀ (a : Nat) σ H, a < c.toNat → Pv a σ H → tb { D with nx := Pv (a + 1), ct := Pv (a + 1), bk := rest D } (σ.set j (some (.int (0 + a)))) H) ∧ ∀ σ H, Pv c.toNat σ H → rest D σ H) : tSeq (tFor (iRng1 tl) (gName j) tb) rest D σ H :=
  nd_goA hA nd hm hf fun vs ds H1 B W r hd => by
    obtain ⟨c, rfl, c0, c1⟩ := hΦ ds hd
    cases r with
    | @cons v _ _ _ r t =>
    cases t
    cases r
    obtain ⟨Pv, k1, k2, k3⟩ := k c H1 B W hd
    exact ⟨c, rfl, by omega, by omega, for_range (lo := 0) (n := c.toNat) Pv k1 k2 k3⟩
end
theorem tup_ok {l : List E} (h : l.length ≤ 900) : tupE [.lst l] = some (.tup l) := by
  show (if _ then _ else _) = _
  rw [if_pos h]
theorem ixL0 (a : E) (r : List E) : ixL (.lst (a :: r)) (.int 0) = some a := by simp [ixL, atI, ixN]
theorem lcN_sub {ft : NT} {fe : NE} {env : List (Option E)} {j : Nat} : ∀ {names : List Str} {rows : List E} {Φ : List E → Prop}, rows.map frst = names.map E.str → (∀ x ∈ rows, ∀ φ : Bool → Prop, (∀ b, φ b) → ft (env.set j (some x)) φ) → (∀ x ∈ rows, ∀ φ : E → Prop, φ (frst x) → fe (env.set j (some x)) φ) →
    (∀ hs : List Str, hs.Sublist names → Φ (hs.map E.str)) → lcN ft fe env j rows Φ
  | [], [], Φ, _, _, _, h => h [] (List.Sublist.refl _)
  | x :: names, r :: rows, Φ, e, h1, h2, h => by
    obtain ⟨e1, e2⟩ := List.cons.inj e
    refine h1 r List.mem_cons_self _ fun b => ?_
    cases b with
    | true =>
      refine iteT (h2 r List.mem_cons_self _ ?_)
      rw [e1]
      exact lcN_sub e2 (fun x hx => h1 x (List.mem_cons_of_mem _ hx)) (fun x hx => h2 x (List.mem_cons_of_mem _ hx)) fun hs hsub => h (x :: hs) (hsub.cons₂ x)
    | false => exact iteF (lcN_sub e2 (fun x hx => h1 x (List.mem_cons_of_mem _ hx)) (fun x hx => h2 x (List.mem_cons_of_mem _ hx)) fun hs hsub => h hs (hsub.cons x))
theorem ixL_nat {l : List E} {a : Nat} {d : E} (h : l[a]? = some d) : ixL (.lst l) (.int (0 + (a : Int))) = some d := by
  show atI l (0 + (a : Int)) = some d
  rw [Int.zero_add]
  exact atI_nat h
section
variable {w L : Addr} {i j q m : Nat} {Pr : Addr → Prop} {σ : L2.St} {H : Hp} {env : List (Option E)} {ds l0 : List E} {te : TE} {f : NE} {D : Ends} {rest : TS} {Φ : E → Prop} {K : PySem.W.Frag} [KcOk K] {fa : FE} {ta : TE}
/-- x = list(y) -/
theorem st_lstOf (ha : PuE ta fa) (nd : Nd w i m Pr σ H env) (hf : fa env = some (.lst ds)) (ji : j ≠ i) (hj : j < env.length) (k : ∀ L H1, H L = none → But w H H1 → NdO w L i j m (fun b => Pr b ∧ b ≠ L) (σ.set j (some (.ref L))) H1 (env.set j none) ds → rest D (σ.set j (some (.ref L))) H1) : tSeq (tAsg (tCB (rLstOf K) (tCons ta tNil)) (gName j)) rest D σ H := by
  refine ha Pr σ H env _ _ nd.en nd.fr hf fun v H1 m1 r1 => ?_
  have nd1 := nd.next (But.of m1) (nd.wl.same m1)
  cases r1 with
  | @lst a xs _ h hl hz hs =>
  refine ⟨a, xs, rfl, .inl (SqL.of (keep_some h).2), fun p hp => ?_⟩
  exact k p _ (by cases e : H p with | none => rfl | some o => rw [m1 _ _ e] at hp; cases hp) ((But.of m1).trans (But.new hp)) (nd1.own ji hj hp (RpL.of hl hs))
/-- xs[kk] = e -/
theorem st_put {kk : Nat} (hE : NdE i q te f) (nO : NdO w L i j m Pr σ H env ds) (hm : q ≤ m) (hf : f env Φ) (hk : kk < ds.length) (k : ∀ d H2, (∀ H0, But w H0 H → H0 L = none → But w H0 H2) → NdO w L i j (m - q) Pr σ H2 env (ds.set kk d) → Φ d → D.nx σ H2) : tAsg te (gSub (tVar j) (tC (.int (kk : Nat))) rSetL) D σ H :=
  nd_go hE nO.nd hm hf fun v d H1 B W r hd => by
    have nO1 := nO.next B W
    obtain ⟨vs, g1, g2⟩ := nO1.vs
    have hl := g2.length
    refine ⟨_, nO.at_, L, vs, (kk : Int), kk, rfl, rfl, g1, ?_, ?_⟩
    · unfold ixN
      rw [if_pos (by omega), if_pos (by omega)]
      rfl
    · refine k d _ (fun H0 B0 h0 => NdO.fresh (B0.trans B) h0) (nO1.put (RpL.of (by rw [List.length_set, List.length_set]; exact hl) fun a v' d' h1 h2 => ?_)) hd
      by_cases ha : kk = a
      · subst ha
        rw [List.getElem?_set_self (by omega)] at h1 h2
        cases h1
        cases h2
        exact r
      · rw [List.getElem?_set_ne ha] at h1 h2
        exact g2.get a v' d' h1 h2
theorem st_ifO {tt : TT} {ft : FT} {t u : TS} {b : Bool} (pu : PuT tt ft) (nO : NdO w L i j m Pr σ H env ds) (e : ft env = some b) (hT : b = true → ∀ H1, But w H H1 → NdO w L i j m Pr σ H1 env ds → t { D with nx := rest D } σ H1) (hF : b = false → ∀ H1, But w H H1 → NdO w L i j m Pr σ H1 env ds → u { D with nx := rest D } σ H1) : tSeq (tIfS tt t u) rest D σ H := by
  refine pu Pr σ H env b _ nO.nd.en nO.nd.fr e fun H1 m1 => ?_
  have B := But.of (w := w) m1
  have o := nO.next B (nO.nd.wl.same m1)
  cases b with
  | true => exact iteT (hT rfl H1 B o)
  | false => exact iteF (hF rfl H1 B o)
theorem st_ifO1 {tt : TT} {ft : FT} {t u : TS} {b : Bool} (pu : PuT tt ft) (nO : NdO w L i j m Pr σ H env ds) (e : ft env = some b) (hT : b = true → ∀ H1, But w H H1 → NdO w L i j m Pr σ H1 env ds → t D σ H1) (hF : b = false → ∀ H1, But w H H1 → NdO w L i j m Pr σ H1 env ds → u D σ H1) : tIfS tt t u D σ H := by
  refine pu Pr σ H env b _ nO.nd.en nO.nd.fr e fun H1 m1 => ?_
  have B := But.of (w := w) m1
  have o := nO.next B (nO.nd.wl.same m1)
  cases b with
  | true => exact iteT (hT rfl H1 B o)
  | false => exact iteF (hF rfl H1 B o)
end
section
variable {w L : Addr} {i j q m : Nat} {Pr : Addr → Prop} {σ : L2.St} {H : Hp} {env : List (Option E)} {ds l0 : List E} {te : TE} {tl : TA} {f : NE} {D : Ends} {rest : TS} {Φ : E → Prop} {Ψ : List E → Prop} {K : PySem.W.Frag} [KcOk K] {fa : FE} {fl : NA} {ta : TE} {tt : TT} {ft : FT} {t : TS}
theorem st_pu {d : E} (pu : PuE ta fa) (he : En (keepH Pr H) σ env) (hf : Fr Pr H) (e : fa env = some d) (k : ∀ v H1, Same H H1 → En (keepH Pr H1) (σ.set j (some v)) (env.set j (some d)) → Rp (keepH Pr H1) v d → rest D (σ.set j (some v)) H1) : tSeq (tAsg ta (gName j)) rest D σ H :=
  pu Pr σ H env _ _ he hf e fun v H1 m1 r1 => k v H1 m1 ((he.keepS m1).set r1) r1
theorem st_well {z : Int} {E0 : XK} (h3 : σ[3]? = some (some (.int z))) (k : ∀ p a b H', Same H H' → H p = none → Well H' p a b 0 → rest D (σ.set 4 (some (.ref p))) H') : tSeq (tAsg (tCall spWell [] E0 (tCons (tVar 3) tNil)) (gName 4)) rest D σ H := ⟨_, h3, z, rfl, k⟩
theorem st_via {t : TS} {F : L2.St → Hp → Prop} (h : t { D with nx := F } σ H) (k : ∀ σ' H', F σ' H' → rest D σ' H') : tSeq (tVia t) rest D σ H := ⟨F, h, k⟩
theorem st_put1 (hE : NdE i q te f) (nO : NdO w L i j m Pr σ H env ds) (hm : q ≤ m) (hf : f env Φ) (hk : 1 < ds.length) (k : ∀ d H2, (∀ H0, But w H0 H → H0 L = none → But w H0 H2) → NdO w L i j (m - q) Pr σ H2 env (ds.set 1 d) → Φ d → rest D σ H2) : tSeq (tAsg te (gSub (tVar j) (tC (.int 1)) rSetL)) rest D σ H :=
  st_put (kk := 1) (D := { D with nx := rest D }) hE nO hm hf hk k
theorem st_ifN (pu : PuT tt ft) (nd : Nd w i m Pr σ H env) (e : ft env = some false) (k : ∀ H1, But w H H1 → Nd w i m Pr σ H1 env → rest D σ H1) : tSeq (tIfS tt t tNext) rest D σ H :=
  pu Pr σ H env _ _ nd.en nd.fr e fun H1 m1 => iteF (k H1 (But.of m1) (nd.next (But.of m1) (nd.wl.same m1)))
theorem st_ifN1 (pu : PuT tt ft) (nd : Nd w i m Pr σ H env) (e : ft env = some false) (k : ∀ H1, But w H H1 → Nd w i m Pr σ H1 env → D.nx σ H1) : tIfS tt t tNext D σ H :=
  pu Pr σ H env _ _ nd.en nd.fr e fun H1 m1 => iteF (k H1 (But.of m1) (nd.next (But.of m1) (nd.wl.same m1)))
theorem st_par {j' : Nat} (hA : NdA i q tl fl) (nd : Nd w i m Pr σ H env) (hm : q ≤ m) (hf : fl env Ψ) (h2 : ∀ ds, Ψ ds → ds.length = 2) (ji : j ≠ i) (ji' : j' ≠ i) (k : ∀ v v' d d' H1, But w H H1 → Nd w i (m - q) Pr ((σ.set j (some v)).set j' (some v')) H1 ((env.set j (some d)).set j' (some d')) → Ψ [d, d'] → rest D ((σ.set j (some v)).set j' (some v')) H1) : tSeq (tPar j j' tl) rest D σ H :=
  nd_goA hA nd hm hf fun vs ds H1 B W r hd => by
    have h2' := h2 ds hd
    match ds, h2' with
    | [d, d'], _ =>
    cases r with
    | @cons v _ _ _ r1 r =>
    cases r with
    | @cons v' _ _ _ r2 r =>
    cases r
    have nd1 := nd.next B W
    exact ⟨v, v', rfl, k v v' d d' H1 B ((nd1.set ji r1).set ji' r2) hd⟩
/-- a new list that is handed over -/
theorem Nd.own' {p : Addr} {H' : Hp} {n n' : Nat} {vs : List V} (h : Nd w i n Pr σ H env) (ji : j ≠ i) (hj : j < env.length) (hp : H p = none) (B : But w H H') (W : Wl H' w n') (hL : H' p = some (.lst vs)) (r : RpL (keepH (fun b => Pr b ∧ b ≠ p) H') vs ds) : NdO w p i j n' (fun b => Pr b ∧ b ≠ p) (σ.set j (some (.ref p))) H' (env.set j none) ds := by
  have ne : p ≠ w := fun z => by
    obtain ⟨o, ho⟩ := h.wl.there
    rw [z, ho] at hp
    cases hp
  have mk : ∀ a u, keepH Pr H a = some u → keepH (fun b => Pr b ∧ b ≠ p) H' a = some u := fun a u e => by
    obtain ⟨pa, e'⟩ := keep_some e
    rw [keep_at ⟨pa, ne_of_none e' hp⟩]
    exact B _ _ e' fun z => h.nw (z ▸ pa)
  refine ⟨⟨?_, fun b hb => ?_, fun z => h.nw z.1, W, by rw [List.getElem?_set_ne ji]; exact h.at_⟩, ?_, fun z => z.2 rfl, ne, vs, hL, r⟩
  · refine ⟨by rw [List.length_set, List.length_set]; exact h.en.1, fun a d e => ?_⟩
    by_cases ha : j = a
    · subst ha
      have hl : j < env.length := by
        have := (List.getElem?_eq_some_iff.mp e).1
        rwa [List.length_set] at this
      rw [List.getElem?_set_self hl] at e
      cases e
    · rw [List.getElem?_set_ne ha] at e ⊢
      obtain ⟨v, h1, h2⟩ := h.en.2 a d e
      exact ⟨v, h1, h2.mono mk⟩
  · exact ⟨frB h.fr B W b hb, fun z => by rw [z, hL] at hb; cases hb⟩
  · rw [List.getElem?_set_self (by rw [h.en.1]; exact hj)]
theorem Nd.get {d : E} {n : Nat} (h : Nd w i n Pr σ H env) (e : env[j]? = some (some d)) : ∃ v, σ[j]? = some (some v) ∧ Rp (keepH Pr H) v d := h.en.2 j d e
theorem ixL_at {l : List E} {a : Nat} {d : E} (h : l[a]? = some d) : ixL (.lst l) (.int (a : Nat)) = some d := atI_nat h
end
def subE : List (Option E) → List (Option E) → Prop
  | [], [] => True
  | none :: l, _ :: l' => subE l l'
  | some d :: l, e :: l' => e = some d ∧ subE l l'
  | _, _ => False
theorem subE_len : ∀ {l l' : List (Option E)}, subE l l' → l.length = l'.length
  | [], [], _ => rfl
  | none :: l, _ :: l', h => congrArg (· + 1) (subE_len (l := l) (l' := l') h)
  | some d :: l, e :: l', h => congrArg (· + 1) (subE_len h.2)
  | [], _ :: _, h => h.elim
  | none :: _, [], h => h.elim
  | some _ :: _, [], h => h.elim
theorem subE_at : ∀ {l l' : List (Option E)}, subE l l' → ∀ (i : Nat) (d : E), l[i]? = some (some d) → l'[i]? = some (some d)
  | none :: l, _ :: l', h, i + 1, d, e => subE_at (l := l) (l' := l') h i d e
  | some d :: l, e' :: l', h, 0, d', e => by
    cases e
    rw [h.1]
    rfl
  | some d :: l, e' :: l', h, i + 1, d', e => subE_at h.2 i d' e
  | none :: l, _ :: l', h, 0, d, e => by cases e
  | [], _, _, i, d, e => by cases e
  | none :: _, [], h, _, _, _ => h.elim
  | some _ :: _, [], h, _, _, _ => h.elim
theorem en_sub {H : Hp} {σ : L2.St} {env env' : List (Option E)} (h : En H σ env) (s : subE env' env) : En H σ env' := ⟨h.1.trans (subE_len s).symm, fun i d e => h.2 i d (subE_at s i d e)⟩
theorem cut_ints {ns : List Int} {y : V} {lo hi : Option Int} (h : y ∈ cutV (ns.map V.int) lo hi) : ∃ z, y = V.int z := by
  unfold cutV at h
  obtain ⟨z, _, e⟩ := List.mem_map.mp (List.mem_of_mem_drop (List.mem_of_mem_take h))
  exact ⟨z, e.symm⟩
theorem en_skip {H : Hp} {σ : L2.St} {env : List (Option E)} {j : Nat} {v : Option V} (h : En H σ env) (e : env[j]? = some none) : En H (σ.set j v) env := ⟨by rw [List.length_set]; exact h.1, fun i d e' => by
  by_cases ha : j = i
  · rw [← ha, e] at e'
    cases e'
  · rw [List.getElem?_set_ne ha]
    exact h.2 i d e'⟩
def chkF : Option E → Bool
  | some (.bl false) => true
  | _ => false
theorem chkF_eq {o : Option E} (h : chkF o = true) : o = some (.bl false) := by
  unfold chkF at h
  split at h
  · rfl
  · cases h
theorem en_none {H : Hp} {σ : L2.St} {n : Nat} (h : σ.length = n) : En H σ (List.replicate n none) := ⟨by rw [h, List.length_replicate], fun i d e => by
  rw [List.getElem?_replicate] at e
  split at e
  · cases e
  · cases e⟩
theorem slT_tail (a : E) (r : List E) : (match E.tup (a :: r) with | .tup l => if HT.sIx l.length 0 (some 1) = 0 ∧ HT.sIx l.length l.length none = l.length then none else some (.tup (cutE l (some 1) none)) | _ => none) = some (E.tup r) := by
  show (if _ then _ else _) = _
  rw [if_neg fun z => ?_, cut1]
  have h := z.1
  rw [show ((1 : Int)) = ((1 : Nat) : Int) from rfl, HT.sIx_nat, List.length_cons] at h
  omega
theorem catT_ok {x : E} {l m : List E} (h : (x :: l).length + m.length ≤ 900) : catT (.tup (x :: l)) (.tup m) = some (.tup (x :: l ++ m)) := by
  show (if _ then _ else _) = _
  rw [if_pos h]
theorem op_addSK {X : Cx} : OpR X (binaryOp .Add) rAddS := op_add_str
theorem rep_ok {l : List E} (h : l.length ≤ 300) : repE (.lst l) (.int 3) = some (.lst (l ++ l ++ l)) := by
  show (if _ then _ else _) = _
  rw [if_pos ⟨by decide, by decide, by show l.length * 3 ≤ 900; omega⟩]
  show some (E.lst (l ++ (l ++ (l ++ [])))) = _
  rw [List.append_nil, List.append_assoc]
theorem cat_ok {l m : List E} (h : l.length + m.length ≤ 900) : catL (.lst l) (.lst m) = some (.lst (l ++ m)) := by
  show (if _ then _ else _) = _
  rw [if_pos h]
theorem allc {Φ : E → Prop} {a : E} {l : List E} (h : Φ a) (t : ∀ o ∈ l, Φ o) : ∀ o ∈ a :: l, Φ o := fun o ho => by
  rcases List.mem_cons.mp ho with rfl | ho
  · exact h
  · exact t o ho
theorem alln {Φ : E → Prop} : ∀ o ∈ ([] : List E), Φ o := fun o ho => nomatch ho
theorem alla {Φ : E → Prop} {l m : List E} (h : ∀ o ∈ l, Φ o) (t : ∀ o ∈ m, Φ o) : ∀ o ∈ l ++ m, Φ o := fun o ho => by
  rcases List.mem_append.mp ho with ho | ho
  · exact h o ho
  · exact t o ho
theorem mo {l : List E} {o : E} (i : Nat) (h : l[i]? = some o) : o ∈ l := List.mem_of_getElem? h
end ET

/-! t + u, t any tuple -/
namespace ET
open PySem PySem.Spec PyProof.Rows L2 XR VT
variable [KC]
section
variable {X : Cx} {K : PySem.W.Frag} [KcOk K]
def rCatT0 (K : PySem.W.Frag) : R2 := fun x y H Q => ∃ (a b : Addr) (ys : List V), x = .ref a ∧ y = .ref b ∧ SqT K H a [] ∧ SqT K H b ys ∧ Q (.ref b) H
theorem op_catT0 : OpR X (binaryOp .Add) (rCatT0 X.K) := by
  intro pins s σ H x y v u Q I rx ry h
  obtain ⟨a, b, ys, rfl, rfl, ha, hb, q⟩ := h
  cases rx
  cases ry
  obtain ⟨its, r1, p1, _⟩ := I.tuple ha
  obtain ⟨its2, r2, p2, _⟩ := I.tuple hb
  cases r1
  obtain ⟨⟨cls, dd, data, sl⟩, ho, hc, n, hd⟩ := id p1
  obtain ⟨⟨cls2, dd2, data2, sl2⟩, ho2, hc2, n2, hd2⟩ := id p2
  simp only at hc hd hc2 hd2
  subst hc hd hc2 hd2
  exact concat_meets ⟨_, ho, rfl⟩ ⟨_, ho2, rfl⟩ noFill_tuple_add seq_tuple_add PySem.F.slot_tuple_add PySem.F.entry_tuple_add (PySem.F.args_tuple_add_2 _ _)
    (tuple_addW0 a b _ _ n n2 dd dd2 sl sl2 rfl) ⟨ho, ho2, ⟨.ref b, H, I, rfl, q⟩⟩
def rCatA (K : PySem.W.Frag) : R2 := fun x y H Q => rCatT K x y H Q ∨ rCatT0 K x y H Q
theorem op_catAK (h : X.K = K) : OpR X (binaryOp .Add) (rCatA K) := by
  subst h
  intro pins s σ H x y v u Q I rx ry h
  rcases h with h | h
  · exact op_catT pins s σ H x y v u Q I rx ry h
  · exact op_catT0 pins s σ H x y v u Q I rx ry h
def catA : E → E → Option E
  | .tup l, .tup m => if l.length + m.length ≤ 900 then some (.tup (l ++ m)) else none
  | _, _ => none
theorem pu_catA : PuR (rCatA K) catA := fun P x y H d e c Q rx ry hf h k => by
  unfold catA at h
  split at h
  · rename_i l m
    cases l with
    | nil =>
      split at h
      · cases h
        cases rx with
        | @tup a xs ds h1 hl1 hz1 hs1 =>
        cases ry with
        | @tup b ys es h2 hl2 hz2 hs2 =>
        have : xs = [] := List.eq_nil_of_length_eq_zero hl1
        subst this
        exact .inr ⟨a, b, ys, rfl, rfl, TuA.sq h1, TuA.sq h2, k _ H (fun _ _ z => z) (.tup h2 hl2 hz2 hs2)⟩
      · cases h
    | cons x0 l => exact .inl (pu_catT P x y H _ _ c Q rx ry hf h k)
  · cases h
end
end ET

/-! what is never reached; comprehensions over nothing -/
namespace ET
open PySem PySem.Spec PyProof.Rows L2 XR VT
variable [KC]
section
variable {X : Cx}
def tNevE : TE := fun _ _ _ => False
def tNevT : TT := fun _ _ _ => False
def tNevS : TS := fun _ _ _ => False
theorem pe_never {e : Expr} : PE X e tNevE := ⟨fun _ _ _ _ _ _ h => h.elim⟩
theorem pt_never {e : Expr} : PT X e tNevT := ⟨fun _ _ _ _ _ _ h => h.elim⟩
theorem pss_never {b : List Stmt} : PSs X b tNevS := ⟨fun _ _ _ _ _ _ h => h.elim⟩
end
theorem pu_nevE : PuE tNevE (fun _ => none) := fun P σ H env d Q he hf e k => by cases e
theorem pu_nevT : PuT tNevT (fun _ => none) := fun P σ H env d Q he hf e k => by cases e
section
variable {K : PySem.W.Frag} [KcOk K]
def nilL : List E → Option E
  | [] => some (.lst [])
  | _ => none
def nilM : List E → Option E
  | [] => some (.map [] [])
  | _ => none
theorem pu_lc0 {wi : TI} {fi : FA} {g : TG} {tt : TT} {te : TE} {vs : List Nat} (hi : PuI wi fi) : PuE (tLc wi g tt te vs) (fun env => (fi env).bind nilL) := fun P σ H env d Q he hf e k => by
  obtain ⟨l, e1, e2⟩ := Option.bind_eq_some_iff.mp e
  cases l with
  | cons x l => cases e2
  | nil =>
    cases e2
    obtain ⟨h900, hw⟩ := hi P σ H env [] (fun J H1 => ∀ D, H1 D = none → ∃ W : Nat → Nat → Hp → Prop, (∃ m, W 0 m (upd H1 D (.lst []))) ∧ ∀ i' m H, W i' m H →
      (J.stop i' H ∧ Q (.ref D) H) ∨ (J.go i' H ∧ ∃ Nx : Hp → Prop, (∀ H', Nx H' → ∃ m', m' < m ∧ W (i' + 1) m' H') ∧ ∀ x H', J.yld i' H x H' → g x (wipe σ vs) H' fun σ2 H2 => wipe σ2 vs = wipe σ vs ∧ tt σ2 H2 fun b H3 =>
        if b = true then te σ2 H3 fun y H4 => ∃ acc, H4 D = some (.lst acc) ∧ acc.length < sizeLine ∧ Nx (upd H4 D (.lst (acc ++ [y]))) else Nx H3)) he hf e1
    refine hw fun J H1 G Y w m1 hG hY D hD => ?_
    refine lc_it w (fun _ H' => H' = upd H1 D (.lst [])) rfl (fun k' H' _ q => hG H' (by rw [q]; exact same_new hD)) (fun i x H2 H3 hi' => absurd hi' (Nat.not_lt_zero _)) fun H' q => ?_
    subst q
    exact k _ _ (m1.trans (same_new hD)) (.lst (by rw [keep_at (hf _ (same_none m1 hD))]; exact upd_same) rfl (by decide) fun j v d h1 h2 => by cases h2)
theorem pu_dc0 {wi : TI} {fi : FA} {g : TG} {tt : TT} {tk tv : TE} {vs : List Nat} (hi : PuI wi fi) : PuE (tDc wi g tt tk tv vs) (fun env => (fi env).bind nilM) := fun P σ H env d Q he hf e k => by
  obtain ⟨l, e1, e2⟩ := Option.bind_eq_some_iff.mp e
  cases l with
  | cons x l => cases e2
  | nil =>
    cases e2
    obtain ⟨h900, hw⟩ := hi P σ H env [] (fun J H1 => ∀ D, H1 D = none → ∃ W : Nat → Nat → Hp → Prop, (∃ m, W 0 m (upd H1 D (.dK []))) ∧ ∀ i m H, W i m H →
      (J.stop i H ∧ Q (.ref D) H) ∨ (J.go i H ∧ ∃ Nx : Hp → Prop, (∀ H', Nx H' → ∃ m', m' < m ∧ W (i + 1) m' H') ∧ ∀ x H', J.yld i H x H' → g x (wipe σ vs) H' fun σ2 H2 => wipe σ2 vs = wipe σ vs ∧ tt σ2 H2 fun b H3 =>
        if b = true then tk σ2 H3 fun y H4 => tv σ2 H4 fun z H5 => ∃ kvs k, y = kV k ∧ H5 D = some (.dK kvs) ∧ kvs.length < sizeLine ∧ Nx (upd H5 D (.dK (putK kvs k z))) else Nx H3)) he hf e1
    refine hw fun J H1 G Y w m1 hG hY D hD => ?_
    refine dc_it w (fun _ H' => H' = upd H1 D (.dK [])) rfl (fun k' H' _ q => hG H' (by rw [q]; exact same_new hD)) (fun i x H2 H3 hi' => absurd hi' (Nat.not_lt_zero _)) fun H' q => ?_
    subst q
    exact k _ _ (m1.trans (same_new hD)) (.map (vs := []) (by rw [keep_at (hf _ (same_none m1 hD))]; exact upd_same) rfl rfl (by decide) .nil fun j v d h1 h2 => by cases h2)
end
end ET

/-! repr, join, sorted keys, d[key], isinstance of several, over trees -/
namespace ET
open PySem L2 XR VT
variable [KC]
section
variable {K : PySem.W.Frag} [KcOk K] {ta tb te : TE} {fa fb fe : FE} {CS : List Addr} {X : Cx}
/-! d[key] -/
def getM : E → E → Option E
  | .map ks ds, .str x => if hasK ks (Sum.inr x) = true then some (getE ks ds (Sum.inr x)) else none
  | _, _ => none
theorem pu_dget (ha : PuE ta fa) (hb : PuE tb fb) : PuE (tDGet ta tb) (fun env => (fa env).bind fun d => (fb env).bind fun e => getM d e) := fun P σ H env c Q he hf e k => by
  obtain ⟨d, e1, e2⟩ := Option.bind_eq_some_iff.mp e
  obtain ⟨d2, e3, e4⟩ := Option.bind_eq_some_iff.mp e2
  refine ha P σ H env d _ he hf e1 fun v H1 m1 r1 => ?_
  refine hb P σ H1 env d2 _ (he.keepS m1) (hf.same m1) e3 fun v2 H2 m2 r2 => ?_
  unfold getM at e4
  split at e4
  case h_2 => cases e4
  rename_i ks ds x
  split at e4
  case isFalse => cases e4
  rename_i hh
  cases e4
  have r1 := r1.keepS m2
  cases r2
  cases r1 with
  | @map a vs ks ds h hv hk hz nd hs =>
    obtain ⟨j, j1, j2⟩ := get_ok hk nd (hasK_iff.mp hh)
    have jl : j < vs.length := by
      have := (List.getElem?_eq_some_iff.mp j2).1
      omega
    have gv := mk_val nd j1 (List.getElem?_eq_getElem jl)
    exact ⟨a, vs[j], rfl, .inl ⟨_, Sum.inr x, .inl (keep_some h).2, rfl, gv.symm⟩, k _ H2 (m1.trans m2) (hs j _ _ (List.getElem?_eq_getElem jl) j2)⟩
/-! repr of a plain value -/
def rRep1 : List V → Hp → VK → Prop := fun xs H Q => ∃ (x : V) (t : Str), xs = [x] ∧ ((x = .non ∧ t = "None") ∨ (∃ b, x = .bl b ∧ t = (if b then ("True" : Str) else "False")) ∨ (∃ i : Int, x = .int i ∧ i.natAbs.log2 < 1920 ∧ t = (toString i : String)) ∨ ∃ y, x = .str y ∧ (reprText y).length ≤ sizeLine ∧ t = reprText y) ∧ Q (.str t) H
theorem call_rep1 : CallR X (.builtin "repr") rRep1 := by
  intro pins s σ H xs us Q I r h
  obtain ⟨x, t, rfl, sh, q⟩ := h
  obtain ⟨u1, rfl, r1⟩ := vals1 r
  rcases sh with ⟨rfl, rfl⟩ | ⟨b, rfl, rfl⟩ | ⟨i, rfl, hi, rfl⟩ | ⟨y, rfl, hy, rfl⟩
  · cases (show u1 = Value.none from r1)
    exact PySem.P.repr_of_none ⟨.str _, H, I.tok _, ⟨_, rfl⟩, q⟩
  · cases (show u1 = Value.bool b from r1)
    exact PySem.P.repr_of_bool ⟨.str _, H, I.tok _, ⟨_, rfl⟩, q⟩
  · obtain ⟨t, rfl⟩ := r1
    exact PySem.P.repr_of_int hi ⟨.str _, H, I.tok _, ⟨_, rfl⟩, q⟩
  · obtain ⟨t, rfl⟩ := r1
    exact PySem.P.repr_of_str ⟨.str _, H, I.tok _, ⟨_, rfl⟩, q⟩ hy
def rep1 : E → Str
  | .non => "None"
  | .bl b => if b then ("True" : Str) else "False"
  | .int i => (toString i : String)
  | .str y => reprText y
  | _ => ""
def rep1E : List E → Option E
  | [d] => match d with
    | .non => some (.str (rep1 d))
    | .bl _ => some (.str (rep1 d))
    | .int i => if i.natAbs.log2 < 1920 ∧ txB (rep1 d) = true then some (.str (rep1 d)) else none
    | .str _ => if txB (rep1 d) = true then some (.str (rep1 d)) else none
    | _ => none
  | _ => none
theorem pu_rep1 : PuC rRep1 rep1E := fun P xs H ds c Q r hf e k => by
  unfold rep1E at e
  split at e
  case h_2 => cases e
  rename_i d
  cases r with
  | @cons v _ _ _ h t =>
  cases t
  cases d with
  | non => cases e; cases h; exact ⟨_, _, rfl, .inl ⟨rfl, rfl⟩, k _ H (fun _ _ z => z) (.str _ ⟨by decide +kernel, by decide +kernel⟩)⟩
  | bl b => cases e; cases h; exact ⟨_, _, rfl, .inr (.inl ⟨b, rfl, rfl⟩), k _ H (fun _ _ z => z) (.str _ (by cases b <;> exact ⟨by decide +kernel, by decide +kernel⟩) : Rp _ (.str (if b then ("True" : Str) else "False")) _)⟩
  | int i =>
    have e : (if i.natAbs.log2 < 1920 ∧ txB (rep1 (.int i)) = true then some (E.str (rep1 (.int i))) else none) = some c := e
    split at e
    · rename_i hh
      cases e
      cases h
      exact ⟨_, _, rfl, .inr (.inr (.inl ⟨i, rfl, hh.1, rfl⟩)), k _ H (fun _ _ z => z) (.str _ (tx_of hh.2))⟩
    · cases e
  | str y =>
    have e : (if txB (rep1 (.str y)) = true then some (E.str (rep1 (.str y))) else none) = some c := e
    split at e
    · rename_i hh
      cases e
      cases h
      exact ⟨_, _, rfl, .inr (.inr (.inr ⟨y, rfl, Nat.le_trans (tx_of hh).2 (by rw [sizeLine_eq]; omega), rfl⟩)), k _ H (fun _ _ z => z) (.str _ (tx_of hh))⟩
    · cases e
  | _ => cases e
/-! sep.join(list of texts) -/
def strsE : List E → Option (List Str)
  | [] => some []
  | .str x :: l => (strsE l).map (x :: ·)
  | _ :: _ => none
theorem strs_rep {H : Hp} : ∀ {vs : List V} {ds : List E} {xs : List Str}, strsE ds = some xs → RpL H vs ds → vs = xs.map V.str
  | _, [], _, e, r => by cases e; cases r; rfl
  | _, .str x :: l, _, e, r => by
    obtain ⟨ys, e1, rfl⟩ := Option.map_eq_some_iff.mp (show (strsE l).map (x :: ·) = some _ from e)
    cases r with
    | cons h t =>
      cases h
      rw [strs_rep e1 t]
      rfl
  | _, .non :: _, _, e, _ => by cases e
  | _, .bl _ :: _, _, e, _ => by cases e
  | _, .int _ :: _, _, e, _ => by cases e
  | _, .tup _ :: _, _, e, _ => by cases e
  | _, .lst _ :: _, _, e, _ => by cases e
  | _, .map _ _ :: _, _, e, _ => by cases e
  | _, .ins _ _ _ :: _, _, e, _ => by cases e
def joinE : E → E → Option E
  | .str a, .lst l => (strsE l).bind fun ys => if (ys.map (·.length)).sum + ys.length * a.length ≤ 16777216 ∧ txB (Txt.join a ys) = true then some (.str (Txt.join a ys)) else none
  | _, _ => none
def rJoin (K : PySem.W.Frag) : V → List V → Hp → VK → Prop := fun x xs H Q => ∃ a p, ∃ ys : List Str, x = .str a ∧ xs = [.ref p] ∧ (SqL K H p (ys.map V.str) ∨ SqT K H p (ys.map V.str)) ∧
      (ys.map (·.length)).sum + ys.length * a.length ≤ 16777216 ∧ Q (.str (Txt.join a ys)) H
theorem pu_join (ha : PuE ta fa) (hb : PuE tb fb) : PuE (tM1 (rJoin K) ta tb) (fun env => (fa env).bind fun d => (fb env).bind fun e => joinE d e) := fun P σ H env c Q he hf e k => by
  obtain ⟨d, e1, e2⟩ := Option.bind_eq_some_iff.mp e
  obtain ⟨d2, e3, e4⟩ := Option.bind_eq_some_iff.mp e2
  refine ha P σ H env d _ he hf e1 fun v H1 m1 r1 => ?_
  unfold joinE at e4
  split at e4
  case h_2 => cases e4
  rename_i a l
  obtain ⟨ys, e5, e6⟩ := Option.bind_eq_some_iff.mp e4
  split at e6
  case isFalse => cases e6
  rename_i hh
  cases e6
  cases r1
  refine ⟨⟨a, rfl⟩, hb P σ H1 env _ _ (he.keepS m1) (hf.same m1) e3 fun v2 H2 m2 r2 => ?_⟩
  cases r2 with
  | lst h hl hz hs =>
    have ex := strs_rep e5 (RpL.of hl hs)
    subst ex
    exact ⟨a, _, ys, rfl, rfl, .inl (SqL.of (keep_some h).2), hh.1, k _ H2 (m1.trans m2) (.str _ (tx_of hh.2))⟩
theorem pe_joinK {o e : Expr} {to te : TE} {apos pos : Pos} (hK : X.K = K) (ho : PE X o to) (he : PE X e te) (hs : starEach [e] X.env = [(false, eval e X.env)] := by rfl) (hbase : attributeBase o "join" X.env (eval o X.env) = eval o X.env := by rfl) (hline : (apos.endLine == pos.line) = true := by rfl) :
    PE X (.Call (.Attribute o "join" apos) [e] [] pos) (tM1 (rJoin K) to te) := by
  subst hK
  exact pe_join ho he hs hbase hline
/-! sorted(d), keys that are texts -/
def insS (x : Str) : List Str → List Str
  | [] => [x]
  | y :: l => if PySem.Spec.ltCps y.cps.toList x.cps.toList then y :: insS x l else x :: y :: l
def srtS : List Str → List Str
  | [] => []
  | x :: l => insS x (srtS l)
def keysS : List L2.Key → Option (List Str)
  | [] => some []
  | .inr x :: l => (keysS l).map (x :: ·)
  | _ :: _ => none
theorem keysS_eq : ∀ {ks : List L2.Key} {xs : List Str}, keysS ks = some xs → ks = xs.map Sum.inr
  | [], _, e => by cases e; rfl
  | .inr x :: l, _, e => by
    obtain ⟨ys, e1, rfl⟩ := Option.map_eq_some_iff.mp (show (keysS l).map (x :: ·) = some _ from e)
    rw [keysS_eq e1]
    rfl
  | .inl _ :: _, _, e => by cases e
def sortM : List E → Option E
  | [.map ks _] => (keysS ks).bind fun xs => if xs.length < 64 ∧ (srtS xs).isPerm xs = true ∧ PyProof.Rows.sortedS (srtS xs) = true ∧ xs.all txB = true then some (.lst ((srtS xs).map E.str)) else none
  | _ => none
def rSortM : List V → Hp → VK → Prop := fun xs H Q => ∃ (a : Addr) (kvs : List (L2.Key × V)) (ks : List Str), xs = [.ref a] ∧ Rd H a (.dK kvs) ∧ kvs.map (·.1) = ks.map Sum.inr ∧ ks.length < 64 ∧
    ∀ ys p, ys.Perm ks → PyProof.Rows.sortedS ys = true → H p = none → Q (.ref p) (upd H p (.lst (ys.map V.str)))
theorem call_sortM (hcalm : X.calm = true) : CallR X (.builtin "sorted") rSortM := call_sortedD hcalm
theorem pu_sortM : PuC rSortM sortM := fun P xs H ds c Q r hf e k => by
  unfold sortM at e
  split at e
  case h_2 => cases e
  rename_i ks ds'
  obtain ⟨zs, e1, e2⟩ := Option.bind_eq_some_iff.mp e
  split at e2
  case isFalse => cases e2
  rename_i hh
  obtain ⟨h64, hp, hso, htx⟩ := hh
  cases e2
  have hp := List.isPerm_iff.mp hp
  cases r with
  | cons h t =>
    cases t
    cases h with
    | @map a vs _ _ h hv hk hz nd hs =>
      refine ⟨a, _, zs, rfl, .inl (keep_some h).2, (mk_keys (hk.trans hv.symm)).trans (keysS_eq e1), h64, fun ys p yp ysrt hpn => ?_⟩
      have ey : ys = srtS zs := (sorted_one yp ysrt hp hso).mpr (List.Perm.refl _)
      subst ey
      refine k _ _ (same_new hpn) (.lst (by rw [keep_at (hf _ hpn)]; exact upd_same) (by rw [List.length_map, List.length_map]) (by rw [List.length_map, hp.length_eq]; omega) fun i v d h1 h2 => ?_)
      rw [List.getElem?_map] at h1 h2
      cases hx : (srtS zs)[i]? with
      | none => rw [hx] at h1; cases h1
      | some x =>
        rw [hx] at h1 h2
        cases h1
        cases h2
        exact .str x (tx_of (List.all_eq_true.mp htx x (hp.subset (List.mem_of_getElem? hx))))
/-! isinstance(x, (list, tuple)) -/
def isLT (CS : List Addr) (d : E) : Option E := match d with
  | .ins C _ _ => if C ∈ CS then some (.bl false) else none
  | .lst _ => some (.bl true)
  | .tup _ => some (.bl true)
  | _ => some (.bl false)
theorem pu_isLT (hC : ∀ C ∈ CS, CF K C) (ha : PuE ta fa) : PuE (tCB (rIsiT K) (tCons ta (tCons (tTup (tCons (tC (.ty "list")) (tCons (tC (.ty "tuple")) tNil))) tNil))) (fun env => (fa env).bind (isLT CS)) := fun P σ H env c Q he hf e k => by
  obtain ⟨d, e1, e2⟩ := Option.bind_eq_some_iff.mp e
  refine ha P σ H env d _ he hf e1 fun v H1 m1 r1 => ?_
  refine ⟨by rw [sizeLine_eq]; decide, fun p hp => ?_⟩
  show rIsiT K [v, .ref p] (upd H1 p (.tup [.ty "list", .ty "tuple"])) Q
  have n := same_new (o := .tup [.ty "list", .ty "tuple"]) hp
  have e0 : upd H1 p (.tup [.ty "list", .ty "tuple"]) p = some (.tup [.ty "list", .ty "tuple"]) := upd_same
  have r2 := r1.keepS n
  generalize upd H1 p (.tup [.ty "list", .ty "tuple"]) = H2 at n e0 r2 ⊢
  have fin : ∀ b, c = .bl b → Q (.bl b) H2 := fun b z => by subst z; exact k _ H2 (m1.trans n) (.bl b)
  have go : ∀ t b, TyX K H2 v t → PySem.W.kitAny K t [.type "list", .type "tuple"] = some b → Q (.bl b) H2 → rIsiT K [v, .ref p] H2 Q := fun t b ty ka q => ⟨v, p, _, t, _, b, rfl, e0, .cons (.ty _) (.cons (.ty _) .nil), ty, ka, q⟩
  have any : ∀ t b1 b2, PySem.W.kitOne K t (.type "list") = some b1 → PySem.W.kitOne K t (.type "tuple") = some b2 → PySem.W.kitAny K t [.type "list", .type "tuple"] = some (b1 || b2) := fun t b1 b2 h1 h2 => by
    unfold PySem.W.kitAny PySem.W.kitAny PySem.W.kitAny
    rw [h1, h2]
    cases b1 <;> cases b2 <;> rfl
  cases d with
  | ins C ns ds =>
    have e3 : (if C ∈ CS then some (E.bl false) else none) = some c := e2
    split at e3
    · rename_i hm
      cases e3
      exact go _ _ (r2.ofKeep.ty hC (fun C' ns' ds' z => by cases z; exact hm)) (any _ _ _ ((hC C hm).no "list" (by decide)) ((hC C hm).no "tuple" (by decide))) (fin false rfl)
    · cases e3
  | _ =>
    cases e2
    exact go _ _ (r2.ofKeep.ty hC (fun C' ns' ds' z => nomatch z)) (any _ _ _ (kit_is "list" (by decide) _ (fun _ _ _ z => nomatch z)) (kit_is "tuple" (by decide) _ (fun _ _ _ z => nomatch z))) (fin _ rfl)
theorem call_isLTK (hK : X.K = K) : CallR X (.builtin "isinstance") (rIsiT K) := by
  subst hK
  exact call_isiT
end
/-! a walk over a list or a tuple -/
def iSeq (K : PySem.W.Frag) (tl : TE) : TI := fun σ H R => tl σ H fun x H1 => ∃ a, x = .ref a ∧ (((∃ xs, SqL K H1 a xs) ∧ R (Itl K a) H1) ∨ (∃ xs, SqT K H1 a xs) ∧ R (Itt K a) H1)
section
open PySem.Spec PyProof.Rows
theorem pi_seqK {X : Cx} {K : PySem.W.Frag} {tg l : Expr} {tl : TE} (hK : X.K = K) (hl : PE X l tl) : PI X tg l (iSeq K tl) := by
  subst hK
  refine ⟨fun pins s σ H R I h => ?_⟩
  refine thn (hl.run pins s σ H _ I h) fun v s1 ⟨x, H1, I1, r1, q1⟩ => ?_
  obtain ⟨a, e, q1⟩ := q1
  subst e
  cases r1
  rcases q1 with ⟨⟨xs, hq⟩, q⟩ | ⟨⟨xs, hq⟩, q⟩
  · obtain ⟨its, rv, p, hz⟩ := I1.list hq
    refine wpAny_pyIter_list p.isList ?_
    refine ⟨s1.heap.objs.size, [s1.heap.objs.size], _, _, H1, rfl, I1.kept (t' := s1.toks) fun b o e => Heap.get?_push_of_some _ e, turn_list a _, ⟨_, Heap.get?_push_size _ rfl, rfl, rfl⟩, fun b hb => ?_, q⟩
    have e : b = s1.heap.objs.size := by simpa using hb
    subst e
    exact I1.fpOk (Nat.le_refl _) (I1.hok.fresh (Nat.le_refl _))
  · obtain ⟨its, rv, p, hz⟩ := I1.tuple hq
    refine wpAny_pyIter_tuple (show s1.heap.IsTuple a its.toArray from p) ?_
    refine ⟨s1.heap.objs.size, [s1.heap.objs.size], _, _, H1, rfl, I1.kept (t' := s1.toks) fun b o e => Heap.get?_push_of_some _ e, turn_tuple a _, ⟨_, Heap.get?_push_size _ rfl, rfl, rfl⟩, fun b hb => ?_, q⟩
    have e : b = s1.heap.objs.size := by simpa using hb
    subst e
    exact I1.fpOk (Nat.le_refl _) (I1.hok.fresh (Nat.le_refl _))
end
def seqE (d : E) : Option (List E) := match d with
  | .tup l => if l.length ≤ 900 then some l else none
  | .lst l => if l.length ≤ 900 then some l else none
  | _ => none
theorem pu_iSeq {K : PySem.W.Frag} [KcOk K] {ta : TE} {fa : FE} (ha : PuE ta fa) : PuI (iSeq K ta) (fun env => (fa env).bind seqE) := fun P σ H env l R he hf e => by
  obtain ⟨d, e1, e2⟩ := Option.bind_eq_some_iff.mp e
  cases d with
  | tup l' =>
    have e3 : (if l'.length ≤ 900 then some l' else none) = some l := e2
    split at e3
    · rename_i hz
      cases e3
      refine ⟨hz, fun k => ha P σ H env _ _ he hf e1 fun v H1 m1 r1 => ?_⟩
      cases r1 with
      | @tup a xs ds h hl hz hs =>
        refine ⟨a, rfl, .inr ⟨⟨xs, (TuA.sq h)⟩, k _ H1 _ _ (hl ▸ walk_tup (K := K) (a := a) (xs := xs)) m1 (fun H' m => TuA.sq (h.mono (keep_same m))) fun i x H2 H3 d m hy hd => ?_⟩⟩
        obtain ⟨rfl, hx⟩ := hy
        exact ⟨rfl, hs i x d hx hd⟩
    · cases e3
  | lst l' =>
    have e3 : (if l'.length ≤ 900 then some l' else none) = some l := e2
    split at e3
    · rename_i hz
      cases e3
      refine ⟨hz, fun k => ha P σ H env _ _ he hf e1 fun v H1 m1 r1 => ?_⟩
      cases r1 with
      | @lst a xs ds h hl hz hs =>
        have h' := (keep_some h).2
        refine ⟨a, rfl, .inl ⟨⟨xs, SqL.of h'⟩, k _ H1 _ _ (hl ▸ walk_list (K := K) (a := a) (xs := xs)) m1 (fun H' m => SqL.of (m _ _ h')) fun i x H2 H3 d m hy hd => ?_⟩⟩
        obtain ⟨rfl, hx⟩ := hy
        exact ⟨rfl, hs i x d hx hd⟩
    · cases e3
  | _ => cases e2
/-- a list made item by item -/
def mapO (g : E → Option E) : List E → Option (List E)
  | [] => some []
  | x :: l => (g x).bind fun d => (mapO g l).map (d :: ·)
theorem lcE_mapO {fe : FE} {env : List (Option E)} {i : Nat} {g : E → Option E} : ∀ {l : List E}, (∀ x ∈ l, fe (env.set i (some x)) = g x) → lcE (fun _ => some true) fe env i l = mapO g l
  | [], _ => rfl
  | x :: l, h => by
    rw [lcE, Option.bind_some, if_pos rfl, h x List.mem_cons_self, lcE_mapO fun y hy => h y (List.mem_cons_of_mem _ hy)]
    rfl
end ET

/-! displays of dicts with text keys; xs[i] = e -/
namespace ET
open PySem L2 XR VT
variable [KC]
theorem pu_dnil : PuE tDNewK (fun _ => some (.map [] [])) := fun P σ H env d Q he hf e k => by
  cases e
  intro p hp
  exact k _ _ (same_new hp) (.map (vs := []) (by rw [keep_at (hf _ hp)]; exact upd_same) rfl rfl (by decide) .nil fun i v d h => nomatch h)
section
variable {tv tu : TE} {fv fu : FE}
theorem disp_same {H H2 : Hp} {p : Addr} {o o' : HO} (hp : H p = none) (m : Same (upd H p o) H2) : Same H (upd H2 p o') := fun b u e => by
  have ne := ne_of_none e hp
  rw [upd_ne ne]
  exact m _ _ (by rw [upd_ne ne]; exact e)
theorem disp_keep {P : Addr → Prop} {H : Hp} {p : Addr} {o : HO} : ∀ a u, keepH (fun b => P b ∧ b ≠ p) H a = some u → keepH P (upd H p o) a = some u := fun a u e => by
  obtain ⟨z, e'⟩ := keep_some e
  rw [keep_at z.1, upd_ne z.2]
  exact e'
theorem disp_fr {P : Addr → Prop} {H : Hp} {p : Addr} {o : HO} (hf : Fr P H) (hp : H p = none) : Fr (fun b => P b ∧ b ≠ p) (upd H p o) := fun b hb => by
  have ne : b ≠ p := fun z => by rw [z, upd_same] at hb; cases hb
  rw [upd_ne ne] at hb
  exact ⟨hf b hb, ne⟩
theorem rp_items1 {H : Hp} {v : V} {d : E} (r : Rp H v d) : ∀ (i : Nat) (v' : V) (d' : E), [v][i]? = some v' → [d][i]? = some d' → Rp H v' d' := fun i v' d' h1 h2 => by
  cases i with
  | zero => cases h1; cases h2; exact r
  | succ i => cases h1
theorem pu_disp1 {x : Str} (hv : PuE tv fv) : PuE (tDisp [(tC (.str x), tv)]) (fun env => (fv env).bind fun d => some (.map [.inr x] [d])) := fun P σ H env c Q he hf e k => by
  obtain ⟨d, e1, e2⟩ := Option.bind_eq_some_iff.mp e
  cases e2
  intro p hp
  refine hv (fun b => P b ∧ b ≠ p) σ (upd H p (.dK [])) env d _ (he.mono (keep_off hp (same_new hp))) (disp_fr hf hp) e1 fun v H2 m r => ?_
  refine ⟨m _ _ upd_same, [(Sum.inr x, v)], rfl, (by decide : 1 ≤ 15), k _ _ (disp_same hp m) (.map (vs := [v]) (by rw [keep_at (hf _ hp)]; exact upd_same) rfl rfl (by simp) (by simp) (rp_items1 (r.mono disp_keep)))⟩
theorem pu_disp2 {x y : Str} (hxy : x ≠ y := by decide +kernel) (hv : PuE tv fv) (hu : PuE tu fu) : PuE (tDisp [(tC (.str x), tv), (tC (.str y), tu)]) (fun env => (fv env).bind fun d => (fu env).bind fun d2 => some (.map [.inr x, .inr y] [d, d2])) := fun P σ H env c Q he hf e k => by
  obtain ⟨d, e1, e2⟩ := Option.bind_eq_some_iff.mp e
  obtain ⟨d2, e3, e4⟩ := Option.bind_eq_some_iff.mp e2
  cases e4
  intro p hp
  have he1 := he.mono (keep_off hp (same_new (o := .dK []) hp))
  have hf1 := disp_fr (o := .dK []) hf hp
  refine hv (fun b => P b ∧ b ≠ p) σ (upd H p (.dK [])) env d _ he1 hf1 e1 fun v H2 m r => ?_
  refine hu (fun b => P b ∧ b ≠ p) σ H2 env d2 _ (he1.keepS m) (hf1.same m) e3 fun u H3 m3 r3 => ?_
  have hne : ¬ (Sum.inr x : L2.Key) = Sum.inr y := fun z => hxy (Sum.inr.inj z)
  have em : mergeK [] [((Sum.inr x : L2.Key), v), (Sum.inr y, u)] = [((Sum.inr x : L2.Key), v), (Sum.inr y, u)] := by simp [mergeK, putK, hne]
  refine ⟨m3 _ _ (m _ _ upd_same), [(Sum.inr x, v), (Sum.inr y, u)], rfl, (by decide : 2 ≤ 15), ?_⟩
  rw [em]
  refine k _ _ (disp_same hp (m.trans m3)) (.map (vs := [v, u]) (by rw [keep_at (hf _ hp)]; exact upd_same) rfl rfl (by simp) (by simp [hne]) fun i v' d' h1 h2 => ?_)
  match i, h1, h2 with
  | 0, h1, h2 => cases h1; cases h2; exact (r.keepS m3).mono disp_keep
  | 1, h1, h2 => cases h1; cases h2; exact r3.mono disp_keep
  | i + 2, h1, h2 => cases h1
end
section
variable {w L : Addr} {i j m q : Nat} {Pr : Addr → Prop} {σ : L2.St} {H : Hp} {env : List (Option E)} {ds : List E} {te : TE} {f : NE} {Φ : E → Prop} {rest : TS} {D : Ends}
/-- xs[a] = e, a a local name -/
theorem st_putV {kk a : Nat} (hE : NdE i q te f) (nO : NdO w L i j m Pr σ H env ds) (hm : q ≤ m) (hf : f env Φ) (ea : env[a]? = some (some (.int (kk : Nat)))) (hk : kk < ds.length) (k : ∀ d H2, (∀ H0, But w H0 H → H0 L = none → But w H0 H2) → NdO w L i j (m - q) Pr σ H2 env (ds.set kk d) → Φ d → rest D σ H2) : tSeq (tAsg te (gSub (tVar j) (tVar a) rSetL)) rest D σ H :=
  nd_go hE nO.nd hm hf fun v d H1 B W r hd => by
    have nO1 := nO.next B W
    obtain ⟨vs, g1, g2⟩ := nO1.vs
    have hl := g2.length
    obtain ⟨va, sa, ra⟩ := nO1.nd.en.2 a _ ea
    cases ra
    refine ⟨_, nO.at_, _, sa, L, vs, (kk : Int), kk, rfl, rfl, g1, ?_, ?_⟩
    · unfold ixN
      rw [if_pos (by omega), if_pos (by omega)]
      rfl
    · refine k d _ (fun H0 B0 h0 => NdO.fresh (B0.trans B) h0) (nO1.put (RpL.of (by rw [List.length_set, List.length_set]; exact hl) fun a v' d' h1 h2 => ?_)) hd
      by_cases ha : kk = a
      · subst ha
        rw [List.getElem?_set_self (by omega)] at h1 h2
        cases h1
        cases h2
        exact r
      · rw [List.getElem?_set_ne ha] at h1 h2
        exact g2.get a v' d' h1 h2
end
end ET

/-! == of two dicts whose values are equal data, and of anything plain and a dict -/
namespace ET
open PySem PySem.Spec PyProof.Rows L2 XR VT
variable [KC]
def eqD (K : PySem.W.Frag) (H : Hp) (x y : V) : Prop := ∃ p, Dp K H x p ∧ Dp K H y p ∧ SeqAt.shaped p = true ∧ p.depth ≤ 20
def rEqM (K : PySem.W.Frag) : R2 := fun x y H Q => ∃ a b ks ls, x = .ref a ∧ y = .ref b ∧ H a = some (.dK ks) ∧ H b = some (.dK ls) ∧ ks.length = ls.length ∧ (∀ p ∈ ks, ∃ u, valV ls p.1 = some u ∧ eqD K H p.2 u) ∧ Q (.bl true) H
section
variable {X : Cx}
theorem op_eqM (hu : X.A.units + 64 < cLine) : OpR X (compareOp .Eq) (rEqM X.K) := by
  intro pins s σ H x y v u Q I rx ry h
  obtain ⟨a, b, ks, ls, rfl, rfl, ha, hb, hl, hp, q⟩ := h
  refine eqR_run I (A := X.A) (F := eqD X.K H) (by omega) (fun x y v u f rx ry => ?_) (.inr ⟨a, b, ks, ls, rfl, rfl, ha, hb, hl, hp⟩) rx ry _ _ ⟨.bl true, H, I, rfl, q⟩
  obtain ⟨p, h1, h2, sh, dp⟩ := f
  obtain ⟨as, r1⟩ := Dp.reads I p x v h1 rx
  obtain ⟨bs, r2⟩ := Dp.reads I p y u h2 ry
  have cl := SeqAt.canLay_of_shaped sh
  have := (SeqAt.eqAt_reads p p X.A.in1 s v u as bs r1 r2 cl cl (by show X.A.units + 1 + min p.depth p.depth < cLine; omega)).eqP (prog := X.prog) (w := X.w)
  rw [SeqAt.eqv_refl p cl] at this
  exact this
/-- a part == a dict: equal dicts; plain values; an own object by its own __eq__ -/
def rEqA (K : PySem.W.Frag) (C : Addr) (sp : Sp) : R2 := fun x y H Q => rEqM K x y H Q ∨ rEqDk K x y H Q ∨ rEqU K C sp x y H Q
theorem op_eqA {K : PySem.W.Frag} {C : Addr} {sp : Sp} (hK : X.K = K) (hu : X.A.units + 64 < cLine) (h : OpR X (compareOp .Eq) (rEqU K C sp)) : OpR X (compareOp .Eq) (rEqA K C sp) := by
  subst hK
  intro pins s σ H x y v u Q I rx ry q
  rcases q with q | q | q
  · exact op_eqM hu pins s σ H x y v u Q I rx ry q
  · exact op_eqDk (by omega) pins s σ H x y v u Q I rx ry q
  · exact h pins s σ H x y v u Q I rx ry q
end
def datB (d : E) : Bool := match toP d with
  | some p => SeqAt.shaped p && decide (p.depth ≤ 20)
  | none => false
theorem datB_eq {d : E} (h : datB d = true) : ∃ p, toP d = some p ∧ SeqAt.shaped p = true ∧ p.depth ≤ 20 := by
  unfold datB at h
  split at h
  · rename_i p e
    obtain ⟨h1, h2⟩ := Bool.and_eq_true_iff.mp h
    exact ⟨p, e, h1, of_decide_eq_true h2⟩
  · cases h
open Classical in
noncomputable def eqA (C : Addr) (CS : List Addr) (F : List E → Option E) (d e : E) : Option E := match d, e with
  | .map ks ds, .map ks' ds' => if ks = ks' ∧ ds = ds' ∧ ds.all datB = true then some (.bl true) else none
  | .ins C' ns l, .map ks' ds' => eqU C CS F (.ins C' ns l) (.map ks' ds')
  | .lst _, _ => none
  | _, .map _ _ => some (.bl false)
  | _, _ => none
section
variable {K : PySem.W.Frag} [KcOk K] {C : Addr} {CS : List Addr}
theorem pu_eqA {F : List E → Option E} (hC : ∀ C ∈ CS, CF K C) (hn : ∀ t ∈ ["NoneType", "bool", "int", "str", "tuple", "dict", "list"], PySem.W.notFirst K C (.type t) = true) (hc : ∀ D ∈ CS, PySem.W.notFirst K C (.ref D) = true) (hb : ∀ ds d, F ds = some d → ∃ b, d = .bl b) :
    PuR (rEqA K C (spP F)) (eqA C CS F) := fun P x y H d e c Q rx ry hf h k => by
  unfold eqA at h
  split at h
  · rename_i ks ds ks' ds'
    split at h
    case isFalse => cases h
    rename_i hh
    obtain ⟨rfl, rfl, hd⟩ := hh
    cases h
    cases rx with
    | @map a vs _ _ ha hv hk hz nd hs =>
    cases ry with
    | @map b vs' _ _ hb' hv' hk' hz' nd' hs' =>
    refine .inl ⟨a, b, _, _, rfl, rfl, (keep_some ha).2, (keep_some hb').2, by rw [mk_length (hk.trans hv.symm), mk_length (hk'.trans hv'.symm)], fun p hp => ?_, k _ H (fun _ _ z => z) (.bl _)⟩
    obtain ⟨j, hj⟩ := List.getElem?_of_mem hp
    obtain ⟨e1, e2⟩ := mk_get (k := p.1) (v := p.2) hj
    have jl : j < ds.length := by
      have := (List.getElem?_eq_some_iff.mp e1).1
      omega
    have jv : j < vs'.length := by omega
    obtain ⟨q, eq1, eq2, eq3⟩ := datB_eq (List.all_eq_true.mp hd _ (List.getElem_mem jl))
    exact ⟨vs'[j], mk_val nd' e1 (List.getElem?_eq_getElem jv), q, (hs j _ _ e2 (List.getElem?_eq_getElem jl)).ofKeep.dp eq1, (hs' j _ _ (List.getElem?_eq_getElem jv) (List.getElem?_eq_getElem jl)).ofKeep.dp eq1, eq2, eq3⟩
  · exact .inr (.inr (pu_eqU hC hn hc hb P x y H _ _ c Q rx ry hf h k))
  · cases h
  · rename_i d ks ds n1 n2 n3
    cases h
    cases ry with
    | @map b vs' _ _ hb' hv' hk' hz' nd' hs' =>
    refine .inr (.inl ⟨b, _, rfl, (keep_some hb').2, ?_, k _ H (fun _ _ z => z) (.bl _)⟩)
    cases rx with
    | non => exact .inl rfl
    | bl z => exact .inr (.inl ⟨z, rfl⟩)
    | int z => exact .inr (.inr (.inl ⟨z, rfl⟩))
    | str z _ => exact .inr (.inr (.inr (.inl ⟨z, rfl⟩)))
    | tup ha _ _ _ => exact .inr (.inr (.inr (.inr ⟨_, _, rfl, TuA.sq ha⟩)))
    | lst => exact absurd rfl (n3 _)
    | map => exact (n1 _ _ rfl).elim
    | ins => exact absurd rfl (n2 _ _ _)
  · cases h
end
/-! tests that draw -/
section
variable {i q1 q2 : Nat} {tx ty : TT} {fx fy : NT}
theorem nd_and (hx : NdT i q1 tx fx) (hy : NdT i q2 ty fy) : NdT i (q1 + q2) (tAnd tx ty) (fun env Φ => fx env fun b => if b = true then fy env Φ else Φ false) := fun w n P σ H env Q Φ nd hf k => by
  refine hx w (n + q2) P σ H env _ _ (nd.le (by omega)) hf fun b H1 B1 W1 hb => ?_
  cases b with
  | true => exact iteT (hy w n P σ H1 env _ _ (nd.next B1 W1) hb fun b H2 B2 W2 hb2 => k b H2 (B1.trans B2) W2 hb2)
  | false => exact iteF (k false H1 B1 (W1.le (by omega)) hb)
end
end ET

/-! what a law's own body needs: tests that draw, three names at once, range(4) in a comprehension -/
namespace ET
open PySem L2 XR VT
variable [KC]
theorem pg_tupK {X : Cx} {K : PySem.W.Frag} {es : List Expr} {k : Nat} {t : TGs} {n : Nat} (hK : X.K = K) (hc : X.calm = true) (h : PGs X es t)
    (hn : (assignEach es X.env).length = n := by rfl) (hst : (assignEach es X.env).findIdx? (·.1) = none := by rfl) : PG X (.Tuple es k pos) (gTup K n t) := by
  subst hK
  exact pg_tup hc h hn hst
section
variable {i q q1 q2 : Nat} {tx ty : TT} {fx fy : NT} {te : TE} {f : NE}
theorem nd_b (h : NdE i q te f) : NdT i q (tB te) (fun env Φ => f env fun d => ∃ b, d = .bl b ∧ Φ b) := nd_test h
theorem nd_or (hx : NdT i q1 tx fx) (hy : NdT i q2 ty fy) : NdT i (q1 + q2) (tOr tx ty) (fun env Φ => fx env fun b => if b = true then Φ true else fy env Φ) := fun w n P σ H env Q Φ nd hf k => by
  refine hx w (n + q2) P σ H env _ _ (nd.le (by omega)) hf fun b H1 B1 W1 hb => ?_
  cases b with
  | true => exact iteT (k true H1 B1 (W1.le (by omega)) hb)
  | false => exact iteF (hy w n P σ H1 env _ _ (nd.next B1 W1) hb fun b H2 B2 W2 hb2 => k b H2 (B1.trans B2) W2 hb2)
theorem nd_callP {tl : TA} {fl : NA} {F : List E → Option E} {E0 : XK} (hl : NdA i q tl fl) : NdE i q (tCall (spP F) [] E0 tl) (fun env Φ => fl env fun l => ∃ c, F l = some c ∧ Φ c) := fun w n P σ H env Q Φ nd hf k =>
  hl w n P σ H env _ _ nd hf fun vs l H1 B1 W1 r1 ⟨c, e, hc⟩ => ⟨P, l, c, by rw [List.append_nil]; exact r1, frB nd.fr B1 W1, e, fun z H3 m3 r3 => k z c H3 (B1.trans (But.of m3)) (W1.same m3) r3 hc⟩
end
section
variable {K : PySem.W.Frag} [KcOk K] {w : Addr} {i j m q : Nat} {Pr : Addr → Prop} {σ : L2.St} {H : Hp} {env : List (Option E)} {rest t : TS} {D : Ends} {tt : TT} {ft : NT}
theorem st_ifNd1 (hx : NdT i q tt ft) (nd : Nd w i m Pr σ H env) (hm : q ≤ m) (hf : ft env fun b => b = false) (k : ∀ H1, But w H H1 → Nd w i (m - q) Pr σ H1 env → D.nx σ H1) : tIfS tt t tNext D σ H := by
  have nd' : Nd w i ((m - q) + q) Pr σ H env := nd.le (by omega)
  refine hx w (m - q) Pr σ H env _ _ nd' hf fun b H1 B1 W1 hb => ?_
  subst hb
  exact iteF (k H1 B1 (nd.next B1 W1))
/-- x, y, z = (a, b, c) -/
theorem st_tup3 {a b c : Nat} {tl : TA} {fl : FA} {d1 d2 d3 : E} (ha : PuA tl fl) (nd : Nd w i m Pr σ H env) (e : fl env = some [d1, d2, d3]) (ai : a ≠ i) (bi : b ≠ i) (ci : c ≠ i)
    (k : ∀ v1 v2 v3 H1, But w H H1 → Nd w i m Pr (((σ.set a (some v1)).set b (some v2)).set c (some v3)) H1 (((env.set a (some d1)).set b (some d2)).set c (some d3)) → rest D (((σ.set a (some v1)).set b (some v2)).set c (some v3)) H1) : tSeq (tPar3 a b c tl) rest D σ H := by
  refine ha Pr σ H env _ _ nd.en nd.fr e fun vs H2 m1 r2 => ?_
  have B := But.of (w := w) m1
  have nd2 := nd.next B (nd.wl.same m1)
  cases r2 with
  | @cons v1 _ _ _ x1 r2 =>
  cases r2 with
  | @cons v2 _ _ _ x2 r2 =>
  cases r2 with
  | @cons v3 _ _ _ x3 r2 =>
  cases r2
  exact ⟨v1, v2, v3, rfl, k v1 v2 v3 H2 B (((nd2.set ai x1).set bi x2).set ci x3)⟩
theorem Nd.sub {env' : List (Option E)} {n : Nat} (h : Nd w i m Pr σ H env) (s : subE env' env) (l : n ≤ m) : Nd w i n Pr σ H env' := ⟨en_sub h.en s, h.fr, h.nw, h.wl.le l, h.at_⟩
theorem pu_iRng {n : Nat} (hn : n ≤ 900) : PuI (iRng1 (tCons (tC (.int (n : Nat))) tNil)) (fun _ => some ((List.range n).map fun i => E.int (i : Nat))) := fun P σ H env l R he hf e => by
  cases e
  refine ⟨by rw [List.length_map, List.length_range]; exact hn, fun k => ⟨(n : Nat), rfl, by omega, by omega, ?_⟩⟩
  have w := walk_range (lo := 0) (n := n)
  refine k _ H (fun _ => True) _ (by rw [List.length_map, List.length_range]; exact w) (fun _ _ z => z) (fun _ _ => trivial) fun i x H2 H3 d m hy hd => ?_
  obtain ⟨rfl, rfl⟩ := hy
  rw [List.getElem?_map] at hd
  cases hr : (List.range n)[i]? with
  | none => rw [hr] at hd; cases hd
  | some y =>
    rw [hr] at hd
    cases hd
    have hi : i < n := by
      have := (List.getElem?_eq_some_iff.mp hr).1
      rwa [List.length_range] at this
    rw [List.getElem?_range hi] at hr
    cases hr
    refine ⟨rfl, ?_⟩
    show Rp _ (V.int (0 + (i : Int))) (.int (i : Nat))
    rw [Int.zero_add]
    exact .int _
end
inductive Al (alt : E → E → Prop) : List E → List E → Prop
  | nil : Al alt [] []
  | cons {x y : E} {l r : List E} : alt x y → Al alt l r → Al alt (x :: l) (y :: r)
theorem lcN_opt {ft : NT} {fe : NE} {env : List (Option E)} {j : Nat} {alt : E → E → Prop} : ∀ {l : List E} {Φ : List E → Prop}, (∀ x ∈ l, ∀ φ : Bool → Prop, φ true → ft (env.set j (some x)) φ) → (∀ x ∈ l, ∀ φ : E → Prop, (∀ y, alt x y → φ y) → fe (env.set j (some x)) φ) → (∀ r, Al alt l r → Φ r) → lcN ft fe env j l Φ
  | [], Φ, _, _, k => k [] .nil
  | x :: l, Φ, ht, he, k => ht x List.mem_cons_self _ (by
    rw [if_pos rfl]
    exact he x List.mem_cons_self _ fun y hy => lcN_opt (fun z hz => ht z (List.mem_cons_of_mem _ hz)) (fun z hz => he z (List.mem_cons_of_mem _ hz)) fun r hr => k _ (.cons hy hr))
end ET

namespace K15
open PySem L2 XR VT ET
variable [KC]
def top (i : Nat) : Stmt := PySem.Challenge.pw_planfirst_k15_parts_that_are_equal.main.body.getD i (.Pass ⟨0, 0, 0, 0⟩)
abbrev sInt : Stmt := top 7
abbrev sName : Stmt := top 8
abbrev sTag : Stmt := top 9
abbrev sSort : Stmt := top 12
structure Txt (mg : Str → Option Value) : Prop where
  isi : mg "isinstance" = none
  len : mg "len" = none
  all : mg "all" = none
  zip : mg "zip" = none
  tuple : mg "tuple" = none
  dict : mg "dict" = none
  list : mg "list" = none
  bool : mg "bool" = none
  int : mg "int" = none
  str : mg "str" = none
  letters : ∃ t, mg "LETTERS" = some (.str "abcdefghijklmnopqrstuvwxyz" t)
  mark : ∃ t, mg "MARK" = some (.str "#" t)
mutual
/-- no instance stands in it -/
def pl : E → Bool
  | .ins _ _ _ => false
  | .tup l => plL l
  | .lst l => plL l
  | .map _ ds => plL ds
  | _ => true
def plL : List E → Bool
  | [] => true
  | d :: l => pl d && plL l
end
theorem plL_cons {d : E} {l : List E} (h : plL (d :: l) = true) : pl d = true ∧ plL l = true := Bool.and_eq_true_iff.mp h
theorem pl_mem : ∀ {l : List E} {d : E}, plL l = true → d ∈ l → pl d = true
  | x :: l, d, h, hd => by
    obtain ⟨h1, h2⟩ := plL_cons h
    rcases List.mem_cons.mp hd with rfl | hd
    · exact h1
    · exact pl_mem h2 hd
def intE : E → Bool
  | .int _ => true
  | _ => false
def nameE : E → Bool
  | .str x => isName x
  | _ => false
def tagL : List E → Bool
  | [.str m, .str n, .int i] => decide (m = "#") && isName n && decide (1 ≤ i)
  | _ => false
def tagE : E → Bool
  | .tup l => tagL l
  | _ => false
def sortE : E → Str
  | .tup l => if tagL l then "tag" else "tuple"
  | .bl _ => "bool"
  | .int _ => "integer"
  | .map _ _ => "map"
  | .str _ => "text"
  | _ => "none"
def d1 (f : E → E) : List E → Option E
  | [d] => if pl d = true then some (f d) else none
  | _ => none
theorem d1_len {f : E → E} (ds : List E) (d : E) (h : d1 f ds = some d) : ds.length = 1 := by
  unfold d1 at h
  split at h
  · rfl
  · cases h
theorem d1_eq {f : E → E} {ds : List E} {d : E} (h : d1 f ds = some d) : ∃ x, ds = [x] ∧ pl x = true ∧ d = f x := by
  unfold d1 at h
  split at h
  · rename_i x
    split at h
    · rename_i hx
      cases h
      exact ⟨x, rfl, hx, rfl⟩
    · cases h
  · cases h
/-- what is_tag and sort_of are asked of -/
def tagD : E → Bool
  | .tup [a, b, c] => pl a && pl b && pl c
  | .ins _ _ _ => false
  | _ => true
def domT (f : E → E) : List E → Option E
  | [d] => if tagD d = true then some (f d) else none
  | _ => none
theorem domT_len {f : E → E} (ds : List E) (d : E) (h : domT f ds = some d) : ds.length = 1 := by
  unfold domT at h
  split at h
  · rfl
  · cases h
theorem domT_eq {f : E → E} {ds : List E} {d : E} (h : domT f ds = some d) : ∃ x, ds = [x] ∧ tagD x = true ∧ d = f x := by
  unfold domT at h
  split at h
  · rename_i x
    split at h
    · rename_i hx
      cases h
      exact ⟨x, rfl, hx, rfl⟩
    · cases h
  · cases h
theorem tagD_3 {a b c : E} (h : tagD (.tup [a, b, c]) = true) : pl a = true ∧ pl b = true ∧ pl c = true := by
  have h : (pl a && pl b && pl c) = true := h
  simp only [Bool.and_eq_true] at h
  exact ⟨h.1.1, h.1.2, h.2⟩
section
variable {P : Program} {w : World} {K : PySem.W.Frag} {mg : Str → Option Value} {base : Heap} [KcOk K]
variable {CS : List Addr}
theorem scIn : FnScope ["thing"] ["thing"] (defScope sInt) := ⟨rfl, rfl, rfl, by decide +kernel, rfl, by decide +kernel, by decide +kernel⟩
theorem ok_int {f : Addr} {fd : FuncData} (F : Fun K "is_integer" "is_integer" sInt f fd) (T : Txt mg) (hC : ∀ C ∈ CS, CF K C) : FnOk P w K mg base CX0 1 f fd ["thing"] (spP (d1 fun d => .bl (intE d))) := by
  refine F.ok scIn (fun vs H Q E0 h => spP_len d1_len h) (fun cdv A outer s H vs Q E0 hr h => ?_)
  refine ⟨_, (pss_one (ps_ret (pe_and (pe_callB (call_isiK (K := K) rfl) (by rfl) T.isi (by decide +kernel) (pa_cons (pv 0) (pa_cons (pe_bltn (v := .ty "int") (by rfl) T.int (by decide +kernel) rfl) pa_nil))) (pe_one (pe_not (pe_callB (call_isiK (K := K) rfl) (by rfl) T.isi (by decide +kernel) (pa_cons (pv 0) (pa_cons (pe_bltn (v := .ty "bool") (by rfl) T.bool (by decide +kernel) rfl) pa_nil)))))))), ?_⟩
  apply pu_def (h := h)
  case pu => (repeat' first
    | with_reducible exact pu_var _ | with_reducible exact pu_non | with_reducible exact pu_bl _ | with_reducible exact pu_int _ | with_reducible exact pu_nil | with_reducible exact pu_next | with_reducible exact pu_yes
    | with_reducible apply pu_seq | with_reducible apply pu_ifS | with_reducible apply pu_ret | with_reducible apply pu_asg
    | with_reducible apply pu_and | with_reducible apply pu_or | with_reducible apply pu_not | with_reducible apply pu_test | with_reducible apply pu_b
    | with_reducible apply pu_andV | with_reducible apply pu_orV | with_reducible apply pu_notV | with_reducible apply pu_if
    | with_reducible apply pu_isi hC | with_reducible apply pu_cb (hr := pu_len) | with_reducible apply pu_cb (hr := pu_all) | with_reducible apply pu_cb (hr := pu_any) | with_reducible apply pu_cb (hr := pu_tupOf) | with_reducible apply pu_cb (hr := pu_lstOf)
    
    | with_reducible apply pu_op (hr := pu_ixT) | with_reducible apply pu_op (hr := pu_ixL) | with_reducible apply pu_op (hr := pu_eqS) | with_reducible apply pu_op (hr := pu_neS) | with_reducible apply pu_op (hr := pu_in) | with_reducible apply pu_op (hr := pu_isNo) | with_reducible apply pu_op (hr := pu_notNo)
    | with_reducible apply pu_op (hr := pu_cm) | with_reducible apply pu_op (hr := pu_ar) | with_reducible apply pu_op (hr := pu_eqP) | with_reducible apply pu_op (hr := pu_neP) | with_reducible apply pu_op (hr := pu_catT) | with_reducible apply pu_op (hr := pu_catL)
    | with_reducible apply pu_chain pu_cm pu_cm | with_reducible apply pu_lcV | with_reducible apply pu_dcV | with_reducible apply pu_iTup | with_reducible apply pu_iLst
    | with_reducible apply pu_slT | with_reducible apply pu_slL | with_reducible exact pu_noPart | with_reducible exact pu_part _
    | exact pu_str _ ⟨by decide +kernel, by decide +kernel⟩ | with_reducible apply pu_call | with_reducible apply pu_tup | with_reducible apply pu_lst | with_reducible apply pu_cons | (with_reducible_and_instances rfl) | rfl)
  case hF =>
    intro ds d e
    obtain ⟨x, rfl, hx, rfl⟩ := d1_eq e
    cases x <;> first | rfl | cases hx
theorem scNa : FnScope ["thing", "letter"] ["thing"] (defScope sName) := ⟨rfl, rfl, rfl, by decide +kernel, rfl, by decide +kernel, by decide +kernel⟩
theorem scTg : FnScope ["thing"] ["thing"] (defScope sTag) := ⟨rfl, rfl, rfl, by decide +kernel, rfl, by decide +kernel, by decide +kernel⟩
theorem ok_tag {f fN fI : Addr} {fd dN dI : FuncData} (F : Fun K "is_tag" "is_tag" sTag f fd) (T : Txt mg) (hC : ∀ C ∈ CS, CF K C)
    (GN : FnOk P w K mg base CX0 1 fN dN ["thing"] (spP (d1 fun d => .bl (nameE d)))) (gN : mg "is_name" = some (.ref fN)) (kN : PySem.W.keepIn K (.ref fN) = true) (bN : Binds K dN ["thing"] [])
    (GI : FnOk P w K mg base CX0 1 fI dI ["thing"] (spP (d1 fun d => .bl (intE d)))) (gI : mg "is_integer" = some (.ref fI)) (kI : PySem.W.keepIn K (.ref fI) = true) (bI : Binds K dI ["thing"] []) : FnOk P w K mg base CX0 2 f fd ["thing"] (spP (domT fun d => .bl (tagE d))) := by
  obtain ⟨tM, gM⟩ := T.mark
  refine F.ok scTg (fun vs H Q E0 h => spP_len domT_len h) (fun cdv A outer s H vs Q E0 hr h => ?_)
  refine ⟨_, (pss_cons (ps_if (PW.pt (pw_or (pt_not (pt_val (pe_callB (call_isiK (K := K) rfl) (by rfl) T.isi (by decide +kernel) (pa_cons (pv 0) (pa_cons (pe_bltn (v := .ty "tuple") (by rfl) T.tuple (by decide +kernel) rfl) pa_nil))))) (pw_or (pt_cmpR op_ne (pe_callB (call_lenK (K := K) rfl) (by rfl) T.len (by decide +kernel) (pa_cons (pv 0) pa_nil)) pe_int (nomark _)) (pw_or (pt_not (pt_val (pe_callB (call_isiK (K := K) rfl) (by rfl) T.isi (by decide +kernel) (pa_cons (pe_ix (ix_tupK (K := K) rfl) (pv 0) pe_int (fun _ _ => rfl)) (pa_cons (pe_bltn (v := .ty "str") (by rfl) T.str (by decide +kernel) rfl) pa_nil))))) (pw_or1 (pt_cmpR op_ne (pe_ix (ix_tupK (K := K) rfl) (pv 0) pe_int (fun _ _ => rfl)) (pe_glob (v := .str "#") rfl gM ⟨_, rfl⟩) (nomark _))))))) (pss_one (ps_ret pe_bl)) pss_nil)
      (pss_one (ps_ret (pe_and (pe_call GN hr rfl gN kN bN .nil pass0 (pa_cons (pe_ix (ix_tupK (K := K) rfl) (pv 0) pe_int (fun _ _ => rfl)) pa_nil)) (pe_and (pe_call GI hr rfl gI kI bI .nil pass0 (pa_cons (pe_ix (ix_tupK (K := K) rfl) (pv 0) pe_int (fun _ _ => rfl)) pa_nil)) (pe_one (pe_cmpR op_ge (pe_ix (ix_tupK (K := K) rfl) (pv 0) pe_int (fun _ _ => rfl)) pe_int (nomark _)))))))), ?_⟩
  apply pu_def (h := h)
  case pu => (repeat' first
    | with_reducible exact pu_var _ | with_reducible exact pu_non | with_reducible exact pu_bl _ | with_reducible exact pu_int _ | with_reducible exact pu_nil | with_reducible exact pu_next | with_reducible exact pu_yes
    | with_reducible apply pu_seq | with_reducible apply pu_ifS | with_reducible apply pu_ret | with_reducible apply pu_asg
    | with_reducible apply pu_and | with_reducible apply pu_or | with_reducible apply pu_not | with_reducible apply pu_test | with_reducible apply pu_b
    | with_reducible apply pu_andV | with_reducible apply pu_orV | with_reducible apply pu_notV | with_reducible apply pu_if
    | with_reducible apply pu_isi hC | with_reducible apply pu_cb (hr := pu_len) | with_reducible apply pu_cb (hr := pu_all) | with_reducible apply pu_cb (hr := pu_any) | with_reducible apply pu_cb (hr := pu_tupOf) | with_reducible apply pu_cb (hr := pu_lstOf)
    
    | with_reducible apply pu_op (hr := pu_ixT) | with_reducible apply pu_op (hr := pu_ixL) | with_reducible apply pu_op (hr := pu_eqS) | with_reducible apply pu_op (hr := pu_neS) | with_reducible apply pu_op (hr := pu_in) | with_reducible apply pu_op (hr := pu_isNo) | with_reducible apply pu_op (hr := pu_notNo)
    | with_reducible apply pu_op (hr := pu_cm) | with_reducible apply pu_op (hr := pu_ar) | with_reducible apply pu_op (hr := pu_eqP) | with_reducible apply pu_op (hr := pu_neP) | with_reducible apply pu_op (hr := pu_catT) | with_reducible apply pu_op (hr := pu_catL)
    | with_reducible apply pu_chain pu_cm pu_cm | with_reducible apply pu_lcV | with_reducible apply pu_dcV | with_reducible apply pu_iTup | with_reducible apply pu_iLst
    | with_reducible apply pu_slT | with_reducible apply pu_slL | with_reducible exact pu_noPart | with_reducible exact pu_part _
    | exact pu_str _ ⟨by decide +kernel, by decide +kernel⟩ | with_reducible apply pu_call | with_reducible apply pu_tup | with_reducible apply pu_lst | with_reducible apply pu_cons | (with_reducible_and_instances rfl) | rfl)
  case hF =>
    intro ds d e
    obtain ⟨x, rfl, hx, rfl⟩ := domT_eq e
    cases x with
    | tup l =>
      by_cases hl : l.length = 3
      · match l, hl, hx with
        | [a, b, c], _, hx =>
          obtain ⟨ha, hb, hc⟩ := tagD_3 hx
          cases a with
          | str m =>
            by_cases hm : m = "#"
            · subst hm
              have go : ∀ z, d1 (fun d => .bl (nameE d)) [b] = some (.bl (nameE b)) → d1 (fun d => .bl (intE d)) [c] = some (.bl (intE c)) → z = tagL [.str "#", b, c] → (if nameE b = true then (if intE c = true then (cmI (fun i j => decide (j ≤ i)) c (.int 1)).bind toB else some false) else some false) = some z := fun z _ _ hz => by
                subst hz
                cases b with
                | str n =>
                  cases hn : isName n with
                  | true =>
                    rw [show nameE (.str n) = true from hn, if_pos rfl]
                    cases c with
                    | int i => simp [cmI, intE, toB, tagL, hn]
                    | _ => rfl
                  | false =>
                    rw [show nameE (.str n) = false from hn, if_neg (by decide)]
                    cases c <;> simp [tagL, hn]
                | _ => rfl
              have g1 : d1 (fun d => .bl (nameE d)) [b] = some (.bl (nameE b)) := by simp [d1, hb]
              have g2 : d1 (fun d => .bl (intE d)) [c] = some (.bl (intE c)) := by simp [d1, hc]
              have g3 := go _ g1 g2 rfl
              cases hn : nameE b with
              | false =>
                rw [hn, if_neg (by decide)] at g3
                simp [env0, isT, isC, isN, tyN, lenE, allE, anyE, bools, ixT, ixL, atI, ixN, isNo, notNo, eqS, neS, sc, cmI, arI, inE, items, flatE, eqF, toB, g1, hn, tagE, ← Option.some.inj g3]
              | true =>
                rw [hn, if_pos rfl] at g3
                cases hi : intE c with
                | false =>
                  rw [hi, if_neg (by decide)] at g3
                  simp [env0, isT, isC, isN, tyN, lenE, allE, anyE, bools, ixT, ixL, atI, ixN, isNo, notNo, eqS, neS, sc, cmI, arI, inE, items, flatE, eqF, toB, g1, g2, hn, hi, tagE, ← Option.some.inj g3]
                | true =>
                  cases c with
                  | int i =>
                    have g4 : some (decide ((1 : Int) ≤ i)) = some (tagL [.str "#", b, .int i]) := g3
                    simp [env0, isT, isC, isN, tyN, lenE, allE, anyE, bools, ixT, ixL, atI, ixN, isNo, notNo, eqS, neS, sc, cmI, arI, inE, items, flatE, eqF, toB, g1, g2, hn, hi, tagE, ← Option.some.inj g4]
                  | _ => cases hi
            · have : tagL [.str m, b, c] = false := by
                cases b <;> cases c <;> simp [tagL, hm]
              simp [env0, isT, isC, isN, tyN, lenE, allE, anyE, bools, ixT, ixL, atI, ixN, isNo, notNo, eqS, neS, sc, cmI, arI, inE, items, flatE, eqF, toB, tagE, hm, this]
          | ins _ _ _ => cases ha
          | _ => rfl
      · have h0 : tagL l = false := by
          unfold tagL
          split
          · exact absurd rfl hl
          · rfl
        have h1 : ¬ ((l.length : Int) = 3) := by omega
        simp [env0, isT, isC, isN, tyN, lenE, allE, anyE, bools, ixT, ixL, atI, ixN, isNo, notNo, eqS, neS, sc, cmI, arI, inE, items, flatE, eqF, toB, tagE, h0, h1]
    | _ => first | rfl | cases hx
theorem scSo : FnScope ["value"] ["value"] (defScope sSort) := ⟨rfl, rfl, rfl, by decide +kernel, rfl, by decide +kernel, by decide +kernel⟩
theorem ok_sort {f fT : Addr} {fd dT : FuncData} (F : Fun K "sort_of" "sort_of" sSort f fd) (T : Txt mg) (hC : ∀ C ∈ CS, CF K C)
    (GT : FnOk P w K mg base CX0 2 fT dT ["thing"] (spP (domT fun d => .bl (tagE d)))) (gT : mg "is_tag" = some (.ref fT)) (kT : PySem.W.keepIn K (.ref fT) = true) (bT : Binds K dT ["thing"] []) : FnOk P w K mg base CX0 3 f fd ["value"] (spP (domT fun d => .str (sortE d))) := by
  refine F.ok scSo (fun vs H Q E0 h => spP_len domT_len h) (fun cdv A outer s H vs Q E0 hr h => ?_)
  refine ⟨_, (pss_cons (ps_if (pt_val (pe_callB (call_isiK (K := K) rfl) (by rfl) T.isi (by decide +kernel) (pa_cons (pv 0) (pa_cons (pe_bltn (v := .ty "tuple") (by rfl) T.tuple (by decide +kernel) rfl) pa_nil)))) (pss_one (ps_ret (pe_ifExp (pt_val (pe_call GT hr rfl gT kT bT .nil pass0 (pa_cons (pv 0) pa_nil))) pe_str pe_str))) pss_nil)
      (pss_cons (ps_if (pt_val (pe_callB (call_isiK (K := K) rfl) (by rfl) T.isi (by decide +kernel) (pa_cons (pv 0) (pa_cons (pe_bltn (v := .ty "bool") (by rfl) T.bool (by decide +kernel) rfl) pa_nil)))) (pss_one (ps_ret pe_str)) pss_nil)
      (pss_cons (ps_if (pt_val (pe_callB (call_isiK (K := K) rfl) (by rfl) T.isi (by decide +kernel) (pa_cons (pv 0) (pa_cons (pe_bltn (v := .ty "int") (by rfl) T.int (by decide +kernel) rfl) pa_nil)))) (pss_one (ps_ret pe_str)) pss_nil)
      (pss_cons (ps_if (pt_val (pe_callB (call_isiK (K := K) rfl) (by rfl) T.isi (by decide +kernel) (pa_cons (pv 0) (pa_cons (pe_bltn (v := .ty "dict") (by rfl) T.dict (by decide +kernel) rfl) pa_nil)))) (pss_one (ps_ret pe_str)) pss_nil)
      (pss_one (ps_ret (pe_ifExp (pt_val (pe_callB (call_isiK (K := K) rfl) (by rfl) T.isi (by decide +kernel) (pa_cons (pv 0) (pa_cons (pe_bltn (v := .ty "str") (by rfl) T.str (by decide +kernel) rfl) pa_nil)))) pe_str pe_str))))))), ?_⟩
  apply pu_def (h := h)
  case pu => (repeat' first
    | with_reducible exact pu_var _ | with_reducible exact pu_non | with_reducible exact pu_bl _ | with_reducible exact pu_int _ | with_reducible exact pu_nil | with_reducible exact pu_next | with_reducible exact pu_yes
    | with_reducible apply pu_seq | with_reducible apply pu_ifS | with_reducible apply pu_ret | with_reducible apply pu_asg
    | with_reducible apply pu_and | with_reducible apply pu_or | with_reducible apply pu_not | with_reducible apply pu_test | with_reducible apply pu_b
    | with_reducible apply pu_andV | with_reducible apply pu_orV | with_reducible apply pu_notV | with_reducible apply pu_if
    | with_reducible apply pu_isi hC | with_reducible apply pu_cb (hr := pu_len) | with_reducible apply pu_cb (hr := pu_all) | with_reducible apply pu_cb (hr := pu_any) | with_reducible apply pu_cb (hr := pu_tupOf) | with_reducible apply pu_cb (hr := pu_lstOf)
    
    | with_reducible apply pu_op (hr := pu_ixT) | with_reducible apply pu_op (hr := pu_ixL) | with_reducible apply pu_op (hr := pu_eqS) | with_reducible apply pu_op (hr := pu_neS) | with_reducible apply pu_op (hr := pu_in) | with_reducible apply pu_op (hr := pu_isNo) | with_reducible apply pu_op (hr := pu_notNo)
    | with_reducible apply pu_op (hr := pu_cm) | with_reducible apply pu_op (hr := pu_ar) | with_reducible apply pu_op (hr := pu_eqP) | with_reducible apply pu_op (hr := pu_neP) | with_reducible apply pu_op (hr := pu_catT) | with_reducible apply pu_op (hr := pu_catL)
    | with_reducible apply pu_chain pu_cm pu_cm | with_reducible apply pu_lcV | with_reducible apply pu_dcV | with_reducible apply pu_iTup | with_reducible apply pu_iLst
    | with_reducible apply pu_slT | with_reducible apply pu_slL | with_reducible exact pu_noPart | with_reducible exact pu_part _
    | exact pu_str _ ⟨by decide +kernel, by decide +kernel⟩ | with_reducible apply pu_call | with_reducible apply pu_tup | with_reducible apply pu_lst | with_reducible apply pu_cons | (with_reducible_and_instances rfl) | rfl)
  case hF =>
    intro ds d e
    obtain ⟨x, rfl, hx, rfl⟩ := domT_eq e
    cases x with
    | tup l =>
      cases ht : tagL l <;> simp [env0, isT, isC, isN, tyN, lenE, allE, anyE, bools, ixT, ixL, atI, ixN, isNo, notNo, eqS, neS, sc, cmI, arI, inE, items, flatE, eqF, toB, domT, hx, tagE, sortE, ht]
    | _ => first | rfl | cases hx
end
end K15

namespace K15
open PySem L2 XR VT ET
variable [KC]
abbrev sEq : Stmt := top 14
abbrev sVEq : Stmt := inClass (top 13) 2
section
variable {P : Program} {w : World} {K : PySem.W.Frag} {mg : Str → Option Value} {base : Heap} [KcOk K]
variable {CS : List Addr}
theorem ok_name {f : Addr} {fd : FuncData} (F : Fun K "is_name" "is_name" sName f fd) (T : Txt mg) (hC : ∀ C ∈ CS, CF K C) : FnOk P w K mg base CX0 1 f fd ["thing"] (spP (d1 fun d => .bl (nameE d))) := by
  obtain ⟨tL, hL⟩ := T.letters
  refine F.ok scNa (fun vs H Q E0 h => spP_len d1_len h) (fun cdv A outer s H vs Q E0 hr h => ?_)
  obtain ⟨Pr, ds, d0, r, fr, e, kk⟩ := h
  obtain ⟨d, rfl, hp, rfl⟩ := d1_eq e
  cases r with
  | @cons v _ _ _ hd t =>
  cases t
  have k : ∀ H', Same H H' → Q (.bl (nameE d)) H' := fun H' m => kk _ H' m (.bl _)
  refine ⟨_, (pss_one (ps_ret (pe_and (pe_callB (call_isiK (K := K) rfl) (by rfl) T.isi (by decide +kernel) (pa_cons (pv 0) (pa_cons (pe_bltn (v := .ty "str") (by rfl) T.str (by decide +kernel) rfl) pa_nil))) (pe_and (pe_chain op_le op_le pe_int (pe_callB call_len (by rfl) T.len (by decide +kernel) (pa_cons (pv 0) pa_nil)) pe_int) (pe_one (pe_callB (cr_all rfl) (by rfl) T.all (by decide +kernel) (pa_cons (pe_lc (own := [("letter", 1)]) (g := gName 1) (tt := tYes) rfl scNa.nd (pi_str (pv 0)) (blkOk_by (own := [("letter", 1)]) (N := ["thing", "letter"]) (sc := (defScope sName)) (by decide +kernel)) (fun _ _ _ _ _ => pg_name (i := 1) scNa.nd rfl (Or.inl rfl)) (fun _ _ _ _ _ => pts_nil) (fun _ _ _ _ _ => (pe_cmpR op_in_sign (pv 1) (pe_glob (v := .str "abcdefghijklmnopqrstuvwxyz") rfl hL ⟨_, rfl⟩) (by rfl)))) pa_nil))))))), ?_⟩
  have ni : ∀ C ns ds, d ≠ .ins C ns ds := fun C ns ds z => by rw [z] at hp; cases hp
  have tv : TyX K H v (tyE d) := hd.ofKeep.ty hC fun C ns ds z => absurd z (ni C ns ds)
  refine ⟨_, rfl, _, _, _, _, _, rfl, .ty _, tv, kit_is "str" (by decide) d ni, _, rfl, ?_⟩
  cases hd with
  | str x hx =>
    refine iteT ?_
    have hxl := hx.2
    have fin : ∀ b H', Same H H' → b = isName x → Q (.bl b) H' := fun b H' m e => by rw [e]; exact k H' m
    refine ⟨_, rfl, _, _, rfl, ⟨(by rw [sizeLine_eq]; omega), rfl⟩, ?_⟩
    refine ⟨1, _, rfl, rfl, _, rfl, ?_⟩
    have lx : x.length = x.cps.size := rfl
    by_cases h1 : (1 : Int) ≤ (x.length : Int)
    case neg =>
      rw [decide_eq_false h1]
      refine iteF ⟨_, rfl, iteF (fin _ H (fun _ _ z => z) ?_)⟩
      have : ¬ 1 ≤ x.length := by omega
      simp [isName, this]
    rw [decide_eq_true h1]
    refine iteT ⟨_, 12, rfl, rfl, _, rfl, ?_⟩
    by_cases h2 : (x.length : Int) ≤ 12
    case neg =>
      rw [decide_eq_false h2]
      refine iteF (fin _ H (fun _ _ z => z) ?_)
      have : ¬ x.length ≤ 12 := by omega
      simp [isName, this]
    rw [decide_eq_true h2]
    refine iteT ?_
    refine ⟨_, rfl, x, rfl, fun D hD => ?_⟩
    refine lc_pure walk_str hD (x.cps.toList.map fun c => V.bl (decide (c ∈ letters))) (by rw [List.length_map]; rfl) (by show x.length < sizeLine; rw [sizeLine_eq]; omega) (fun _ _ => trivial) (fun i y H2 H3 z hz m hy N hN => ?_) mono_name (fun H' m f => ?_)
    · obtain ⟨rfl, c, hc, rfl⟩ := hy
      have hc' : x.cps.toList[i]? = some c := by rw [Array.getElem?_toList]; exact hc
      rw [List.getElem?_map, hc'] at hz
      cases hz
      exact ⟨rfl, _, rfl, c, _, rfl, rfl, hN _ (fun _ _ z => z)⟩
    · have e : x.cps.toList.map (fun c => V.bl (decide (c ∈ letters))) = (x.cps.toList.map fun c => decide (c ∈ letters)).map V.bl := by
        rw [List.map_map]
        rfl
      rw [e] at f
      refine ⟨D, _, rfl, SqL.of f, fin _ H' m ?_⟩
      have h1' : 1 ≤ x.length := by omega
      have h2' : x.length ≤ 12 := by omega
      rw [List.all_map]
      simp [isName, h1', h2']
  | _ => first | exact iteF (k H (fun _ _ z => z)) | cases hp
end
/-- the program's classes -/
structure CL where
  CB : Addr
  CR : Addr
  CC : Addr
  CM : Addr
  CG : Addr
def CL.all (L : CL) : List Addr := [L.CB, L.CR, L.CC, L.CM, L.CG]
def flB : List Str := ["kind", "name", "attributes", "many", "after", "first", "never", "ignored", "replaced_by", "ahead"]
def flR : List Str := ["kind", "name", "question", "after"]
def flC : List Str := ["name", "config", "arguments", "after"]
def flM : List Str := ["old", "new"]
def flG : List Str := ["params", "blocks", "readings", "calls", "outputs", "moves"]
def CL.fl (L : CL) (C : Addr) : List Str := if C = L.CB then flB else if C = L.CR then flR else if C = L.CC then flC else if C = L.CM then flM else flG
def CL.nm (L : CL) (C : Addr) : Str := if C = L.CB then "Block" else if C = L.CR then "Reading" else if C = L.CC then "Call" else if C = L.CM then "Move" else "Config"
mutual
/-- tuples and simple values -/
def vq : E → Bool
  | .tup l => vqL l
  | .map _ _ => false
  | .lst _ => false
  | .ins _ _ _ => false
  | _ => true
def vqL : List E → Bool
  | [] => true
  | d :: l => vq d && vqL l
end
mutual
def wt : E → Nat
  | .tup l => wtL l + 1
  | .lst l => wtL l + 2
  | .map _ ds => wtL ds + 1
  | .ins _ _ ds => wtL ds + 2
  | _ => 0
def wtL : List E → Nat
  | [] => 0
  | d :: l => max (wt d) (wtL l)
end
mutual
/-- what are_equal is asked of -/
def qg (L : CL) : E → Bool
  | .tup l => tagD (.tup l) && qgL L l
  | .lst l => tagD (.tup l) && decide (l.length ≤ 900) && qgL L l
  | .map ks ds => ks.all keyB && ds.all vq
  | .ins C ns ds => decide (C ∈ L.all) && decide (ns = L.fl C) && decide (ds.length = (L.fl C).length) && tagD (.tup ds) && qgL L ds
  | _ => true
def qgL (L : CL) : List E → Bool
  | [] => true
  | d :: l => qg L d && qgL L l
end
theorem qgL_mem {L : CL} : ∀ {l : List E} {d : E}, qgL L l = true → d ∈ l → qg L d = true
  | x :: l, d, h, hd => by
    obtain ⟨h1, h2⟩ := Bool.and_eq_true_iff.mp (show (qg L x && qgL L l) = true from h)
    rcases List.mem_cons.mp hd with rfl | hd
    · exact h1
    · exact qgL_mem h2 hd
theorem wt_mem : ∀ {l : List E} {d : E}, d ∈ l → wt d ≤ wtL l
  | x :: l, d, h => by
    rcases List.mem_cons.mp h with rfl | h
    · exact Nat.le_max_left _ _
    · exact Nat.le_trans (wt_mem h) (Nat.le_max_right _ _)
theorem vqL_mem : ∀ {l : List E} {d : E}, vqL l = true → d ∈ l → vq d = true
  | x :: l, d, h, hd => by
    obtain ⟨h1, h2⟩ := Bool.and_eq_true_iff.mp (show (vq x && vqL l) = true from h)
    rcases List.mem_cons.mp hd with rfl | hd
    · exact h1
    · exact vqL_mem h2 hd
theorem qgL_of {L : CL} : ∀ {l : List E}, (∀ r ∈ l, qg L r = true) → qgL L l = true
  | [], _ => rfl
  | a :: l, hh => Bool.and_eq_true_iff.mpr ⟨hh a List.mem_cons_self, qgL_of fun r hr => hh r (List.mem_cons_of_mem _ hr)⟩
theorem plL_of : ∀ {l : List E}, (∀ d ∈ l, pl d = true) → plL l = true
  | [], _ => rfl
  | d :: l, h => Bool.and_eq_true_iff.mpr ⟨h d List.mem_cons_self, plL_of fun e he => h e (List.mem_cons_of_mem _ he)⟩
theorem pl_tag {d : E} (h : pl d = true) : tagD d = true := by
  unfold tagD
  split
  · obtain ⟨a, h1⟩ := plL_cons (show plL _ = true from h)
    obtain ⟨b, h2⟩ := plL_cons h1
    obtain ⟨c, _⟩ := plL_cons h2
    rw [a, b, c]
    rfl
  · cases h
  · rfl
theorem vq_pl : ∀ (n : Nat) (d : E), dep d < n → vq d = true → pl d = true
  | n + 1, .tup l, hn, h => plL_of fun d hd => vq_pl n d (by have := dep_mem hd; have : depL l + 1 < n + 1 := hn; omega) (vqL_mem h hd)
  | _, .map _ _, _, h => by cases h
  | _, .lst _, _, h => by cases h
  | _, .ins _ _ _, _, h => by cases h
  | _, .non, _, _ => rfl
  | _, .bl _, _, _ => rfl
  | _, .int _, _, _ => rfl
  | _, .str _, _, _ => rfl
theorem vq_qg {L : CL} : ∀ (n : Nat) (d : E), dep d < n → vq d = true → qg L d = true
  | n + 1, .tup l, hn, h => Bool.and_eq_true_iff.mpr ⟨pl_tag (vq_pl (n + 1) (.tup l) hn h), qgL_of fun d hd => vq_qg n d (by have := dep_mem hd; have : depL l + 1 < n + 1 := hn; omega) (vqL_mem h hd)⟩
  | _, .map _ _, _, h => by cases h
  | _, .lst _, _, h => by cases h
  | _, .ins _ _ _, _, h => by cases h
  | _, .non, _, _ => rfl
  | _, .bl _, _, _ => rfl
  | _, .int _, _, _ => rfl
  | _, .str _, _, _ => rfl
/-- values without maps stand off a map -/
theorem Rp.vq_off {H : Hp} {a : Addr} {k : List (L2.Key × V)} (ha : H a = some (.dK k)) {v : V} {d : E} (r : Rp H v d) : vq d = true → Rp (keepH (fun b => b ≠ a) H) v d := by
  induction r with
  | non => intro _; exact .non
  | bl x => intro _; exact .bl x
  | int i => intro _; exact .int i
  | str x h => intro _; exact .str x h
  | @tup b xs ds h hl hz hs ih =>
    intro hq
    refine .tup ?_ hl hz fun i v d a b' => ih i v d a b' (vqL_mem hq (List.mem_of_getElem? b'))
    rcases h with h | h
    · have ne : b ≠ a := fun z => by rw [z, ha] at h; cases h
      exact .inl (by rw [keep_at (P := fun b => b ≠ a) ne]; exact h)
    · exact .inr h
  | lst => intro h; cases h
  | map => intro h; cases h
  | ins => intro h; cases h
theorem Rp.vq_lock {H H' : Hp} {a : Addr} {k : List (L2.Key × V)} {o : HO} (ha : H a = some (.dK k)) {v : V} {d : E} (r : Rp H v d) (hq : vq d = true) (m : Same (upd H a o) H') : Rp H' v d := (Rp.vq_off ha r hq).mono fun b u e => by
  obtain ⟨p, e'⟩ := keep_some e
  exact m _ _ (by rw [upd_ne p]; exact e')
def scE : E → E → Bool
  | .non, .non => true
  | .bl a, .bl b => decide (a = b)
  | .int a, .int b => decide (a = b)
  | .str a, .str b => decide (a = b)
  | _, _ => false
def mapEq (q : E → E → Bool) (ks : List L2.Key) (ds : List E) (ks' : List L2.Key) (ds' : List E) : Bool := decide (ds.length = ds'.length) && (ks.all (hasK ks') && (ks.zip ds).all fun p => q p.2 (getE ks' ds' p.1))
def tupEq (q : E → E → Bool) (l m : List E) : Bool := decide (l.length = m.length) && (l.zip m).all fun p => q p.1 p.2
def eqC (q : E → E → Bool) : E → E → Bool
  | .map ks ds, .map ks' ds' => mapEq q ks ds ks' ds'
  | .tup l, .tup m => tupEq q l m
  | d, e => scE d e
def insB : E → Bool
  | .ins _ _ _ => true
  | _ => false
def lstB : E → Bool
  | .lst _ => true
  | _ => false
def insEq (L : CL) (q : E → E → Bool) : E → E → Bool
  | .ins C _ ds, .ins C' _ ds' => decide (L.nm C = L.nm C') && q (.tup ds) (.tup ds')
  | _, _ => false
def lstEq (q : E → E → Bool) : E → E → Bool
  | .lst l, .lst m => q (.tup l) (.tup m)
  | _, _ => false
def eqG (L : CL) : Nat → E → E → Bool
  | 0, _, _ => false
  | n + 1, d, e => if insB d || insB e then insEq L (eqG L n) d e else if lstB d || lstB e then lstEq (eqG L n) d e else decide (sortE d = sortE e) && eqC (eqG L n) d e
def eqGF (L : CL) (n : Nat) : List E → Option E
  | [d, e] => if (qg L d && qg L e && decide (wt d < n) && decide (wt e < n)) = true then some (.bl (eqG L n d e)) else none
  | _ => none
theorem eqGF_len {L : CL} {n : Nat} (ds : List E) (d : E) (h : eqGF L n ds = some d) : ds.length = 2 := by
  unfold eqGF at h
  split at h
  · rfl
  · cases h
theorem eqGF_at {L : CL} {n : Nat} {d e : E} (h1 : qg L d = true) (h2 : qg L e = true) (h3 : wt d < n) (h4 : wt e < n) : eqGF L n [d, e] = some (.bl (eqG L n d e)) := by
  show (if _ = true then _ else _) = _
  rw [h1, h2, decide_eq_true h3, decide_eq_true h4]
  rfl
/-- what == of own objects is asked of -/
def othOk (L : CL) (n : Nat) : E → Bool
  | .ins C ns ds => qg L (.ins C ns ds) && decide (wt (.tup ds) < n)
  | _ => true
def veqG (L : CL) (n : Nat) : List E → Option E
  | [.ins C ns ds, o] => if (qg L (.ins C ns ds) && decide (wt (.tup ds) < n) && othOk L n o) = true then some (.bl (insEq L (eqG L n) (.ins C ns ds) o)) else none
  | _ => none
theorem veqG_len {L : CL} {n : Nat} (ds : List E) (d : E) (h : veqG L n ds = some d) : ds.length = 2 := by
  unfold veqG at h
  split at h
  · rfl
  · cases h
theorem veqG_bl {L : CL} {n : Nat} (ds : List E) (d : E) (h : veqG L n ds = some d) : ∃ b, d = .bl b := by
  unfold veqG at h
  split at h
  · split at h
    · cases h; exact ⟨_, rfl⟩
    · cases h
  · cases h
def dictFn (L : CL) (n : Nat) (env : List (Option E)) : Option (E ⊕ List (Option E)) := match env with
  | [some (.map ks ds), some (.map ks' ds'), _, _, _, _] => if (qg L (.map ks ds) && qg L (.map ks' ds') && decide (wtL ds < n) && decide (wtL ds' < n) && decide (1 ≤ n)) = true then some (.inl (.bl (mapEq (eqG L n) ks ds ks' ds'))) else none
  | _ => none
theorem eqG_str {L : CL} {n : Nat} (h : 1 ≤ n) (x : Str) : eqG L n (.str x) (.str x) = true := by
  cases n with
  | zero => cases h
  | succ n =>
    show (decide (("text" : Str) = "text") && decide (x = x)) = true
    rw [decide_eq_true rfl, decide_eq_true rfl]
    rfl
theorem isC_no {CS : List Addr} {sb : Addr → Bool} {d : E} (h : insB d = false) : isC CS sb d = some (.bl false) := by cases d <;> first | rfl | cases h
theorem isL_is {CS : List Addr} {d : E} (h : insB d = false) : isT CS "list" d = some (.bl (lstB d)) := by cases d <;> first | rfl | cases h
theorem qg_in {L : CL} {C : Addr} {ns : List Str} {l : List E} (h : qg L (.ins C ns l) = true) : C ∈ L.all := by
  have h : (decide (C ∈ L.all) && decide (ns = L.fl C) && decide (l.length = (L.fl C).length) && tagD (.tup l) && qgL L l) = true := h
  simp only [Bool.and_eq_true] at h
  exact of_decide_eq_true h.1.1.1.1
theorem qg_lst {L : CL} {l : List E} (h : qg L (.lst l) = true) : tagD (.tup l) = true ∧ l.length ≤ 900 ∧ qgL L l = true := by
  have h : (tagD (.tup l) && decide (l.length ≤ 900) && qgL L l) = true := h
  simp only [Bool.and_eq_true] at h
  exact ⟨h.1.1, of_decide_eq_true h.1.2, h.2⟩
theorem qg_tup {L : CL} {l : List E} (h1 : tagD (.tup l) = true) (h2 : qgL L l = true) : qg L (.tup l) = true := Bool.and_eq_true_iff.mpr ⟨h1, h2⟩
theorem qg_tag {L : CL} {d : E} (h : qg L d = true) (hi : insB d = false) : tagD d = true := by
  cases d with
  | tup l => exact (Bool.and_eq_true_iff.mp h).1
  | ins _ _ _ => cases hi
  | _ => rfl
theorem ins_ok {L : CL} {CS : List Addr} {d : E} (hCS : CS = L.all) (h : qg L d = true) : insOk CS d = true := by
  cases d with
  | ins C ns l => exact decide_eq_true (by rw [hCS]; exact qg_in h)
  | _ => rfl
theorem oth_of {L : CL} {n : Nat} {d : E} (h : qg L d = true) (w : wt d < n + 1) : othOk L n d = true := by
  cases d with
  | ins C ns l =>
    show (qg L (.ins C ns l) && decide (wt (.tup l) < n)) = true
    rw [h, decide_eq_true (show wt (.tup l) < n by have : wtL l + 2 < n + 1 := w; show wtL l + 1 < n; omega)]
    rfl
  | _ => rfl
theorem pu_def1 {t : TS} {f : FS} {N : List Str} {vs : List V} {H : Hp} {Q : VK} {P : Addr → Prop} {ds : List E} {d : E} (pu : PuS t f) (r : RpL (keepH P H) vs ds) (fr : Fr P H) (e : f (env0 N ds) = some (.inl d)) (k : ∀ v H', Same H H' → Rp (keepH P H') v d → Q v H') : t { nx := fun _ H' => Q .non H', rt := Q } (L2.start N vs) H :=
  (pu P _ H (env0 N ds) { nx := fun _ H' => Q .non H', rt := Q } (en_start r) fr).1 d e k
theorem allE_map' (p : E → Bool) (l : List E) : allE [.lst (l.map fun x => .bl (p x))] = some (.bl (l.all p)) := allE_map p l
section
variable {P : Program} {w : World} {K : PySem.W.Frag} {mg : Str → Option Value} {base : Heap} [KcOk K]
variable {CS : List Addr}
theorem scEq : FnScope ["one", "other", "twins", "key", "mine", "its"] ["one", "other"] (defScope sEq) := ⟨rfl, rfl, rfl, by decide +kernel, rfl, by decide +kernel, by decide +kernel⟩
theorem ok_eq {f fS CV CU : Addr} {fd dS : FuncData} {n k : Nat} {sbV sbU : Addr → Bool} (F : Fun K "are_equal" "are_equal" sEq f fd) (T : Txt mg) (hC : ∀ C ∈ CS, CF K C)
    (gVa : mg "Valued" = some (.ref CV)) (gUn : mg "Unknown" = some (.ref CU))
    (oV : ∀ C ∈ CS, PySem.W.kitOne K (.ref C) (.ref CV) = some (sbV C)) (bV : ∀ t ∈ ["NoneType", "bool", "int", "str", "tuple", "dict", "list"], PySem.W.kitOne K (.type t) (.ref CV) = some false)
    (oU : ∀ C ∈ CS, PySem.W.kitOne K (.ref C) (.ref CU) = some (sbU C)) (bU : ∀ t ∈ ["NoneType", "bool", "int", "str", "tuple", "dict", "list"], PySem.W.kitOne K (.type t) (.ref CU) = some false)
    (GS : FnOk P w K mg base CX0 3 fS dS ["value"] (spP (domT fun d => .str (sortE d)))) (gS : mg "sort_of" = some (.ref fS)) (kS : PySem.W.keepIn K (.ref fS) = true) (bS : Binds K dS ["value"] []) (hk : 3 ≤ k)
    {L : CL} {fVE : Addr} {dVE : FuncData} (hCS : CS = L.all) (hnT : ∀ C ∈ CS, ∀ t ∈ ["NoneType", "bool", "int", "str", "tuple", "dict", "list"], PySem.W.notFirst K C (.type t) = true) (hnC : ∀ C ∈ CS, ∀ D ∈ CS, PySem.W.notFirst K C (.ref D) = true) (sV1 : ∀ C ∈ CS, sbV C = true)
    (eVE : ∀ C ∈ CS, PySem.W.findIn K (.ref C) "__eq__" = some (some (.ref fVE))) (iVE : PySem.W.isFn K (.ref fVE) = true) (bVE : Binds K dVE ["self", "other"] []) (GVE : FnOk P w K mg base CX0 (k + 1) fVE dVE ["self", "other"] (spP (veqG L n)))
    (gE : mg "are_equal" = some (.ref f)) (bE : Binds K fd ["one", "other"] []) (GE : FnOk P w K mg base CX0 k f fd ["one", "other"] (spP (eqGF L n))) : FnOk P w K mg base CX0 (k + 2) f fd ["one", "other"] (spP (eqGF L (n + 1))) := by
  have kE := F.kp
  refine F.ok scEq (fun vs H Q E0 h => spP_len eqGF_len h) (fun cdv A outer s H vs Q E0 hr h => ?_)
  have hu := hu_of hr
  have hrS : Room 3 _ := hr.mono (Nat.le_succ_of_le hk)
  have hrE : Room k _ := hr.mono (Nat.le_succ k)
  obtain ⟨Pr, ds0, c, r, fr, e, kk⟩ := h
  unfold eqGF at e
  split at e
  case h_2 => cases e
  rename_i d e'
  split at e
  case isFalse => cases e
  rename_i hq
  cases e
  simp only [Bool.and_eq_true] at hq
  obtain ⟨⟨⟨q1, q2⟩, q3⟩, q4⟩ := hq
  have q3 : wt d < n + 1 := of_decide_eq_true q3
  have q4 : wt e' < n + 1 := of_decide_eq_true q4
  obtain ⟨C0, hC0, hCi⟩ : ∃ C0, ∃ _ : C0 ∈ CS, ∀ C ns l, d = .ins C ns l → C0 = C := by
    by_cases hd : insB d = true
    · cases d with
      | ins C ns l => exact ⟨C, by rw [hCS]; exact qg_in q1, fun C' ns' l' z => by cases z; rfl⟩
      | _ => cases hd
    · exact ⟨L.CB, by rw [hCS]; exact List.mem_cons_self, fun C ns l z => by rw [z] at hd; exact absurd rfl hd⟩
  refine ⟨_, (pss_cons (ps_if (PW.pt (pw_or (pt_val (pe_callB (call_isiK (K := K) rfl) (by rfl) T.isi (by decide +kernel) (pa_cons (pv 0) (pa_cons (pe_glob (v := .ref CV) rfl gVa rfl) pa_nil)))) (pw_or1 (pt_val (pe_callB (call_isiK (K := K) rfl) (by rfl) T.isi (by decide +kernel) (pa_cons (pv 1) (pa_cons (pe_glob (v := .ref CV) rfl gVa rfl) pa_nil))))))) (pss_one (ps_ret (pe_and (pe_callB (call_isiK (K := K) rfl) (by rfl) T.isi (by decide +kernel) (pa_cons (pv 0) (pa_cons (pe_glob (v := .ref CV) rfl gVa rfl) pa_nil))) (pe_one (pe_cmpR (op_eqUK (K := K) (C := C0) rfl GVE (eVE C0 hC0) iVE bVE hr) (pv 0) (pv 1) (nomark _)))))) pss_nil)
      (pss_cons (ps_if (PW.pt (pw_or (pt_val (pe_callB (call_isiK (K := K) rfl) (by rfl) T.isi (by decide +kernel) (pa_cons (pv 0) (pa_cons (pe_glob (v := .ref CU) rfl gUn rfl) pa_nil)))) (pw_or1 (pt_val (pe_callB (call_isiK (K := K) rfl) (by rfl) T.isi (by decide +kernel) (pa_cons (pv 1) (pa_cons (pe_glob (v := .ref CU) rfl gUn rfl) pa_nil))))))) (pss_one (ps_ret (pe_and (pe_callB (call_isiK (K := K) rfl) (by rfl) T.isi (by decide +kernel) (pa_cons (pv 0) (pa_cons (pe_glob (v := .ref CU) rfl gUn rfl) pa_nil))) (pe_one (pe_cmpR op_eq (pv 0) (pv 1) (nomark _)))))) pss_nil)
      (pss_cons (ps_if (PW.pt (pw_or (pt_val (pe_callB (call_isiK (K := K) rfl) (by rfl) T.isi (by decide +kernel) (pa_cons (pv 0) (pa_cons (pe_bltn (v := .ty "list") (by rfl) T.list (by decide +kernel) rfl) pa_nil)))) (pw_or1 (pt_val (pe_callB (call_isiK (K := K) rfl) (by rfl) T.isi (by decide +kernel) (pa_cons (pv 1) (pa_cons (pe_bltn (v := .ty "list") (by rfl) T.list (by decide +kernel) rfl) pa_nil))))))) (pss_one (ps_ret (pe_and (pe_callB (call_isiK (K := K) rfl) (by rfl) T.isi (by decide +kernel) (pa_cons (pv 0) (pa_cons (pe_bltn (v := .ty "list") (by rfl) T.list (by decide +kernel) rfl) pa_nil))) (pe_and (pe_callB (call_isiK (K := K) rfl) (by rfl) T.isi (by decide +kernel) (pa_cons (pv 1) (pa_cons (pe_bltn (v := .ty "list") (by rfl) T.list (by decide +kernel) rfl) pa_nil))) (pe_one (pe_call GE hrE rfl gE kE bE .nil pass0 (pa_cons (pe_callTy (call_tupK (K := K) rfl) (by rfl) T.tuple (by decide +kernel) (pa_cons (pv 0) pa_nil)) (pa_cons (pe_callTy (call_tupK (K := K) rfl) (by rfl) T.tuple (by decide +kernel) (pa_cons (pv 1) pa_nil)) pa_nil)))))))) pss_nil)
      (pss_cons (ps_if (pt_cmpR op_ne (pe_call GS hrS rfl gS kS bS .nil pass0 (pa_cons (pv 0) pa_nil)) (pe_call GS hrS rfl gS kS bS .nil pass0 (pa_cons (pv 1) pa_nil)) (nomark _)) (pss_one (ps_ret pe_bl)) pss_nil)
      (pss_cons (ps_if (pt_val (pe_callB (call_isiK (K := K) rfl) (by rfl) T.isi (by decide +kernel) (pa_cons (pv 0) (pa_cons (pe_bltn (v := .ty "dict") (by rfl) T.dict (by decide +kernel) rfl) pa_nil)))) (pss_cons (ps_set (i := 2) scEq.nd rfl (Or.inr rfl) (pe_lock (pe_dc (own := [("key", 3)]) (g := gName 3) (tt := tYes) rfl scEq.nd (pi_keys (pv 1)) (blkOk_by (own := [("key", 3)]) (N := ["one", "other", "twins", "key", "mine", "its"]) (sc := (defScope sEq)) (by decide +kernel)) (fun _ _ _ _ _ => pg_name (i := 3) scEq.nd rfl (Or.inl rfl)) (fun _ _ _ _ _ => pts_nil) (fun _ _ _ _ _ => (pv 3)) (fun _ _ _ _ _ => (pv 3)))))
        (pss_cons (ps_if (PW.pt (pw_or (pt_cmpR op_ne (pe_callB (call_lenK (K := K) rfl) (by rfl) T.len (by decide +kernel) (pa_cons (pv 0) pa_nil)) (pe_callB (call_lenK (K := K) rfl) (by rfl) T.len (by decide +kernel) (pa_cons (pv 1) pa_nil)) (nomark _)) (pw_or1 (pt_not (pt_val (pe_callB (cr_allK (K := K) rfl rfl) (by rfl) T.all (by decide +kernel) (pa_cons (pe_lock (pe_lc (own := [("key", 3)]) (g := gName 3) (tt := tYes) rfl scEq.nd (pi_keys (pv 0)) (blkOk_by (own := [("key", 3)]) (N := ["one", "other", "twins", "key", "mine", "its"]) (sc := (defScope sEq)) (by decide +kernel)) (fun _ _ _ _ _ => pg_name (i := 3) scEq.nd rfl (Or.inl rfl)) (fun _ _ _ _ _ => pts_nil) (fun _ _ _ _ _ => (pe_and (pe_cmp (pc_din hu (pv 3) (pv 2)) (by rfl)) (pe_one (pe_call GE hrE rfl gE kE bE .nil pass0 (pa_cons (pv 3) (pa_cons (pe_dget hu (pv 2) (pv 3) (fun _ _ => rfl)) pa_nil)))))))) pa_nil))))))) (pss_one (ps_ret pe_bl)) pss_nil)
        (pss_one (ps_ret (pe_callB (cr_allK (K := K) rfl rfl) (by rfl) T.all (by decide +kernel) (pa_cons (pe_lock (pe_lc (own := [("key", 3)]) (g := gName 3) (tt := tYes) rfl scEq.nd (pi_keys (pv 0)) (blkOk_by (own := [("key", 3)]) (N := ["one", "other", "twins", "key", "mine", "its"]) (sc := (defScope sEq)) (by decide +kernel)) (fun _ _ _ _ _ => pg_name (i := 3) scEq.nd rfl (Or.inl rfl)) (fun _ _ _ _ _ => pts_nil) (fun _ _ _ _ _ => (pe_call GE hrE rfl gE kE bE .nil pass0 (pa_cons (pe_dget hu (pv 0) (pv 3) (fun _ _ => rfl)) (pa_cons (pe_dget hu (pv 1) (pv 3) (fun _ _ => rfl)) pa_nil)))))) pa_nil)))))) pss_nil)
      (pss_cons (ps_if (pt_val (pe_callB (call_isiK (K := K) rfl) (by rfl) T.isi (by decide +kernel) (pa_cons (pv 0) (pa_cons (pe_bltn (v := .ty "tuple") (by rfl) T.tuple (by decide +kernel) rfl) pa_nil)))) (pss_one (ps_ret (pe_and (pe_cmpR op_eq (pe_callB (call_lenK (K := K) rfl) (by rfl) T.len (by decide +kernel) (pa_cons (pv 0) pa_nil)) (pe_callB (call_lenK (K := K) rfl) (by rfl) T.len (by decide +kernel) (pa_cons (pv 1) pa_nil)) (nomark _)) (pe_one (pe_callB (cr_allK (K := K) rfl rfl) (by rfl) T.all (by decide +kernel) (pa_cons (pe_lc (own := [("mine", 4), ("its", 5)]) (g := gTup K 2 (gCons (gName 4) (gCons (gName 5) gNil))) (tt := tYes) rfl scEq.nd (pi_zipAK (K := K) rfl (by rfl) T.zip (pa_cons (pv 0) (pa_cons (pv 1) pa_nil))) (blkOk_by (own := [("mine", 4), ("its", 5)]) (N := ["one", "other", "twins", "key", "mine", "its"]) (sc := (defScope sEq)) (by decide +kernel)) (fun _ _ _ _ _ => (pg_tup rfl (pgs_cons (pg_name (i := 4) scEq.nd rfl (Or.inl rfl)) (pgs_cons (pg_name (i := 5) scEq.nd rfl (Or.inl rfl)) pgs_nil)))) (fun _ _ _ _ _ => pts_nil) (fun _ _ _ _ _ => (pe_call GE hrE rfl gE kE bE .nil pass0 (pa_cons (pv 4) (pa_cons (pv 5) pa_nil))))) pa_nil)))))) pss_nil)
      (pss_one (ps_ret (pe_cmpR op_eq (pv 0) (pv 1) (nomark _)))))))))), ?_⟩
  apply pu_def1 (r := r) (fr := fr) (k := kk) (N := ["one", "other", "twins", "key", "mine", "its"])
  case pu =>
    apply pu_seq
    · (repeat' first
    | with_reducible exact pu_var _ | with_reducible exact pu_non | with_reducible exact pu_bl _ | with_reducible exact pu_int _ | with_reducible exact pu_nil | with_reducible exact pu_next | with_reducible exact pu_yes
    | with_reducible apply pu_seq | with_reducible apply pu_ifS | with_reducible apply pu_ret | with_reducible apply pu_asg
    | with_reducible apply pu_and | with_reducible apply pu_or | with_reducible apply pu_not | with_reducible apply pu_test | with_reducible apply pu_b
    | with_reducible apply pu_andV | with_reducible apply pu_orV | with_reducible apply pu_notV | with_reducible apply pu_if
    | with_reducible apply pu_isi hC | with_reducible apply pu_cb (hr := pu_len) | with_reducible apply pu_cb (hr := pu_all) | with_reducible apply pu_cb (hr := pu_any) | with_reducible apply pu_cb (hr := pu_tupOf) | with_reducible apply pu_cb (hr := pu_lstOf)
    | with_reducible apply pu_isC hC oV bV
    | with_reducible apply pu_isC hC oU bU
    | with_reducible apply pu_lcZ (i := 4) (j := 5) (hij := by decide)
    | with_reducible apply pu_op (hr := pu_eqU hC (hnT C0 hC0) (hnC C0 hC0) veqG_bl)
    | with_reducible apply pu_op (hr := pu_ixT) | with_reducible apply pu_op (hr := pu_ixL) | with_reducible apply pu_op (hr := pu_eqS) | with_reducible apply pu_op (hr := pu_neS) | with_reducible apply pu_op (hr := pu_in) | with_reducible apply pu_op (hr := pu_isNo) | with_reducible apply pu_op (hr := pu_notNo)
    | with_reducible apply pu_op (hr := pu_cm) | with_reducible apply pu_op (hr := pu_ar) | with_reducible apply pu_op (hr := pu_eqP) | with_reducible apply pu_op (hr := pu_neP) | with_reducible apply pu_op (hr := pu_catT) | with_reducible apply pu_op (hr := pu_catL)
    | with_reducible apply pu_chain pu_cm pu_cm | with_reducible apply pu_lcV | with_reducible apply pu_dcV | with_reducible apply pu_iTup | with_reducible apply pu_iLst
    | with_reducible apply pu_slT | with_reducible apply pu_slL | with_reducible exact pu_noPart | with_reducible exact pu_part _
    | exact pu_str _ ⟨by decide +kernel, by decide +kernel⟩ | with_reducible apply pu_call | with_reducible apply pu_tup | with_reducible apply pu_lst | with_reducible apply pu_cons | (with_reducible_and_instances rfl) | rfl)
    apply pu_seq
    · (repeat' first
    | with_reducible exact pu_var _ | with_reducible exact pu_non | with_reducible exact pu_bl _ | with_reducible exact pu_int _ | with_reducible exact pu_nil | with_reducible exact pu_next | with_reducible exact pu_yes
    | with_reducible apply pu_seq | with_reducible apply pu_ifS | with_reducible apply pu_ret | with_reducible apply pu_asg
    | with_reducible apply pu_and | with_reducible apply pu_or | with_reducible apply pu_not | with_reducible apply pu_test | with_reducible apply pu_b
    | with_reducible apply pu_andV | with_reducible apply pu_orV | with_reducible apply pu_notV | with_reducible apply pu_if
    | with_reducible apply pu_isi hC | with_reducible apply pu_cb (hr := pu_len) | with_reducible apply pu_cb (hr := pu_all) | with_reducible apply pu_cb (hr := pu_any) | with_reducible apply pu_cb (hr := pu_tupOf) | with_reducible apply pu_cb (hr := pu_lstOf)
    | with_reducible apply pu_isC hC oV bV
    | with_reducible apply pu_isC hC oU bU
    | with_reducible apply pu_lcZ (i := 4) (j := 5) (hij := by decide)
    | with_reducible apply pu_op (hr := pu_eqU hC (hnT C0 hC0) (hnC C0 hC0) veqG_bl)
    | with_reducible apply pu_op (hr := pu_ixT) | with_reducible apply pu_op (hr := pu_ixL) | with_reducible apply pu_op (hr := pu_eqS) | with_reducible apply pu_op (hr := pu_neS) | with_reducible apply pu_op (hr := pu_in) | with_reducible apply pu_op (hr := pu_isNo) | with_reducible apply pu_op (hr := pu_notNo)
    | with_reducible apply pu_op (hr := pu_cm) | with_reducible apply pu_op (hr := pu_ar) | with_reducible apply pu_op (hr := pu_eqP) | with_reducible apply pu_op (hr := pu_neP) | with_reducible apply pu_op (hr := pu_catT) | with_reducible apply pu_op (hr := pu_catL)
    | with_reducible apply pu_chain pu_cm pu_cm | with_reducible apply pu_lcV | with_reducible apply pu_dcV | with_reducible apply pu_iTup | with_reducible apply pu_iLst
    | with_reducible apply pu_slT | with_reducible apply pu_slL | with_reducible exact pu_noPart | with_reducible exact pu_part _
    | exact pu_str _ ⟨by decide +kernel, by decide +kernel⟩ | with_reducible apply pu_call | with_reducible apply pu_tup | with_reducible apply pu_lst | with_reducible apply pu_cons | (with_reducible_and_instances rfl) | rfl)
    apply pu_seq
    · (repeat' first
    | with_reducible exact pu_var _ | with_reducible exact pu_non | with_reducible exact pu_bl _ | with_reducible exact pu_int _ | with_reducible exact pu_nil | with_reducible exact pu_next | with_reducible exact pu_yes
    | with_reducible apply pu_seq | with_reducible apply pu_ifS | with_reducible apply pu_ret | with_reducible apply pu_asg
    | with_reducible apply pu_and | with_reducible apply pu_or | with_reducible apply pu_not | with_reducible apply pu_test | with_reducible apply pu_b
    | with_reducible apply pu_andV | with_reducible apply pu_orV | with_reducible apply pu_notV | with_reducible apply pu_if
    | with_reducible apply pu_isi hC | with_reducible apply pu_cb (hr := pu_len) | with_reducible apply pu_cb (hr := pu_all) | with_reducible apply pu_cb (hr := pu_any) | with_reducible apply pu_cb (hr := pu_tupOf) | with_reducible apply pu_cb (hr := pu_lstOf)
    | with_reducible apply pu_isC hC oV bV
    | with_reducible apply pu_isC hC oU bU
    | with_reducible apply pu_lcZ (i := 4) (j := 5) (hij := by decide)
    | with_reducible apply pu_op (hr := pu_eqU hC (hnT C0 hC0) (hnC C0 hC0) veqG_bl)
    | with_reducible apply pu_op (hr := pu_ixT) | with_reducible apply pu_op (hr := pu_ixL) | with_reducible apply pu_op (hr := pu_eqS) | with_reducible apply pu_op (hr := pu_neS) | with_reducible apply pu_op (hr := pu_in) | with_reducible apply pu_op (hr := pu_isNo) | with_reducible apply pu_op (hr := pu_notNo)
    | with_reducible apply pu_op (hr := pu_cm) | with_reducible apply pu_op (hr := pu_ar) | with_reducible apply pu_op (hr := pu_eqP) | with_reducible apply pu_op (hr := pu_neP) | with_reducible apply pu_op (hr := pu_catT) | with_reducible apply pu_op (hr := pu_catL)
    | with_reducible apply pu_chain pu_cm pu_cm | with_reducible apply pu_lcV | with_reducible apply pu_dcV | with_reducible apply pu_iTup | with_reducible apply pu_iLst
    | with_reducible apply pu_slT | with_reducible apply pu_slL | with_reducible exact pu_noPart | with_reducible exact pu_part _
    | exact pu_str _ ⟨by decide +kernel, by decide +kernel⟩ | with_reducible apply pu_call | with_reducible apply pu_tup | with_reducible apply pu_lst | with_reducible apply pu_cons | (with_reducible_and_instances rfl) | rfl)
    apply pu_seq
    · (repeat' first
    | with_reducible exact pu_var _ | with_reducible exact pu_non | with_reducible exact pu_bl _ | with_reducible exact pu_int _ | with_reducible exact pu_nil | with_reducible exact pu_next | with_reducible exact pu_yes
    | with_reducible apply pu_seq | with_reducible apply pu_ifS | with_reducible apply pu_ret | with_reducible apply pu_asg
    | with_reducible apply pu_and | with_reducible apply pu_or | with_reducible apply pu_not | with_reducible apply pu_test | with_reducible apply pu_b
    | with_reducible apply pu_andV | with_reducible apply pu_orV | with_reducible apply pu_notV | with_reducible apply pu_if
    | with_reducible apply pu_isi hC | with_reducible apply pu_cb (hr := pu_len) | with_reducible apply pu_cb (hr := pu_all) | with_reducible apply pu_cb (hr := pu_any) | with_reducible apply pu_cb (hr := pu_tupOf) | with_reducible apply pu_cb (hr := pu_lstOf)
    | with_reducible apply pu_isC hC oV bV
    | with_reducible apply pu_isC hC oU bU
    | with_reducible apply pu_lcZ (i := 4) (j := 5) (hij := by decide)
    | with_reducible apply pu_op (hr := pu_eqU hC (hnT C0 hC0) (hnC C0 hC0) veqG_bl)
    | with_reducible apply pu_op (hr := pu_ixT) | with_reducible apply pu_op (hr := pu_ixL) | with_reducible apply pu_op (hr := pu_eqS) | with_reducible apply pu_op (hr := pu_neS) | with_reducible apply pu_op (hr := pu_in) | with_reducible apply pu_op (hr := pu_isNo) | with_reducible apply pu_op (hr := pu_notNo)
    | with_reducible apply pu_op (hr := pu_cm) | with_reducible apply pu_op (hr := pu_ar) | with_reducible apply pu_op (hr := pu_eqP) | with_reducible apply pu_op (hr := pu_neP) | with_reducible apply pu_op (hr := pu_catT) | with_reducible apply pu_op (hr := pu_catL)
    | with_reducible apply pu_chain pu_cm pu_cm | with_reducible apply pu_lcV | with_reducible apply pu_dcV | with_reducible apply pu_iTup | with_reducible apply pu_iLst
    | with_reducible apply pu_slT | with_reducible apply pu_slL | with_reducible exact pu_noPart | with_reducible exact pu_part _
    | exact pu_str _ ⟨by decide +kernel, by decide +kernel⟩ | with_reducible apply pu_call | with_reducible apply pu_tup | with_reducible apply pu_lst | with_reducible apply pu_cons | (with_reducible_and_instances rfl) | rfl)
    apply pu_seq
    · apply pu_ifS
      · (repeat' first
    | with_reducible exact pu_var _ | with_reducible exact pu_non | with_reducible exact pu_bl _ | with_reducible exact pu_int _ | with_reducible exact pu_nil | with_reducible exact pu_next | with_reducible exact pu_yes
    | with_reducible apply pu_seq | with_reducible apply pu_ifS | with_reducible apply pu_ret | with_reducible apply pu_asg
    | with_reducible apply pu_and | with_reducible apply pu_or | with_reducible apply pu_not | with_reducible apply pu_test | with_reducible apply pu_b
    | with_reducible apply pu_andV | with_reducible apply pu_orV | with_reducible apply pu_notV | with_reducible apply pu_if
    | with_reducible apply pu_isi hC | with_reducible apply pu_cb (hr := pu_len) | with_reducible apply pu_cb (hr := pu_all) | with_reducible apply pu_cb (hr := pu_any) | with_reducible apply pu_cb (hr := pu_tupOf) | with_reducible apply pu_cb (hr := pu_lstOf)
    | with_reducible apply pu_isC hC oV bV
    | with_reducible apply pu_isC hC oU bU
    | with_reducible apply pu_lcZ (i := 4) (j := 5) (hij := by decide)
    | with_reducible apply pu_op (hr := pu_eqU hC (hnT C0 hC0) (hnC C0 hC0) veqG_bl)
    | with_reducible apply pu_op (hr := pu_ixT) | with_reducible apply pu_op (hr := pu_ixL) | with_reducible apply pu_op (hr := pu_eqS) | with_reducible apply pu_op (hr := pu_neS) | with_reducible apply pu_op (hr := pu_in) | with_reducible apply pu_op (hr := pu_isNo) | with_reducible apply pu_op (hr := pu_notNo)
    | with_reducible apply pu_op (hr := pu_cm) | with_reducible apply pu_op (hr := pu_ar) | with_reducible apply pu_op (hr := pu_eqP) | with_reducible apply pu_op (hr := pu_neP) | with_reducible apply pu_op (hr := pu_catT) | with_reducible apply pu_op (hr := pu_catL)
    | with_reducible apply pu_chain pu_cm pu_cm | with_reducible apply pu_lcV | with_reducible apply pu_dcV | with_reducible apply pu_iTup | with_reducible apply pu_iLst
    | with_reducible apply pu_slT | with_reducible apply pu_slL | with_reducible exact pu_noPart | with_reducible exact pu_part _
    | exact pu_str _ ⟨by decide +kernel, by decide +kernel⟩ | with_reducible apply pu_call | with_reducible apply pu_tup | with_reducible apply pu_lst | with_reducible apply pu_cons | (with_reducible_and_instances rfl) | rfl)
      · refine (fun Pr σ H env D he hf => ⟨fun c e kk => ?_, fun env' e _ => ?_⟩ : PuS _ (dictFn L n))
        case refine_2 =>
          unfold dictFn at e
          split at e
          · split at e <;> cases e
          · cases e
        unfold dictFn at e
        split at e
        case h_2 => cases e
        rename_i ks ds ks' ds' _ _ _ _
        split at e
        case isFalse => cases e
        rename_i hq
        cases e
        simp only [Bool.and_eq_true] at hq
        obtain ⟨⟨⟨⟨q1, q2⟩, qa⟩, qb⟩, q3⟩ := hq
        have q3 : 1 ≤ n := of_decide_eq_true q3
        have qa : wtL ds < n := of_decide_eq_true qa
        have qb : wtL ds' < n := of_decide_eq_true qb
        obtain ⟨q1k, q1v⟩ := Bool.and_eq_true_iff.mp (show (ks.all keyB && ds.all vq) = true from q1)
        obtain ⟨q2k, q2v⟩ := Bool.and_eq_true_iff.mp (show (ks'.all keyB && ds'.all vq) = true from q2)
        obtain ⟨v0, s0, r0⟩ := he.2 0 _ rfl
        obtain ⟨v1, s1, r1⟩ := he.2 1 _ rfl
        match σ, he.1 with
        | [a0, a1, a2, a3, a4, a5], _ =>
        cases s0
        cases s1
        cases r0 with
        | @map a vs _ _ h hv hk' hz nd hs =>
        cases r1 with
        | @map b vs' _ _ h' hv' hk2 hz' nd' hs' =>
        have ha := (keep_some h).2
        have hb := (keep_some h').2
        have lk : (mk ks vs).length = ds.length := by rw [mk_length (hk'.trans hv.symm), hk']
        have lk' : (mk ks' vs').length = ds'.length := by rw [mk_length (hk2.trans hv'.symm), hk2]
        have nk : ((mk ks vs).map (·.1)).Nodup := by rw [mk_keys (hk'.trans hv.symm)]; exact nd
        have nk' : ((mk ks' vs').map (·.1)).Nodup := by rw [mk_keys (hk2.trans hv'.symm)]; exact nd'
        have tx : ∀ {j : Nat} {k0 : L2.Key}, ks[j]? = some k0 → ∃ x, k0 = Sum.inr x ∧ TxOk x := fun {j k0} hj => by
          have := List.all_eq_true.mp q1k k0 (List.mem_of_getElem? hj)
          cases k0 with
          | inl i => cases this
          | inr x => exact ⟨x, rfl, tx_of this⟩
        -- twins
        refine ⟨b, _, hb, trivial, fun od => ?_⟩
        refine ⟨_, rfl, b, od, rfl, .inl ⟨_, upd_same, fun D1 hD => ?_⟩⟩
        refine dc_it walk_keys (fun i H2 => Same (upd H b (.frz od (.dK (mk ks' vs')))) H2 ∧ H2 D1 = some (.dK (((mk ks' vs').take i).map fun p => (p.1, kV p.1)))) ⟨same_new hD, upd_same⟩ (fun i H2 _ q => q.1 _ _ upd_same) ?_ ?_
        · rintro i x H2 H3 hi ⟨m, fD⟩ ⟨rfl, k0, v0, ek, rfl⟩
          refine ⟨rfl, _, rfl, _, rfl, _, k0, rfl, fD, ?_, fun b' o q => ?_, ?_⟩
          · rw [List.length_map, List.length_take]
            exact small1000 (by omega)
          · rw [upd_ne (ne_of_none q hD)]
            exact m b' o q
          · have e1 := valV_take nk' ek (fun p => (p.1, kV p.1)) (fun _ => rfl)
            rw [upd_same, putK_new _ e1, tk_next ek, List.map_append]
            rfl
        rintro H2 ⟨m, fD⟩
        rw [List.take_length] at fD
        have nD : D1 ≠ b := fun z => by
          rw [z, upd_same] at hD
          cases hD
        refine ⟨m _ _ upd_same, ?_⟩
        have m1 : Same H (upd H2 b (.dK (mk ks' vs'))) := same_lock hb m
        have g1 : (upd H2 b (.dK (mk ks' vs'))) D1 = some (.dK ((mk ks' vs').map fun p => (p.1, kV p.1))) := by rw [upd_ne nD]; exact fD
        have nDa : D1 ≠ a := fun z => by
          by_cases e : a = b
          · exact nD (z.trans e)
          · rw [z, upd_ne e, ha] at hD
            cases hD
        have d1 := m1 _ _ ha
        have d2 := m1 _ _ hb
        generalize (upd H2 b (.dK (mk ks' vs'))) = G1 at m1 g1 d1 d2 ⊢
        have ndT : (((mk ks' vs').map fun p => (p.1, kV p.1)).map (·.1)).Nodup := by
          rw [List.map_map]
          exact nk'
        have kT : ((mk ks' vs').map fun p => (p.1, kV p.1)).map (·.1) = ks' := by
          rw [List.map_map]
          exact mk_keys (hk2.trans hv'.symm)
        refine ⟨_, rfl, .inr ⟨a, _, rfl, d1, _, rfl, .inr ⟨b, _, rfl, d2, rfl, _, rfl, ?_⟩⟩⟩
        rw [lk, lk']
        by_cases hl : ds.length = ds'.length
        case neg =>
          have z : mapEq (eqG L n) ks ds ks' ds' = false := by
            unfold mapEq
            rw [decide_eq_false hl]
            rfl
          rw [z] at kk
          rw [decide_eq_false (fun z => hl (by injection z with z; omega) : ¬ (V.int (ds.length : Int) = V.int (ds'.length : Int)))]
          exact iteT (kk _ _ m1 (.bl _))
        rw [decide_eq_true (by rw [hl] : (V.int (ds.length : Int) = V.int (ds'.length : Int)))]
        refine iteF ?_
        -- the keys
        refine ⟨a, _, d1, trivial, fun oe => ?_⟩
        refine ⟨_, rfl, a, oe, rfl, .inl ⟨_, upd_same, fun D2 hD2 => ?_⟩⟩
        refine lc_pure walk_keys hD2 (ks.map fun k => V.bl (hasK ks' k)) (by rw [List.length_map, lk, hk']) (by rw [lk]; exact small1000 (by omega)) (fun H' m => m _ _ upd_same) (fun i y H4 H5 z hz2 m2 hy N hN => ?_) mono_name (fun H' m2 f2 => ?_)
        · obtain ⟨rfl, k0, v0, ek, rfl⟩ := hy
          obtain ⟨ek1, ek2⟩ := mk_get ek
          rw [List.getElem?_map, ek1] at hz2
          cases hz2
          obtain ⟨x, rfl, tx0⟩ := tx ek1
          have gT := m2 D1 _ (by rw [upd_ne nDa]; exact g1)
          by_cases hm : (Sum.inr x : L2.Key) ∈ ks'
          · obtain ⟨j, j1, j2⟩ := get_ok hk2 nd' hm
            have jl : j < vs'.length := by
              have := (List.getElem?_eq_some_iff.mp j2).1
              omega
            have eT : ((mk ks' vs').map fun p => (p.1, kV p.1))[j]? = some (Sum.inr x, V.str x) := by
              rw [List.getElem?_map, show (mk ks' vs')[j]? = some (Sum.inr x, vs'[j]) from List.getElem?_zip_eq_some.mpr ⟨j1, List.getElem?_eq_getElem jl⟩]
              rfl
            have gv := valV_at ndT eT
            have hN : ∀ H', Same H5 H' → N (.bl (hasK ks' (Sum.inr x))) H' := hN
            rw [hasK_iff.mpr hm] at hN
            refine ⟨rfl, _, rfl, _, rfl, D1, some (.str x), rfl, .inl ⟨_, Sum.inr x, .inl gT, rfl, gv.symm⟩, true, rfl, iteT ?_⟩
            refine ⟨_, rfl, _, rfl, _, rfl, D1, .str x, rfl, .inl ⟨_, Sum.inr x, .inl gT, rfl, gv.symm⟩, ?_⟩
            refine ⟨fun _ => True, [.str x, .str x], .bl true, .cons (.str x tx0) (.cons (.str x tx0) .nil), fun _ _ => trivial, ?_, fun v H6 m6 r6 => ?_⟩
            · rw [eqGF_at rfl rfl (show 0 < n from q3) (show 0 < n from q3), eqG_str q3]
            · cases r6
              exact hN H6 m6
          · have hf0 : hasK ks' (Sum.inr x) = false := Bool.eq_false_iff.mpr fun z => hm (hasK_iff.mp z)
            have hN : ∀ H', Same H5 H' → N (.bl (hasK ks' (Sum.inr x))) H' := hN
            rw [hf0] at hN
            exact ⟨rfl, _, rfl, _, rfl, D1, none, rfl, .inl ⟨_, Sum.inr x, .inl gT, rfl, (valV_no (by rw [kT]; exact hm)).symm⟩, false, rfl, iteF (hN _ (fun _ _ z => z))⟩
        have nD2 : D2 ≠ a := fun z => by
          rw [z, upd_same] at hD2
          cases hD2
        refine ⟨m2 _ _ upd_same, ?_⟩
        have m3 : Same G1 (upd H' a (.dK (mk ks vs))) := same_lock d1 m2
        have f3 : (upd H' a (.dK (mk ks vs))) D2 = some (.lst ((ks.map (hasK ks')).map V.bl)) := by
          rw [upd_ne nD2, List.map_map]
          exact f2
        have d3 := m3 _ _ d1
        have d4 := m3 _ _ d2
        generalize (upd H' a (.dK (mk ks vs))) = G3 at m3 f3 d3 d4 ⊢
        refine ⟨D2, _, rfl, SqL.of f3, _, rfl, ?_⟩
        rw [List.all_map]
        have m13 := m1.trans m3
        cases hall : ks.all (hasK ks') with
        | false =>
          have z : mapEq (eqG L n) ks ds ks' ds' = false := by
            unfold mapEq
            rw [hall, Bool.false_and, Bool.and_false]
          rw [z] at kk
          rw [show ks.all (id ∘ hasK ks') = false from hall]
          exact iteT (kk _ _ m13 (.bl _))
        | true =>
          rw [show ks.all (id ∘ hasK ks') = true from hall]
          refine iteF ?_
          have z : mapEq (eqG L n) ks ds ks' ds' = (ks.zip ds).all fun p => eqG L n p.2 (getE ks' ds' p.1) := by
            unfold mapEq
            rw [hall, decide_eq_true hl]
            rfl
          rw [z] at kk
          -- the values
          refine ⟨a, _, d3, trivial, fun og => ?_⟩
          refine ⟨_, rfl, a, og, rfl, .inl ⟨_, upd_same, fun D4 hD4 => ?_⟩⟩
          refine lc_pure walk_keys hD4 ((ks.zip ds).map fun p => V.bl (eqG L n p.2 (getE ks' ds' p.1))) (by rw [List.length_map, List.length_zip, hk', Nat.min_self, lk]) (by rw [lk]; exact small1000 (by omega)) (fun H' m => m _ _ upd_same) (fun i y H4 H5 z hz2 m5 hy N hN => ?_) mono_name (fun H7 m5 f5 => ?_)
          · obtain ⟨rfl, k0, v0, ek, rfl⟩ := hy
            obtain ⟨ek1, ek2⟩ := mk_get ek
            have il : i < ds.length := by
              have := (List.getElem?_eq_some_iff.mp ek2).1
              omega
            have ez : (ks.zip ds)[i]? = some (k0, ds[i]) := List.getElem?_zip_eq_some.mpr ⟨ek1, List.getElem?_eq_getElem il⟩
            rw [List.getElem?_map, ez] at hz2
            cases hz2
            obtain ⟨x, rfl, tx0⟩ := tx ek1
            have hm : (Sum.inr x : L2.Key) ∈ ks' := hasK_iff.mp (List.all_eq_true.mp hall _ (List.mem_of_getElem? ek1))
            obtain ⟨j, j1, j2⟩ := get_ok hk2 nd' hm
            have jl : j < vs'.length := by
              have := (List.getElem?_eq_some_iff.mp j2).1
              omega
            have gv : valV (mk ks vs) (Sum.inr x) = some v0 := mk_val nd ek1 ek2
            have gv' : valV (mk ks' vs') (Sum.inr x) = some vs'[j] := mk_val nd' j1 (List.getElem?_eq_getElem jl)
            have fl1 := List.all_eq_true.mp q1v ds[i] (List.getElem_mem il)
            have fl2 := List.all_eq_true.mp q2v _ (List.mem_of_getElem? j2)
            have rr1 := hs i v0 ds[i] ek2 (List.getElem?_eq_getElem il)
            have rr2 := hs' j vs'[j] _ (List.getElem?_eq_getElem jl) j2
            refine ⟨rfl, _, rfl, _, rfl, a, v0, rfl, .inl ⟨_, Sum.inr x, .inr ⟨og, m5 _ _ upd_same⟩, rfl, gv.symm⟩, ?_⟩
            have fin : spP (eqGF L n) ([v0, vs'[j]] ++ []) H5 N L2.E0 := by
              refine ⟨fun _ => True, [ds[i], getE ks' ds' (Sum.inr x)], _, .cons (Rp.vq_lock d3 (rr1.ofKeep.same m13) fl1 m5).all (.cons (Rp.vq_lock d3 (rr2.ofKeep.same m13) fl2 m5).all .nil), fun _ _ => trivial, eqGF_at (vq_qg _ _ (Nat.lt_succ_self _) fl1) (vq_qg _ _ (Nat.lt_succ_self _) fl2) (Nat.lt_of_le_of_lt (wt_mem (List.getElem_mem il)) qa) (Nat.lt_of_le_of_lt (wt_mem (List.mem_of_getElem? j2)) qb), fun v H6 m6 r6 => ?_⟩
              cases r6
              exact hN H6 m6
            rcases lkd d3 d4 m5 with hb5 | ⟨od', hb5⟩
            · exact ⟨_, rfl, _, rfl, b, vs'[j], rfl, .inl ⟨_, Sum.inr x, .inl hb5, rfl, gv'.symm⟩, fin⟩
            · exact ⟨_, rfl, _, rfl, b, vs'[j], rfl, .inl ⟨_, Sum.inr x, .inr ⟨od', hb5⟩, rfl, gv'.symm⟩, fin⟩
          have nD4 : D4 ≠ a := fun z => by
            rw [z, upd_same] at hD4
            cases hD4
          refine ⟨m5 _ _ upd_same, ?_⟩
          have m6 : Same G3 (upd H7 a (.dK (mk ks vs))) := same_lock d3 m5
          refine ⟨D4, ((ks.zip ds).map fun p => eqG L n p.2 (getE ks' ds' p.1)), rfl, SqL.of (by rw [upd_ne nD4, List.map_map]; exact f5), ?_⟩
          rw [List.all_map]
          exact kk _ _ (m13.trans m6) (.bl _)
      · exact pu_next
    (repeat' first
    | with_reducible exact pu_var _ | with_reducible exact pu_non | with_reducible exact pu_bl _ | with_reducible exact pu_int _ | with_reducible exact pu_nil | with_reducible exact pu_next | with_reducible exact pu_yes
    | with_reducible apply pu_seq | with_reducible apply pu_ifS | with_reducible apply pu_ret | with_reducible apply pu_asg
    | with_reducible apply pu_and | with_reducible apply pu_or | with_reducible apply pu_not | with_reducible apply pu_test | with_reducible apply pu_b
    | with_reducible apply pu_andV | with_reducible apply pu_orV | with_reducible apply pu_notV | with_reducible apply pu_if
    | with_reducible apply pu_isi hC | with_reducible apply pu_cb (hr := pu_len) | with_reducible apply pu_cb (hr := pu_all) | with_reducible apply pu_cb (hr := pu_any) | with_reducible apply pu_cb (hr := pu_tupOf) | with_reducible apply pu_cb (hr := pu_lstOf)
    | with_reducible apply pu_isC hC oV bV
    | with_reducible apply pu_isC hC oU bU
    | with_reducible apply pu_lcZ (i := 4) (j := 5) (hij := by decide)
    | with_reducible apply pu_op (hr := pu_eqU hC (hnT C0 hC0) (hnC C0 hC0) veqG_bl)
    | with_reducible apply pu_op (hr := pu_ixT) | with_reducible apply pu_op (hr := pu_ixL) | with_reducible apply pu_op (hr := pu_eqS) | with_reducible apply pu_op (hr := pu_neS) | with_reducible apply pu_op (hr := pu_in) | with_reducible apply pu_op (hr := pu_isNo) | with_reducible apply pu_op (hr := pu_notNo)
    | with_reducible apply pu_op (hr := pu_cm) | with_reducible apply pu_op (hr := pu_ar) | with_reducible apply pu_op (hr := pu_eqP) | with_reducible apply pu_op (hr := pu_neP) | with_reducible apply pu_op (hr := pu_catT) | with_reducible apply pu_op (hr := pu_catL)
    | with_reducible apply pu_chain pu_cm pu_cm | with_reducible apply pu_lcV | with_reducible apply pu_dcV | with_reducible apply pu_iTup | with_reducible apply pu_iLst
    | with_reducible apply pu_slT | with_reducible apply pu_slL | with_reducible exact pu_noPart | with_reducible exact pu_part _
    | exact pu_str _ ⟨by decide +kernel, by decide +kernel⟩ | with_reducible apply pu_call | with_reducible apply pu_tup | with_reducible apply pu_lst | with_reducible apply pu_cons | (with_reducible_and_instances rfl) | rfl)
  case e =>
    clear kk r fr
    have oth : ∀ x, othOk L n x = true ↔ othOk L n x = true := fun _ => Iff.rfl
    by_cases hi : insB d = true
    · cases d with
      | ins C ns l =>
        cases (hCi C ns l rfl)
        have ev : ET.eqU C0 CS (veqG L n) (.ins C0 ns l) e' = some (.bl (insEq L (eqG L n) (.ins C0 ns l) e')) := by
          show (if C0 = C0 ∧ insOk CS e' = true then veqG L n [.ins C0 ns l, e'] else none) = _
          rw [if_pos ⟨rfl, ins_ok hCS q2⟩]
          show (if _ = true then _ else _) = _
          rw [if_pos]
          rw [q1, decide_eq_true (show wt (.tup l) < n by have : wtL l + 2 < n + 1 := q3; show wtL l + 1 < n; omega), oth_of q2 q4]
          rfl
        have e1 : isC CS sbV (.ins C0 ns l) = some (.bl true) := (if_pos hC0).trans (by rw [sV1 C0 hC0])
        refine bnd (.inl _) (bT (bT (bnd (E.bl true) e1 rfl) rfl) (mp (E.bl (insEq L (eqG L n) (.ins C0 ns l) e')) (bT (bnd (E.bl true) e1 rfl) ev))) rfl
      | _ => cases hi
    have hi : insB d = false := Bool.eq_false_iff.mpr hi
    by_cases hi2 : insB e' = true
    · have e1 : isC CS sbV d = some (.bl false) := isC_no hi
      cases e' with
      | ins C ns l =>
        have hC' : C ∈ CS := by rw [hCS]; exact qg_in q2
        have e2 : isC CS sbV (.ins C ns l) = some (.bl true) := (if_pos hC').trans (by rw [sV1 C hC'])
        refine bnd (.inl (.bl false)) (bT (bF (bnd (E.bl false) e1 rfl) (bnd (E.bl true) e2 rfl)) (mp (E.bl false) (bF (bnd (E.bl false) e1 rfl) rfl))) ?_
        show some (Sum.inl (E.bl false)) = some (Sum.inl (E.bl (if (insB d || true) = true then insEq L (eqG L n) d (.ins C ns l) else _)))
        rw [Bool.or_true, if_pos rfl]
        cases d <;> first | rfl | cases hi
      | _ => cases hi2
    have hi2 : insB e' = false := Bool.eq_false_iff.mpr hi2
    have ex0 : eqG L (n + 1) d e' = if lstB d || lstB e' then lstEq (eqG L n) d e' else decide (sortE d = sortE e') && eqC (eqG L n) d e' := by
      show (if (insB d || insB e') = true then _ else _) = _
      rw [hi, hi2]
      rfl
    rw [ex0]
    refine bnd (.inr _) (bF (bF (bnd (E.bl false) (isC_no hi) rfl) (bnd (E.bl false) (isC_no hi2) rfl)) rfl) ?_
    refine bnd (.inr _) (bF (bF (bnd (E.bl false) (isC_no hi) rfl) (bnd (E.bl false) (isC_no hi2) rfl)) rfl) ?_
    by_cases hl1 : lstB d = true
    · cases d with
      | lst l =>
        cases hl2 : lstB e' with
        | true =>
          cases e' with
          | lst m =>
            obtain ⟨t1, t2, t3⟩ := qg_lst q1
            obtain ⟨u1, u2, u3⟩ := qg_lst q2
            have w1 : wtL l + 2 < n + 1 := q3
            have w2 : wtL m + 2 < n + 1 := q4
            have ev := eqGF_at (n := n) (qg_tup t1 t3) (qg_tup u1 u3) (show wtL l + 1 < n by omega) (show wtL m + 1 < n by omega)
            exact bnd (.inl _) (bT (bT (bnd (E.bl true) rfl rfl) rfl) (mp (E.bl (eqG L n (.tup l) (.tup m))) (bT (bnd (E.bl true) rfl rfl) (bT (bnd (E.bl true) rfl rfl) (bnd ([E.tup l, E.tup m] : List E) (bnd (E.tup l) (bnd ([E.lst l] : List E) rfl (tup_ok t2)) (mp ([E.tup m] : List E) (bnd (E.tup m) (bnd ([E.lst m] : List E) rfl (tup_ok u2)) rfl))) ev))))) rfl
          | _ => cases hl2
        | false =>
          refine bnd (.inl (.bl false)) (bT (bT (bnd (E.bl true) rfl rfl) rfl) (mp (E.bl false) (bT (bnd (E.bl true) rfl rfl) (bF (bnd (E.bl false) ((isL_is hi2).trans (by rw [hl2])) rfl) rfl)))) ?_
          show some (Sum.inl (E.bl false)) = some (Sum.inl (E.bl (lstEq (eqG L n) (.lst l) e')))
          cases e' <;> first | rfl | cases hl2
      | _ => cases hl1
    have hl1 : lstB d = false := Bool.eq_false_iff.mpr hl1
    by_cases hl2 : lstB e' = true
    · refine bnd (.inl (.bl false)) (bT (bF (bnd (E.bl false) ((isL_is hi).trans (by rw [hl1])) rfl) (bnd (E.bl true) ((isL_is hi2).trans (by rw [hl2])) rfl)) (mp (E.bl false) (bF (bnd (E.bl false) ((isL_is hi).trans (by rw [hl1])) rfl) rfl))) ?_
      rw [hl1, hl2]
      show some (Sum.inl (E.bl false)) = some (Sum.inl (E.bl (lstEq (eqG L n) d e')))
      cases d <;> first | rfl | cases hl1
    have hl2 : lstB e' = false := Bool.eq_false_iff.mpr hl2
    refine bnd (.inr _) (bF (bF (bnd (E.bl false) ((isL_is hi).trans (by rw [hl1])) rfl) (bnd (E.bl false) ((isL_is hi2).trans (by rw [hl2])) rfl)) rfl) ?_
    rw [hl1, hl2]
    show _ = some (Sum.inl (E.bl (decide (sortE d = sortE e') && eqC (eqG L n) d e')))
    have t1 : domT (fun d => .str (sortE d)) [d] = some (.str (sortE d)) := by
      show (if tagD d = true then _ else _) = _
      rw [if_pos (qg_tag q1 hi)]
    have t2 : domT (fun d => .str (sortE d)) [e'] = some (.str (sortE e')) := by
      show (if tagD e' = true then _ else _) = _
      rw [if_pos (qg_tag q2 hi2)]
    by_cases hso : sortE d = sortE e'
    case neg =>
      refine bnd (.inl (.bl false)) (bT (bnd (E.bl true) (bnd (E.str (sortE d)) (bnd [d] rfl t1) (bnd (E.str (sortE e')) (bnd [e'] rfl t2) ?_)) rfl) rfl) ?_
      · show some (E.bl (!decide (sortE d = sortE e'))) = _
        rw [decide_eq_false hso]
        rfl
      · show some (Sum.inl (E.bl false)) = some (Sum.inl (E.bl (decide (sortE d = sortE e') && _)))
        rw [decide_eq_false hso]
        rfl
    refine bnd (.inr _) (bF (bnd (E.bl false) (bnd (E.str (sortE d)) (bnd [d] rfl t1) (bnd (E.str (sortE e')) (bnd [e'] rfl t2) ?_)) rfl) rfl) ?_
    · show some (E.bl (!decide (sortE d = sortE e'))) = _
      rw [decide_eq_true hso]
      rfl
    rw [decide_eq_true hso, Bool.true_and]
    cases d with
    | map ks ds =>
      cases e' with
      | map ks' ds' =>
        refine bnd (.inl _) (bT rfl ?_) rfl
        show (if (qg L (.map ks ds) && qg L (.map ks' ds') && decide (wtL ds < n) && decide (wtL ds' < n) && decide (1 ≤ n)) = true then _ else _) = _
        have w1 : wtL ds + 1 < n + 1 := q3
        have w2 : wtL ds' + 1 < n + 1 := q4
        rw [q1, q2, decide_eq_true (show 1 ≤ n by omega), decide_eq_true (show wtL ds < n by omega), decide_eq_true (show wtL ds' < n by omega)]
        rfl
      | tup m => exfalso; simp only [sortE] at hso; split at hso <;> exact absurd hso (by decide +kernel)
      | _ => simp only [sortE] at hso; exact absurd hso (by decide +kernel)
    | tup l =>
      cases e' with
      | tup m =>
        refine bnd (.inr _) (bF rfl rfl) ?_
        refine bnd (.inl _) (bT rfl (mp (E.bl (tupEq (eqG L n) l m)) ?_)) rfl
        have h0 : ((some (E.int l.length)).bind fun a => (some (E.int m.length)).bind fun b => eqS a b) = some (.bl (decide (l.length = m.length))) := by
          show some (E.bl (decide ((l.length : Int) = (m.length : Int)))) = _
          rw [decide_eq_decide.mpr (show ((l.length : Int) = (m.length : Int)) ↔ l.length = m.length by omega)]
        unfold tupEq
        by_cases hl : l.length = m.length
        case neg =>
          rw [decide_eq_false hl] at h0 ⊢
          exact bF (bnd (E.bl false) h0 rfl) rfl
        rw [decide_eq_true hl] at h0 ⊢
        refine bT (bnd (E.bl true) h0 rfl) ?_
        have hz : lcZ (fun env => (((env[4]?).bind id).bind fun d => ((((env[5]?).bind id).bind fun d => (some []).map (d :: ·))).map (d :: ·)).bind (eqGF L n)) (env0 ["one", "other", "twins", "key", "mine", "its"] [.tup l, .tup m]) 4 5 l m = some ((l.zip m).map fun p => eqG L n p.1 p.2) := by
          refine lcZ_all (eqG L n) hl fun x y hx hy => ?_
          have := wt_mem hx
          have := wt_mem hy
          have : wtL l + 1 < n + 1 := q3
          have : wtL m + 1 < n + 1 := q4
          exact eqGF_at (qgL_mem (Bool.and_eq_true_iff.mp q1).2 hx) (qgL_mem (Bool.and_eq_true_iff.mp q2).2 hy) (by omega) (by omega)
        refine bnd [E.lst (((l.zip m).map fun p => eqG L n p.1 p.2).map E.bl)] (bnd (E.lst (((l.zip m).map fun p => eqG L n p.1 p.2).map E.bl)) (mp _ hz) rfl) ?_
        have z := allE_map (fun e => match e with | .bl b => b | _ => false) (((l.zip m).map fun p => eqG L n p.1 p.2).map E.bl)
        rw [List.map_map, List.all_map, List.all_map] at z
        exact z
      | map ks' ds' => exfalso; simp only [sortE] at hso; split at hso <;> exact absurd hso (by decide +kernel)
      | lst _ => cases hl2
      | ins _ _ _ => cases hi2
      | _ => exfalso; simp only [sortE] at hso; split at hso <;> exact absurd hso (by decide +kernel)
    | lst _ => cases hl1
    | ins _ _ _ => cases hi
    | _ =>
      refine bnd (.inr _) (bF rfl rfl) (bnd (.inr _) (bF rfl rfl) ?_)
      cases e' with
      | tup m => exfalso; simp only [sortE] at hso; split at hso <;> exact absurd hso (by decide +kernel)
      | lst _ => cases hl2
      | ins _ _ _ => cases hi2
      | _ => first | rfl | (simp only [sortE] at hso; exact absurd hso (by decide +kernel))
end
end K15

namespace K15
open PySem L2 XR VT ET
variable [KC]
abbrev sNB : Stmt := inClass (top 21) 1
abbrev sFB : Stmt := inClass (top 21) 3
abbrev sMk : Stmt := inClass (top 21) 2
abbrev sNR : Stmt := inClass (top 22) 1
abbrev sFR : Stmt := inClass (top 22) 2
abbrev sNC : Stmt := inClass (top 23) 1
abbrev sFC : Stmt := inClass (top 23) 2
abbrev sNM : Stmt := inClass (top 24) 1
abbrev sFM : Stmt := inClass (top 24) 2
abbrev sNG : Stmt := inClass (top 25) 1
abbrev sFG : Stmt := inClass (top 25) 2
def cnF (L : CL) (C : Addr) : List E → Option E
  | [.ins C' _ _] => if C' = C then some (.str (L.nm C)) else none
  | _ => none
theorem cnF_len {L : CL} {C : Addr} (ds : List E) (d : E) (h : cnF L C ds = some d) : ds.length = 1 := by
  unfold cnF at h
  split at h
  · rfl
  · cases h
theorem cnF_eq {L : CL} {C : Addr} {ds : List E} {d : E} (h : cnF L C ds = some d) : ∃ C' ns l, ds = [.ins C' ns l] ∧ C' = C ∧ d = .str (L.nm C) := by
  unfold cnF at h
  split at h
  · split at h
    · rename_i hc
      cases h
      exact ⟨_, _, _, rfl, hc, rfl⟩
    · cases h
  · cases h
def fiF (L : CL) (C : Addr) : List E → Option E
  | [.ins C' ns l] => if C' = C ∧ ns = L.fl C ∧ l.length = (L.fl C).length then some (.tup l) else none
  | _ => none
theorem fiF_len {L : CL} {C : Addr} (ds : List E) (d : E) (h : fiF L C ds = some d) : ds.length = 1 := by
  unfold fiF at h
  split at h
  · rfl
  · cases h
theorem fiF_eq {L : CL} {C : Addr} {ds : List E} {d : E} (h : fiF L C ds = some d) : ∃ l, ds = [.ins C (L.fl C) l] ∧ l.length = (L.fl C).length ∧ d = .tup l := by
  unfold fiF at h
  split at h
  · split at h
    · rename_i hc
      obtain ⟨rfl, rfl, hl⟩ := hc
      cases h
      exact ⟨_, rfl, hl, rfl⟩
    · cases h
  · cases h
/-- what is had of a class -/
structure Kl (P : Program) (w : World) (K : PySem.W.Frag) (mg : Str → Option Value) (base : Heap) (L : CL) (C : Addr) : Prop where
  cl : Cls K C
  cn : ∃ f fd, Meth K C "class_name" f ∧ Binds K fd ["self"] [] ∧ FnOk P w K mg base CX0 1 f fd ["self"] (spP (cnF L C))
  fi : ∃ f fd, Meth K C "fields" f ∧ Binds K fd ["self"] [] ∧ FnOk P w K mg base CX0 2 f fd ["self"] (spP (fiF L C))
theorem fl_no (L : CL) (C : Addr) : ("class_name" : Str) ∉ L.fl C ∧ ("fields" : Str) ∉ L.fl C := by
  unfold CL.fl
  split
  · exact ⟨by decide +kernel, by decide +kernel⟩
  split
  · exact ⟨by decide +kernel, by decide +kernel⟩
  split
  · exact ⟨by decide +kernel, by decide +kernel⟩
  split
  · exact ⟨by decide +kernel, by decide +kernel⟩
  · exact ⟨by decide +kernel, by decide +kernel⟩
theorem qg_ins {L : CL} {C : Addr} {ns : List Str} {l : List E} (h : qg L (.ins C ns l) = true) : C ∈ L.all ∧ ns = L.fl C ∧ l.length = (L.fl C).length ∧ qg L (.tup l) = true := by
  have h : (decide (C ∈ L.all) && decide (ns = L.fl C) && decide (l.length = (L.fl C).length) && tagD (.tup l) && qgL L l) = true := h
  simp only [Bool.and_eq_true] at h
  exact ⟨of_decide_eq_true h.1.1.1.1, of_decide_eq_true h.1.1.1.2, of_decide_eq_true h.1.1.2, Bool.and_eq_true_iff.mpr ⟨h.1.2, h.2⟩⟩
section
variable {P : Program} {w : World} {K : PySem.W.Frag} {mg : Str → Option Value} {base : Heap} [KcOk K]
theorem scNB : FnScope ["self"] ["self"] (defScope sNB) := ⟨rfl, rfl, rfl, by decide +kernel, rfl, by decide +kernel, by decide +kernel⟩
theorem ok_NB {L : CL} {f : Addr} {fd : FuncData} (F : Fun K "class_name" "Block.class_name" sNB f fd) (hn : L.nm L.CB = "Block") : FnOk P w K mg base CX0 1 f fd ["self"] (spP (cnF L L.CB)) := by
  refine F.ok scNB (fun vs H Q E0 h => spP_len cnF_len h) (fun cdv A outer s H vs Q E0 hr h => ?_)
  refine ⟨_, (pss_one (ps_ret pe_str)), ?_⟩
  apply pu_def (N := ["self"]) (h := h)
  case pu => exact pu_ret (pu_str _ ⟨by decide +kernel, by decide +kernel⟩)
  case hF =>
    intro ds d e
    obtain ⟨C', ns, l, rfl, hc, rfl⟩ := cnF_eq e
    rw [hn]
    rfl
theorem scMk : FnScope ["self"] ["self"] (defScope sMk) := ⟨rfl, rfl, rfl, by decide +kernel, rfl, by decide +kernel, by decide +kernel⟩
def mkF (L : CL) : List E → Option E
  | [.ins C ns [a0, a1, a2, a3, a4, a5, a6, a7, a8, a9]] => if C = L.CB ∧ ns = flB then some (.tup [a7, a8, a9]) else none
  | _ => none
theorem mkF_len {L : CL} (ds : List E) (d : E) (h : mkF L ds = some d) : ds.length = 1 := by
  unfold mkF at h
  split at h
  · rfl
  · cases h
theorem ok_Mk {L : CL} {f : Addr} {fd : FuncData} (F : Fun K "marks" "Block.marks" sMk f fd) (cl : Cls K L.CB) (nA : ∀ x ∈ flB, NoAttr K L.CB x) : FnOk P w K mg base CX0 1 f fd ["self"] (spP (mkF L)) := by
  refine F.ok scMk (fun vs H Q E0 h => spP_len mkF_len h) (fun cdv A outer s H vs Q E0 hr h => ?_)
  refine ⟨_, (pss_one (ps_ret (pe_tup (pa_cons (pe_fldK (K := K) rfl (pv 0) rfl) (pa_cons (pe_fldK (K := K) rfl (pv 0) rfl) (pa_cons (pe_fldK (K := K) rfl (pv 0) rfl) pa_nil)))))), ?_⟩
  have hC : ∀ C ∈ ([] : List Addr), CF K C := fun C h => by cases h
  apply pu_def (N := ["self"]) (h := h)
  case pu => (repeat' first
    | with_reducible exact pu_var _ | with_reducible exact pu_non | with_reducible exact pu_bl _ | with_reducible exact pu_int _ | with_reducible exact pu_nil | with_reducible exact pu_next | with_reducible exact pu_yes
    | with_reducible apply pu_seq | with_reducible apply pu_ifS | with_reducible apply pu_ret | with_reducible apply pu_asg
    | with_reducible apply pu_and | with_reducible apply pu_or | with_reducible apply pu_not | with_reducible apply pu_test | with_reducible apply pu_b
    | with_reducible apply pu_andV | with_reducible apply pu_orV | with_reducible apply pu_notV | with_reducible apply pu_if
    | with_reducible apply pu_isi hC | with_reducible apply pu_cb (hr := pu_len) | with_reducible apply pu_cb (hr := pu_all) | with_reducible apply pu_cb (hr := pu_any) | with_reducible apply pu_cb (hr := pu_tupOf) | with_reducible apply pu_cb (hr := pu_lstOf)
    | with_reducible apply pu_fld cl (nA _ (by decide +kernel))
    | with_reducible apply pu_op (hr := pu_ixT) | with_reducible apply pu_op (hr := pu_ixL) | with_reducible apply pu_op (hr := pu_eqS) | with_reducible apply pu_op (hr := pu_neS) | with_reducible apply pu_op (hr := pu_in) | with_reducible apply pu_op (hr := pu_isNo) | with_reducible apply pu_op (hr := pu_notNo)
    | with_reducible apply pu_op (hr := pu_cm) | with_reducible apply pu_op (hr := pu_ar) | with_reducible apply pu_op (hr := pu_eqP) | with_reducible apply pu_op (hr := pu_neP) | with_reducible apply pu_op (hr := pu_catT) | with_reducible apply pu_op (hr := pu_catL)
    | with_reducible apply pu_chain pu_cm pu_cm | with_reducible apply pu_lcV | with_reducible apply pu_dcV | with_reducible apply pu_iTup | with_reducible apply pu_iLst
    | with_reducible apply pu_slT | with_reducible apply pu_slL | with_reducible exact pu_noPart | with_reducible exact pu_part _
    | exact pu_str _ ⟨by decide +kernel, by decide +kernel⟩ | with_reducible apply pu_call | with_reducible apply pu_tup | with_reducible apply pu_lst | with_reducible apply pu_cons | (with_reducible_and_instances rfl) | rfl)
  case hF =>
    intro ds d e
    unfold mkF at e
    split at e
    case h_2 => cases e
    split at e
    case isFalse => cases e
    rename_i hq
    obtain ⟨rfl, rfl⟩ := hq
    cases e
    rename_i a0 a1 a2 a3 a4 a5 a6 a7 a8 a9
    have go : ∀ (f : Str) (d : E), getF flB [a0, a1, a2, a3, a4, a5, a6, a7, a8, a9] f = some d → fldE L.CB f (.ins L.CB flB [a0, a1, a2, a3, a4, a5, a6, a7, a8, a9]) = some d := fun f d h => (if_pos rfl).trans h
    refine mp (E.tup [a7, a8, a9]) (bnd ([a7, a8, a9] : List E) (bnd a7 (bnd _ rfl (go _ _ rfl)) (mp ([a8, a9] : List E) (bnd a8 (bnd _ rfl (go _ _ rfl)) (mp ([a9] : List E) (bnd a9 (bnd _ rfl (go _ _ rfl)) rfl))))) rfl)
theorem scFB : FnScope ["self"] ["self"] (defScope sFB) := ⟨rfl, rfl, rfl, by decide +kernel, rfl, by decide +kernel, by decide +kernel⟩
theorem ok_FB {L : CL} {f : Addr} {fd : FuncData} (F : Fun K "fields" "Block.fields" sFB f fd) (hf : L.fl L.CB = flB) (cl : Cls K L.CB) (nA : ∀ x ∈ flB, NoAttr K L.CB x) {fMk : Addr} {dMk : FuncData} (mMk : Meth K L.CB "marks" fMk) (GMk : FnOk P w K mg base CX0 1 fMk dMk ["self"] (spP (mkF L))) (bMk : Binds K dMk ["self"] []) : FnOk P w K mg base CX0 2 f fd ["self"] (spP (fiF L L.CB)) := by
  refine F.ok scFB (fun vs H Q E0 h => spP_len fiF_len h) (fun cdv A outer s H vs Q E0 hr h => ?_)
  have hr1 : Room 1 _ := hr
  refine ⟨_, (pss_one (ps_ret (pe_op (op_catTK (K := K) rfl) (pe_tup (pa_cons (pe_fldK (K := K) rfl (pv 0) rfl) (pa_cons (pe_fldK (K := K) rfl (pv 0) rfl) (pa_cons (pe_fldK (K := K) rfl (pv 0) rfl) (pa_cons (pe_fldK (K := K) rfl (pv 0) rfl) (pa_cons (pe_fldK (K := K) rfl (pv 0) rfl) (pa_cons (pe_fldK (K := K) rfl (pv 0) rfl) (pa_cons (pe_fldK (K := K) rfl (pv 0) rfl) pa_nil)))))))) (pe_meth0 (pv 0) cl mMk GMk hr1 bMk .nil pass0)))), ?_⟩
  have hC : ∀ C ∈ ([] : List Addr), CF K C := fun C h => by cases h
  apply pu_def (N := ["self"]) (h := h)
  case pu => (repeat' first
    | with_reducible exact pu_var _ | with_reducible exact pu_non | with_reducible exact pu_bl _ | with_reducible exact pu_int _ | with_reducible exact pu_nil | with_reducible exact pu_next | with_reducible exact pu_yes
    | with_reducible apply pu_seq | with_reducible apply pu_ifS | with_reducible apply pu_ret | with_reducible apply pu_asg
    | with_reducible apply pu_and | with_reducible apply pu_or | with_reducible apply pu_not | with_reducible apply pu_test | with_reducible apply pu_b
    | with_reducible apply pu_andV | with_reducible apply pu_orV | with_reducible apply pu_notV | with_reducible apply pu_if
    | with_reducible apply pu_isi hC | with_reducible apply pu_cb (hr := pu_len) | with_reducible apply pu_cb (hr := pu_all) | with_reducible apply pu_cb (hr := pu_any) | with_reducible apply pu_cb (hr := pu_tupOf) | with_reducible apply pu_cb (hr := pu_lstOf)
    | with_reducible apply pu_fld cl (nA _ (by decide +kernel))
    | with_reducible apply pu_meth
    | with_reducible apply pu_op (hr := pu_ixT) | with_reducible apply pu_op (hr := pu_ixL) | with_reducible apply pu_op (hr := pu_eqS) | with_reducible apply pu_op (hr := pu_neS) | with_reducible apply pu_op (hr := pu_in) | with_reducible apply pu_op (hr := pu_isNo) | with_reducible apply pu_op (hr := pu_notNo)
    | with_reducible apply pu_op (hr := pu_cm) | with_reducible apply pu_op (hr := pu_ar) | with_reducible apply pu_op (hr := pu_eqP) | with_reducible apply pu_op (hr := pu_neP) | with_reducible apply pu_op (hr := pu_catT) | with_reducible apply pu_op (hr := pu_catL)
    | with_reducible apply pu_chain pu_cm pu_cm | with_reducible apply pu_lcV | with_reducible apply pu_dcV | with_reducible apply pu_iTup | with_reducible apply pu_iLst
    | with_reducible apply pu_slT | with_reducible apply pu_slL | with_reducible exact pu_noPart | with_reducible exact pu_part _
    | exact pu_str _ ⟨by decide +kernel, by decide +kernel⟩ | with_reducible apply pu_call | with_reducible apply pu_tup | with_reducible apply pu_lst | with_reducible apply pu_cons | (with_reducible_and_instances rfl) | rfl)
  case hF =>
    intro ds d e
    obtain ⟨l, rfl, hl, rfl⟩ := fiF_eq e
    rw [hf] at hl
    match l, hl with
    | [a0, a1, a2, a3, a4, a5, a6, a7, a8, a9], _ =>
    rw [hf]
    have go : ∀ (f : Str) (d : E), getF flB [a0, a1, a2, a3, a4, a5, a6, a7, a8, a9] f = some d → fldE L.CB f (.ins L.CB flB [a0, a1, a2, a3, a4, a5, a6, a7, a8, a9]) = some d := fun f d h => (if_pos rfl).trans h
    exact mp (E.tup [a0, a1, a2, a3, a4, a5, a6, a7, a8, a9]) (bnd (E.tup [a0, a1, a2, a3, a4, a5, a6]) (bnd ([a0, a1, a2, a3, a4, a5, a6] : List E) (bnd a0 (bnd _ rfl (go _ _ rfl)) (mp ([a1, a2, a3, a4, a5, a6] : List E) (bnd a1 (bnd _ rfl (go _ _ rfl)) (mp ([a2, a3, a4, a5, a6] : List E) (bnd a2 (bnd _ rfl (go _ _ rfl)) (mp ([a3, a4, a5, a6] : List E) (bnd a3 (bnd _ rfl (go _ _ rfl)) (mp ([a4, a5, a6] : List E) (bnd a4 (bnd _ rfl (go _ _ rfl)) (mp ([a5, a6] : List E) (bnd a5 (bnd _ rfl (go _ _ rfl)) (mp ([a6] : List E) (bnd a6 (bnd _ rfl (go _ _ rfl)) rfl))))))))))))) rfl) (bnd (E.tup [a7, a8, a9]) (bnd (E.ins L.CB flB [a0, a1, a2, a3, a4, a5, a6, a7, a8, a9]) rfl ((if_pos ⟨rfl, by decide +kernel⟩).trans (if_pos ⟨rfl, rfl⟩))) rfl))
theorem scNR : FnScope ["self"] ["self"] (defScope sNR) := ⟨rfl, rfl, rfl, by decide +kernel, rfl, by decide +kernel, by decide +kernel⟩
theorem ok_NR {L : CL} {f : Addr} {fd : FuncData} (F : Fun K "class_name" "Reading.class_name" sNR f fd) (hn : L.nm L.CR = "Reading") : FnOk P w K mg base CX0 1 f fd ["self"] (spP (cnF L L.CR)) := by
  refine F.ok scNR (fun vs H Q E0 h => spP_len cnF_len h) (fun cdv A outer s H vs Q E0 hr h => ?_)
  refine ⟨_, (pss_one (ps_ret pe_str)), ?_⟩
  apply pu_def (N := ["self"]) (h := h)
  case pu => exact pu_ret (pu_str _ ⟨by decide +kernel, by decide +kernel⟩)
  case hF =>
    intro ds d e
    obtain ⟨C', ns, l, rfl, hc, rfl⟩ := cnF_eq e
    rw [hn]
    rfl
theorem scFR : FnScope ["self"] ["self"] (defScope sFR) := ⟨rfl, rfl, rfl, by decide +kernel, rfl, by decide +kernel, by decide +kernel⟩
theorem ok_FR {L : CL} {f : Addr} {fd : FuncData} (F : Fun K "fields" "Reading.fields" sFR f fd) (hf : L.fl L.CR = flR) (cl : Cls K L.CR) (nA : ∀ x ∈ flR, NoAttr K L.CR x) : FnOk P w K mg base CX0 2 f fd ["self"] (spP (fiF L L.CR)) := by
  refine F.ok scFR (fun vs H Q E0 h => spP_len fiF_len h) (fun cdv A outer s H vs Q E0 hr h => ?_)
  have hr1 : Room 1 _ := hr
  refine ⟨_, (pss_one (ps_ret (pe_tup (pa_cons (pe_fldK (K := K) rfl (pv 0) rfl) (pa_cons (pe_fldK (K := K) rfl (pv 0) rfl) (pa_cons (pe_fldK (K := K) rfl (pv 0) rfl) (pa_cons (pe_fldK (K := K) rfl (pv 0) rfl) pa_nil))))))), ?_⟩
  have hC : ∀ C ∈ ([] : List Addr), CF K C := fun C h => by cases h
  apply pu_def (N := ["self"]) (h := h)
  case pu => (repeat' first
    | with_reducible exact pu_var _ | with_reducible exact pu_non | with_reducible exact pu_bl _ | with_reducible exact pu_int _ | with_reducible exact pu_nil | with_reducible exact pu_next | with_reducible exact pu_yes
    | with_reducible apply pu_seq | with_reducible apply pu_ifS | with_reducible apply pu_ret | with_reducible apply pu_asg
    | with_reducible apply pu_and | with_reducible apply pu_or | with_reducible apply pu_not | with_reducible apply pu_test | with_reducible apply pu_b
    | with_reducible apply pu_andV | with_reducible apply pu_orV | with_reducible apply pu_notV | with_reducible apply pu_if
    | with_reducible apply pu_isi hC | with_reducible apply pu_cb (hr := pu_len) | with_reducible apply pu_cb (hr := pu_all) | with_reducible apply pu_cb (hr := pu_any) | with_reducible apply pu_cb (hr := pu_tupOf) | with_reducible apply pu_cb (hr := pu_lstOf)
    | with_reducible apply pu_fld cl (nA _ (by decide +kernel))
    | with_reducible apply pu_meth
    | with_reducible apply pu_op (hr := pu_ixT) | with_reducible apply pu_op (hr := pu_ixL) | with_reducible apply pu_op (hr := pu_eqS) | with_reducible apply pu_op (hr := pu_neS) | with_reducible apply pu_op (hr := pu_in) | with_reducible apply pu_op (hr := pu_isNo) | with_reducible apply pu_op (hr := pu_notNo)
    | with_reducible apply pu_op (hr := pu_cm) | with_reducible apply pu_op (hr := pu_ar) | with_reducible apply pu_op (hr := pu_eqP) | with_reducible apply pu_op (hr := pu_neP) | with_reducible apply pu_op (hr := pu_catT) | with_reducible apply pu_op (hr := pu_catL)
    | with_reducible apply pu_chain pu_cm pu_cm | with_reducible apply pu_lcV | with_reducible apply pu_dcV | with_reducible apply pu_iTup | with_reducible apply pu_iLst
    | with_reducible apply pu_slT | with_reducible apply pu_slL | with_reducible exact pu_noPart | with_reducible exact pu_part _
    | exact pu_str _ ⟨by decide +kernel, by decide +kernel⟩ | with_reducible apply pu_call | with_reducible apply pu_tup | with_reducible apply pu_lst | with_reducible apply pu_cons | (with_reducible_and_instances rfl) | rfl)
  case hF =>
    intro ds d e
    obtain ⟨l, rfl, hl, rfl⟩ := fiF_eq e
    rw [hf] at hl
    match l, hl with
    | [a0, a1, a2, a3], _ =>
    rw [hf]
    have go : ∀ (f : Str) (d : E), getF flR [a0, a1, a2, a3] f = some d → fldE L.CR f (.ins L.CR flR [a0, a1, a2, a3]) = some d := fun f d h => (if_pos rfl).trans h
    exact mp (E.tup [a0, a1, a2, a3]) (bnd ([a0, a1, a2, a3] : List E) (bnd a0 (bnd _ rfl (go _ _ rfl)) (mp ([a1, a2, a3] : List E) (bnd a1 (bnd _ rfl (go _ _ rfl)) (mp ([a2, a3] : List E) (bnd a2 (bnd _ rfl (go _ _ rfl)) (mp ([a3] : List E) (bnd a3 (bnd _ rfl (go _ _ rfl)) rfl))))))) rfl)
theorem scNC : FnScope ["self"] ["self"] (defScope sNC) := ⟨rfl, rfl, rfl, by decide +kernel, rfl, by decide +kernel, by decide +kernel⟩
theorem ok_NC {L : CL} {f : Addr} {fd : FuncData} (F : Fun K "class_name" "Call.class_name" sNC f fd) (hn : L.nm L.CC = "Call") : FnOk P w K mg base CX0 1 f fd ["self"] (spP (cnF L L.CC)) := by
  refine F.ok scNC (fun vs H Q E0 h => spP_len cnF_len h) (fun cdv A outer s H vs Q E0 hr h => ?_)
  refine ⟨_, (pss_one (ps_ret pe_str)), ?_⟩
  apply pu_def (N := ["self"]) (h := h)
  case pu => exact pu_ret (pu_str _ ⟨by decide +kernel, by decide +kernel⟩)
  case hF =>
    intro ds d e
    obtain ⟨C', ns, l, rfl, hc, rfl⟩ := cnF_eq e
    rw [hn]
    rfl
theorem scFC : FnScope ["self"] ["self"] (defScope sFC) := ⟨rfl, rfl, rfl, by decide +kernel, rfl, by decide +kernel, by decide +kernel⟩
theorem ok_FC {L : CL} {f : Addr} {fd : FuncData} (F : Fun K "fields" "Call.fields" sFC f fd) (hf : L.fl L.CC = flC) (cl : Cls K L.CC) (nA : ∀ x ∈ flC, NoAttr K L.CC x) : FnOk P w K mg base CX0 2 f fd ["self"] (spP (fiF L L.CC)) := by
  refine F.ok scFC (fun vs H Q E0 h => spP_len fiF_len h) (fun cdv A outer s H vs Q E0 hr h => ?_)
  have hr1 : Room 1 _ := hr
  refine ⟨_, (pss_one (ps_ret (pe_tup (pa_cons (pe_fldK (K := K) rfl (pv 0) rfl) (pa_cons (pe_fldK (K := K) rfl (pv 0) rfl) (pa_cons (pe_fldK (K := K) rfl (pv 0) rfl) (pa_cons (pe_fldK (K := K) rfl (pv 0) rfl) pa_nil))))))), ?_⟩
  have hC : ∀ C ∈ ([] : List Addr), CF K C := fun C h => by cases h
  apply pu_def (N := ["self"]) (h := h)
  case pu => (repeat' first
    | with_reducible exact pu_var _ | with_reducible exact pu_non | with_reducible exact pu_bl _ | with_reducible exact pu_int _ | with_reducible exact pu_nil | with_reducible exact pu_next | with_reducible exact pu_yes
    | with_reducible apply pu_seq | with_reducible apply pu_ifS | with_reducible apply pu_ret | with_reducible apply pu_asg
    | with_reducible apply pu_and | with_reducible apply pu_or | with_reducible apply pu_not | with_reducible apply pu_test | with_reducible apply pu_b
    | with_reducible apply pu_andV | with_reducible apply pu_orV | with_reducible apply pu_notV | with_reducible apply pu_if
    | with_reducible apply pu_isi hC | with_reducible apply pu_cb (hr := pu_len) | with_reducible apply pu_cb (hr := pu_all) | with_reducible apply pu_cb (hr := pu_any) | with_reducible apply pu_cb (hr := pu_tupOf) | with_reducible apply pu_cb (hr := pu_lstOf)
    | with_reducible apply pu_fld cl (nA _ (by decide +kernel))
    | with_reducible apply pu_meth
    | with_reducible apply pu_op (hr := pu_ixT) | with_reducible apply pu_op (hr := pu_ixL) | with_reducible apply pu_op (hr := pu_eqS) | with_reducible apply pu_op (hr := pu_neS) | with_reducible apply pu_op (hr := pu_in) | with_reducible apply pu_op (hr := pu_isNo) | with_reducible apply pu_op (hr := pu_notNo)
    | with_reducible apply pu_op (hr := pu_cm) | with_reducible apply pu_op (hr := pu_ar) | with_reducible apply pu_op (hr := pu_eqP) | with_reducible apply pu_op (hr := pu_neP) | with_reducible apply pu_op (hr := pu_catT) | with_reducible apply pu_op (hr := pu_catL)
    | with_reducible apply pu_chain pu_cm pu_cm | with_reducible apply pu_lcV | with_reducible apply pu_dcV | with_reducible apply pu_iTup | with_reducible apply pu_iLst
    | with_reducible apply pu_slT | with_reducible apply pu_slL | with_reducible exact pu_noPart | with_reducible exact pu_part _
    | exact pu_str _ ⟨by decide +kernel, by decide +kernel⟩ | with_reducible apply pu_call | with_reducible apply pu_tup | with_reducible apply pu_lst | with_reducible apply pu_cons | (with_reducible_and_instances rfl) | rfl)
  case hF =>
    intro ds d e
    obtain ⟨l, rfl, hl, rfl⟩ := fiF_eq e
    rw [hf] at hl
    match l, hl with
    | [a0, a1, a2, a3], _ =>
    rw [hf]
    have go : ∀ (f : Str) (d : E), getF flC [a0, a1, a2, a3] f = some d → fldE L.CC f (.ins L.CC flC [a0, a1, a2, a3]) = some d := fun f d h => (if_pos rfl).trans h
    exact mp (E.tup [a0, a1, a2, a3]) (bnd ([a0, a1, a2, a3] : List E) (bnd a0 (bnd _ rfl (go _ _ rfl)) (mp ([a1, a2, a3] : List E) (bnd a1 (bnd _ rfl (go _ _ rfl)) (mp ([a2, a3] : List E) (bnd a2 (bnd _ rfl (go _ _ rfl)) (mp ([a3] : List E) (bnd a3 (bnd _ rfl (go _ _ rfl)) rfl))))))) rfl)
theorem scNM : FnScope ["self"] ["self"] (defScope sNM) := ⟨rfl, rfl, rfl, by decide +kernel, rfl, by decide +kernel, by decide +kernel⟩
theorem ok_NM {L : CL} {f : Addr} {fd : FuncData} (F : Fun K "class_name" "Move.class_name" sNM f fd) (hn : L.nm L.CM = "Move") : FnOk P w K mg base CX0 1 f fd ["self"] (spP (cnF L L.CM)) := by
  refine F.ok scNM (fun vs H Q E0 h => spP_len cnF_len h) (fun cdv A outer s H vs Q E0 hr h => ?_)
  refine ⟨_, (pss_one (ps_ret pe_str)), ?_⟩
  apply pu_def (N := ["self"]) (h := h)
  case pu => exact pu_ret (pu_str _ ⟨by decide +kernel, by decide +kernel⟩)
  case hF =>
    intro ds d e
    obtain ⟨C', ns, l, rfl, hc, rfl⟩ := cnF_eq e
    rw [hn]
    rfl
theorem scFM : FnScope ["self"] ["self"] (defScope sFM) := ⟨rfl, rfl, rfl, by decide +kernel, rfl, by decide +kernel, by decide +kernel⟩
theorem ok_FM {L : CL} {f : Addr} {fd : FuncData} (F : Fun K "fields" "Move.fields" sFM f fd) (hf : L.fl L.CM = flM) (cl : Cls K L.CM) (nA : ∀ x ∈ flM, NoAttr K L.CM x) : FnOk P w K mg base CX0 2 f fd ["self"] (spP (fiF L L.CM)) := by
  refine F.ok scFM (fun vs H Q E0 h => spP_len fiF_len h) (fun cdv A outer s H vs Q E0 hr h => ?_)
  have hr1 : Room 1 _ := hr
  refine ⟨_, (pss_one (ps_ret (pe_tup (pa_cons (pe_fldK (K := K) rfl (pv 0) rfl) (pa_cons (pe_fldK (K := K) rfl (pv 0) rfl) pa_nil))))), ?_⟩
  have hC : ∀ C ∈ ([] : List Addr), CF K C := fun C h => by cases h
  apply pu_def (N := ["self"]) (h := h)
  case pu => (repeat' first
    | with_reducible exact pu_var _ | with_reducible exact pu_non | with_reducible exact pu_bl _ | with_reducible exact pu_int _ | with_reducible exact pu_nil | with_reducible exact pu_next | with_reducible exact pu_yes
    | with_reducible apply pu_seq | with_reducible apply pu_ifS | with_reducible apply pu_ret | with_reducible apply pu_asg
    | with_reducible apply pu_and | with_reducible apply pu_or | with_reducible apply pu_not | with_reducible apply pu_test | with_reducible apply pu_b
    | with_reducible apply pu_andV | with_reducible apply pu_orV | with_reducible apply pu_notV | with_reducible apply pu_if
    | with_reducible apply pu_isi hC | with_reducible apply pu_cb (hr := pu_len) | with_reducible apply pu_cb (hr := pu_all) | with_reducible apply pu_cb (hr := pu_any) | with_reducible apply pu_cb (hr := pu_tupOf) | with_reducible apply pu_cb (hr := pu_lstOf)
    | with_reducible apply pu_fld cl (nA _ (by decide +kernel))
    | with_reducible apply pu_meth
    | with_reducible apply pu_op (hr := pu_ixT) | with_reducible apply pu_op (hr := pu_ixL) | with_reducible apply pu_op (hr := pu_eqS) | with_reducible apply pu_op (hr := pu_neS) | with_reducible apply pu_op (hr := pu_in) | with_reducible apply pu_op (hr := pu_isNo) | with_reducible apply pu_op (hr := pu_notNo)
    | with_reducible apply pu_op (hr := pu_cm) | with_reducible apply pu_op (hr := pu_ar) | with_reducible apply pu_op (hr := pu_eqP) | with_reducible apply pu_op (hr := pu_neP) | with_reducible apply pu_op (hr := pu_catT) | with_reducible apply pu_op (hr := pu_catL)
    | with_reducible apply pu_chain pu_cm pu_cm | with_reducible apply pu_lcV | with_reducible apply pu_dcV | with_reducible apply pu_iTup | with_reducible apply pu_iLst
    | with_reducible apply pu_slT | with_reducible apply pu_slL | with_reducible exact pu_noPart | with_reducible exact pu_part _
    | exact pu_str _ ⟨by decide +kernel, by decide +kernel⟩ | with_reducible apply pu_call | with_reducible apply pu_tup | with_reducible apply pu_lst | with_reducible apply pu_cons | (with_reducible_and_instances rfl) | rfl)
  case hF =>
    intro ds d e
    obtain ⟨l, rfl, hl, rfl⟩ := fiF_eq e
    rw [hf] at hl
    match l, hl with
    | [a0, a1], _ =>
    rw [hf]
    have go : ∀ (f : Str) (d : E), getF flM [a0, a1] f = some d → fldE L.CM f (.ins L.CM flM [a0, a1]) = some d := fun f d h => (if_pos rfl).trans h
    exact mp (E.tup [a0, a1]) (bnd ([a0, a1] : List E) (bnd a0 (bnd _ rfl (go _ _ rfl)) (mp ([a1] : List E) (bnd a1 (bnd _ rfl (go _ _ rfl)) rfl))) rfl)
theorem scNG : FnScope ["self"] ["self"] (defScope sNG) := ⟨rfl, rfl, rfl, by decide +kernel, rfl, by decide +kernel, by decide +kernel⟩
theorem ok_NG {L : CL} {f : Addr} {fd : FuncData} (F : Fun K "class_name" "Config.class_name" sNG f fd) (hn : L.nm L.CG = "Config") : FnOk P w K mg base CX0 1 f fd ["self"] (spP (cnF L L.CG)) := by
  refine F.ok scNG (fun vs H Q E0 h => spP_len cnF_len h) (fun cdv A outer s H vs Q E0 hr h => ?_)
  refine ⟨_, (pss_one (ps_ret pe_str)), ?_⟩
  apply pu_def (N := ["self"]) (h := h)
  case pu => exact pu_ret (pu_str _ ⟨by decide +kernel, by decide +kernel⟩)
  case hF =>
    intro ds d e
    obtain ⟨C', ns, l, rfl, hc, rfl⟩ := cnF_eq e
    rw [hn]
    rfl
theorem scFG : FnScope ["self"] ["self"] (defScope sFG) := ⟨rfl, rfl, rfl, by decide +kernel, rfl, by decide +kernel, by decide +kernel⟩
theorem ok_FG {L : CL} {f : Addr} {fd : FuncData} (F : Fun K "fields" "Config.fields" sFG f fd) (hf : L.fl L.CG = flG) (cl : Cls K L.CG) (nA : ∀ x ∈ flG, NoAttr K L.CG x) : FnOk P w K mg base CX0 2 f fd ["self"] (spP (fiF L L.CG)) := by
  refine F.ok scFG (fun vs H Q E0 h => spP_len fiF_len h) (fun cdv A outer s H vs Q E0 hr h => ?_)
  have hr1 : Room 1 _ := hr
  refine ⟨_, (pss_one (ps_ret (pe_tup (pa_cons (pe_fldK (K := K) rfl (pv 0) rfl) (pa_cons (pe_fldK (K := K) rfl (pv 0) rfl) (pa_cons (pe_fldK (K := K) rfl (pv 0) rfl) (pa_cons (pe_fldK (K := K) rfl (pv 0) rfl) (pa_cons (pe_fldK (K := K) rfl (pv 0) rfl) (pa_cons (pe_fldK (K := K) rfl (pv 0) rfl) pa_nil))))))))), ?_⟩
  have hC : ∀ C ∈ ([] : List Addr), CF K C := fun C h => by cases h
  apply pu_def (N := ["self"]) (h := h)
  case pu => (repeat' first
    | with_reducible exact pu_var _ | with_reducible exact pu_non | with_reducible exact pu_bl _ | with_reducible exact pu_int _ | with_reducible exact pu_nil | with_reducible exact pu_next | with_reducible exact pu_yes
    | with_reducible apply pu_seq | with_reducible apply pu_ifS | with_reducible apply pu_ret | with_reducible apply pu_asg
    | with_reducible apply pu_and | with_reducible apply pu_or | with_reducible apply pu_not | with_reducible apply pu_test | with_reducible apply pu_b
    | with_reducible apply pu_andV | with_reducible apply pu_orV | with_reducible apply pu_notV | with_reducible apply pu_if
    | with_reducible apply pu_isi hC | with_reducible apply pu_cb (hr := pu_len) | with_reducible apply pu_cb (hr := pu_all) | with_reducible apply pu_cb (hr := pu_any) | with_reducible apply pu_cb (hr := pu_tupOf) | with_reducible apply pu_cb (hr := pu_lstOf)
    | with_reducible apply pu_fld cl (nA _ (by decide +kernel))
    | with_reducible apply pu_meth
    | with_reducible apply pu_op (hr := pu_ixT) | with_reducible apply pu_op (hr := pu_ixL) | with_reducible apply pu_op (hr := pu_eqS) | with_reducible apply pu_op (hr := pu_neS) | with_reducible apply pu_op (hr := pu_in) | with_reducible apply pu_op (hr := pu_isNo) | with_reducible apply pu_op (hr := pu_notNo)
    | with_reducible apply pu_op (hr := pu_cm) | with_reducible apply pu_op (hr := pu_ar) | with_reducible apply pu_op (hr := pu_eqP) | with_reducible apply pu_op (hr := pu_neP) | with_reducible apply pu_op (hr := pu_catT) | with_reducible apply pu_op (hr := pu_catL)
    | with_reducible apply pu_chain pu_cm pu_cm | with_reducible apply pu_lcV | with_reducible apply pu_dcV | with_reducible apply pu_iTup | with_reducible apply pu_iLst
    | with_reducible apply pu_slT | with_reducible apply pu_slL | with_reducible exact pu_noPart | with_reducible exact pu_part _
    | exact pu_str _ ⟨by decide +kernel, by decide +kernel⟩ | with_reducible apply pu_call | with_reducible apply pu_tup | with_reducible apply pu_lst | with_reducible apply pu_cons | (with_reducible_and_instances rfl) | rfl)
  case hF =>
    intro ds d e
    obtain ⟨l, rfl, hl, rfl⟩ := fiF_eq e
    rw [hf] at hl
    match l, hl with
    | [a0, a1, a2, a3, a4, a5], _ =>
    rw [hf]
    have go : ∀ (f : Str) (d : E), getF flG [a0, a1, a2, a3, a4, a5] f = some d → fldE L.CG f (.ins L.CG flG [a0, a1, a2, a3, a4, a5]) = some d := fun f d h => (if_pos rfl).trans h
    exact mp (E.tup [a0, a1, a2, a3, a4, a5]) (bnd ([a0, a1, a2, a3, a4, a5] : List E) (bnd a0 (bnd _ rfl (go _ _ rfl)) (mp ([a1, a2, a3, a4, a5] : List E) (bnd a1 (bnd _ rfl (go _ _ rfl)) (mp ([a2, a3, a4, a5] : List E) (bnd a2 (bnd _ rfl (go _ _ rfl)) (mp ([a3, a4, a5] : List E) (bnd a3 (bnd _ rfl (go _ _ rfl)) (mp ([a4, a5] : List E) (bnd a4 (bnd _ rfl (go _ _ rfl)) (mp ([a5] : List E) (bnd a5 (bnd _ rfl (go _ _ rfl)) rfl))))))))))) rfl)
variable {CS : List Addr}
theorem scVE : FnScope ["self", "other"] ["self", "other"] (defScope sVEq) := ⟨rfl, rfl, rfl, by decide +kernel, rfl, by decide +kernel, by decide +kernel⟩
theorem ok_VEq {L : CL} {f fE CV : Addr} {fd dE : FuncData} {n k : Nat} {sbV : Addr → Bool} (F : Fun K "__eq__" "Valued.__eq__" sVEq f fd) (T : Txt mg) (hC : ∀ C ∈ CS, CF K C) (hCS : CS = L.all) (sV1 : ∀ C ∈ CS, sbV C = true)
    (gVa : mg "Valued" = some (.ref CV)) (oV : ∀ C ∈ CS, PySem.W.kitOne K (.ref C) (.ref CV) = some (sbV C)) (bV : ∀ t ∈ ["NoneType", "bool", "int", "str", "tuple", "dict", "list"], PySem.W.kitOne K (.type t) (.ref CV) = some false) (hk : 2 ≤ k)
    (GE : FnOk P w K mg base CX0 k fE dE ["one", "other"] (spP (eqGF L n))) (gE : mg "are_equal" = some (.ref fE)) (kE : PySem.W.keepIn K (.ref fE) = true) (bE : Binds K dE ["one", "other"] [])
    (kl : ∀ C ∈ CS, Kl P w K mg base L C) : FnOk P w K mg base CX0 (k + 1) f fd ["self", "other"] (spP (veqG L n)) := by
  refine F.ok scVE (fun vs H Q E0 h => spP_len veqG_len h) (fun cdv A outer s H vs Q E0 hr h => ?_)
  have hr2 : Room 2 _ := hr.mono hk
  have hr1 : Room 1 _ := hr2.mono (by decide)
  obtain ⟨Pr, ds0, c, r, fr, e, kk⟩ := h
  unfold veqG at e
  split at e
  case h_2 => cases e
  rename_i C ns l o
  split at e
  case isFalse => cases e
  rename_i hq
  cases e
  simp only [Bool.and_eq_true] at hq
  obtain ⟨⟨q1, q2⟩, q3⟩ := hq
  have q2 : wt (.tup l) < n := of_decide_eq_true q2
  obtain ⟨i1, i2, i3, i4⟩ := qg_ins q1
  subst i2
  have i1 : C ∈ CS := by rw [hCS]; exact i1
  obtain ⟨C2, hC2, hCi⟩ : ∃ C2, ∃ _ : C2 ∈ CS, ∀ C' ns l, o = .ins C' ns l → C2 = C' := by
    cases o with
    | ins C' ns' l' =>
      obtain ⟨j1, _⟩ := qg_ins (Bool.and_eq_true_iff.mp q3).1
      exact ⟨C', by rw [hCS]; exact j1, fun C'' ns l z => by cases z; rfl⟩
    | _ => exact ⟨C, i1, fun C' ns l z => nomatch z⟩
  have k1 := kl C i1
  have k2 := kl C2 hC2
  obtain ⟨fc1, dc1, mc1, bc1, Gc1⟩ := k1.cn
  obtain ⟨ff1, df1, mf1, bf1, Gf1⟩ := k1.fi
  obtain ⟨fc2, dc2, mc2, bc2, Gc2⟩ := k2.cn
  obtain ⟨ff2, df2, mf2, bf2, Gf2⟩ := k2.fi
  refine ⟨_, (pss_cons (ps_if (PW.pt (pw_or (pt_not (pt_val (pe_callB (call_isiK (K := K) rfl) (by rfl) T.isi (by decide +kernel) (pa_cons (pv 1) (pa_cons (pe_glob (v := .ref CV) rfl gVa rfl) pa_nil))))) (pw_or1 (pt_cmpR op_ne (pe_meth0 (pv 0) k1.cl mc1 Gc1 hr1 bc1 .nil pass0) (pe_meth0 (pv 1) k2.cl mc2 Gc2 hr1 bc2 .nil pass0) (nomark _))))) (pss_one (ps_ret pe_bl)) pss_nil)
      (pss_one (ps_ret (pe_call GE hr rfl gE kE bE .nil pass0 (pa_cons (pe_meth0 (pv 0) k1.cl mf1 Gf1 hr2 bf1 .nil pass0) (pa_cons (pe_meth0 (pv 1) k2.cl mf2 Gf2 hr2 bf2 .nil pass0) pa_nil)))))), ?_⟩
  apply pu_def1 (r := r) (fr := fr) (k := kk) (N := ["self", "other"])
  case pu => (repeat' first
    | with_reducible exact pu_var _ | with_reducible exact pu_non | with_reducible exact pu_bl _ | with_reducible exact pu_int _ | with_reducible exact pu_nil | with_reducible exact pu_next | with_reducible exact pu_yes
    | with_reducible apply pu_seq | with_reducible apply pu_ifS | with_reducible apply pu_ret | with_reducible apply pu_asg
    | with_reducible apply pu_and | with_reducible apply pu_or | with_reducible apply pu_not | with_reducible apply pu_test | with_reducible apply pu_b
    | with_reducible apply pu_andV | with_reducible apply pu_orV | with_reducible apply pu_notV | with_reducible apply pu_if
    | with_reducible apply pu_isi hC | with_reducible apply pu_cb (hr := pu_len) | with_reducible apply pu_cb (hr := pu_all) | with_reducible apply pu_cb (hr := pu_any) | with_reducible apply pu_cb (hr := pu_tupOf) | with_reducible apply pu_cb (hr := pu_lstOf)
    | with_reducible apply pu_isC hC oV bV
    | with_reducible apply pu_meth
    | with_reducible apply pu_op (hr := pu_ixT) | with_reducible apply pu_op (hr := pu_ixL) | with_reducible apply pu_op (hr := pu_eqS) | with_reducible apply pu_op (hr := pu_neS) | with_reducible apply pu_op (hr := pu_in) | with_reducible apply pu_op (hr := pu_isNo) | with_reducible apply pu_op (hr := pu_notNo)
    | with_reducible apply pu_op (hr := pu_cm) | with_reducible apply pu_op (hr := pu_ar) | with_reducible apply pu_op (hr := pu_eqP) | with_reducible apply pu_op (hr := pu_neP) | with_reducible apply pu_op (hr := pu_catT) | with_reducible apply pu_op (hr := pu_catL)
    | with_reducible apply pu_chain pu_cm pu_cm | with_reducible apply pu_lcV | with_reducible apply pu_dcV | with_reducible apply pu_iTup | with_reducible apply pu_iLst
    | with_reducible apply pu_slT | with_reducible apply pu_slL | with_reducible exact pu_noPart | with_reducible exact pu_part _
    | exact pu_str _ ⟨by decide +kernel, by decide +kernel⟩ | with_reducible apply pu_call | with_reducible apply pu_tup | with_reducible apply pu_lst | with_reducible apply pu_cons | (with_reducible_and_instances rfl) | rfl)
  case e =>
    obtain ⟨n1, n2⟩ := fl_no L C
    have cn1 : mthE C "class_name" (cnF L C) (.ins C (L.fl C) l) = some (.str (L.nm C)) := (if_pos ⟨rfl, n1⟩).trans (if_pos rfl)
    have fi1 : mthE C "fields" (fiF L C) (.ins C (L.fl C) l) = some (.tup l) := (if_pos ⟨rfl, n2⟩).trans (if_pos ⟨rfl, rfl, i3⟩)
    by_cases hi : insB o = true
    · cases o with
      | ins C' ns' l' =>
        cases (hCi C' ns' l' rfl)
        obtain ⟨j1, j2, j3, j4⟩ := qg_ins (Bool.and_eq_true_iff.mp q3).1
        subst j2
        have w2 : wt (.tup l') < n := of_decide_eq_true (Bool.and_eq_true_iff.mp q3).2
        obtain ⟨m1, m2⟩ := fl_no L C2
        have cn2 : mthE C2 "class_name" (cnF L C2) (.ins C2 (L.fl C2) l') = some (.str (L.nm C2)) := (if_pos ⟨rfl, m1⟩).trans (if_pos rfl)
        have fi2 : mthE C2 "fields" (fiF L C2) (.ins C2 (L.fl C2) l') = some (.tup l') := (if_pos ⟨rfl, m2⟩).trans (if_pos ⟨rfl, rfl, j3⟩)
        have e1 : isC CS sbV (.ins C2 (L.fl C2) l') = some (.bl true) := (if_pos hC2).trans (by rw [sV1 C2 hC2])
        by_cases hn : L.nm C = L.nm C2
        case neg =>
          refine bnd (.inl (.bl false)) (bT (bF (mp true (bnd (E.bl true) e1 rfl)) (bnd (E.bl true) (bnd _ cn1 (bnd _ cn2 ?_)) rfl)) rfl) ?_
          · show some (E.bl (!decide (L.nm C = L.nm C2))) = _
            rw [decide_eq_false hn]
            rfl
          · show some (Sum.inl (E.bl false)) = some (Sum.inl (E.bl (decide (L.nm C = L.nm C2) && _)))
            rw [decide_eq_false hn]
            rfl
        refine bnd (.inr _) (bF (bF (mp true (bnd (E.bl true) e1 rfl)) (bnd (E.bl false) (bnd _ cn1 (bnd _ cn2 ?_)) rfl)) rfl) ?_
        · show some (E.bl (!decide (L.nm C = L.nm C2))) = _
          rw [decide_eq_true hn]
          rfl
        have ev := eqGF_at (n := n) i4 j4 q2 w2
        have es : insEq L (eqG L n) (.ins C (L.fl C) l) (.ins C2 (L.fl C2) l') = eqG L n (.tup l) (.tup l') := by
          show (decide (L.nm C = L.nm C2) && _) = _
          rw [decide_eq_true hn, Bool.true_and]
        rw [es]
        exact mp (E.bl (eqG L n (.tup l) (.tup l'))) (bnd ([E.tup l, E.tup l'] : List E) (bnd (E.tup l) (bnd (E.ins C (L.fl C) l) rfl fi1) (mp ([E.tup l'] : List E) (bnd (E.tup l') (bnd (E.ins C2 (L.fl C2) l') rfl fi2) rfl))) ev)
      | _ => cases hi
    · have hi : insB o = false := Bool.eq_false_iff.mpr hi
      refine bnd (.inl (.bl false)) (bT (bT (mp false (bnd (E.bl false) (isC_no hi) rfl)) rfl) rfl) ?_
      show some (Sum.inl (E.bl false)) = some (Sum.inl (E.bl (insEq L (eqG L n) (.ins C (L.fl C) l) o)))
      cases o <;> first | rfl | cases hi
end
end K15

namespace K15
open PySem L2 XR VT ET
variable [KC]
abbrev sRw : Stmt := top 26
abbrev sUn : Stmt := top 27
abbrev sAp : Stmt := top 43
abbrev sGr : Stmt := top 44
abbrev sGm : Stmt := top 45
abbrev sIB : Stmt := inClass (top 21) 0
abbrev sIR : Stmt := inClass (top 22) 0
abbrev sIC : Stmt := inClass (top 23) 0
abbrev sIM : Stmt := inClass (top 24) 0
abbrev sIG : Stmt := inClass (top 25) 0
/-- a class's __init__ that stores what it is given -/
def spInit (C : Addr) (fl : List Str) : Sp := fun vs H Q _ => ∃ (x dx : Addr) (us : List V), vs = .ref x :: us ∧ us.length = fl.length ∧ H x = some (.ins C dx []) ∧ ∀ H', But x H H' → H' x = some (.ins C dx (fl.zip us)) → Q .non H'
theorem spInit_len {C : Addr} {fl : List Str} {vs : List V} {H : Hp} {Q : VK} {E0 : XK} (h : spInit C fl vs H Q E0) : vs.length = fl.length + 1 := by
  obtain ⟨x, dx, us, rfl, hl, _⟩ := h
  rw [List.length_cons, hl]
/-- over nothing -/
def spRows : Sp := fun vs H Q _ => ∃ (Pr : Addr → Prop) (v f : V), vs = [v, f] ∧ Rp (keepH Pr H) v (.tup []) ∧ Fr Pr H ∧ ∀ H', Same H H' → Q (.bl true) H'
def unlF0 : List E → Option E
  | [.lst []] => some (.bl true)
  | _ => none
def apF0 : List E → Option E
  | [.lst []] => some (.bl true)
  | _ => none
def grF0 : List E → Option E
  | [.tup []] => some (.bl false)
  | _ => none
def gmF0 : List E → Option E
  | [.tup [], .tup []] => some (.bl true)
  | _ => none
def rowsF : E → Option E
  | .tup [] => some (.bl true)
  | _ => none
/-- Config() -/
def spG (C : Addr) : Sp := fun vs H Q _ => ∃ (Pr : Addr → Prop) (x dx : Addr) (us : List V), vs = .ref x :: us ∧ H x = some (.ins C dx []) ∧ RpL (keepH Pr H) us [.tup [], .tup [], .tup [], .tup [], .tup [], .tup []] ∧ Fr Pr H ∧ ∀ H', But x H H' → H' x = some (.ins C dx (flG.zip us)) → Q .non H'
theorem pu_nevS : PuS tNevS (fun _ => none) := fun P σ H env D he hf => ⟨fun d e _ => (by cases e), fun env' e _ => (by cases e)⟩
theorem pu_rows {ta : TE} {fa : FE} {v : V} {E0 : XK} (ha : PuE ta fa) : PuE (tCall spRows [] E0 (tCons ta (tCons (tC v) tNil))) (fun env => (fa env).bind rowsF) := fun P σ H env c Q he hf e k => by
  obtain ⟨d, e1, e2⟩ := Option.bind_eq_some_iff.mp e
  refine ha P σ H env d _ he hf e1 fun u H1 m1 r1 => ?_
  unfold rowsF at e2
  split at e2
  · cases e2
    exact ⟨P, u, v, rfl, r1, hf.same m1, fun H' m => k _ H' (m1.trans m) (.bl true)⟩
  · cases e2
theorem step_ifN {tt : TT} {ft : FT} {rest t : TS} {D : Ends} {σ : L2.St} {H : Hp} {Pr : Addr → Prop} {env : List (Option E)} (pu : PuT tt ft) (he : En (keepH Pr H) σ env) (hf : Fr Pr H) (e : ft env = some false) (k : ∀ H1, Same H H1 → rest D σ H1) : tSeq (tIfS tt t tNext) rest D σ H :=
  step_if pu he hf e (fun z => by cases z) fun _ H1 m1 => k H1 m1
theorem pu_at {t : TS} {f : FS} {σ : L2.St} {env : List (Option E)} {H : Hp} {Q : VK} {P : Addr → Prop} {d : E} (pu : PuS t f) (he : En (keepH P H) σ env) (fr : Fr P H) (e : f env = some (.inl d)) (k : ∀ v H', Same H H' → Rp (keepH P H') v d → Q v H') : t { nx := fun _ H' => Q .non H', rt := Q } σ H :=
  (pu P _ H env { nx := fun _ H' => Q .non H', rt := Q } he fr).1 d e k
/-- a walk over the keys of nothing -/
def forK0 (i : Nat) (env : List (Option E)) : Option (E ⊕ List (Option E)) := match env[i]? with
  | some (some (.map [] [])) => some (.inr env)
  | _ => none
theorem pu_forK0 {i : Nat} {g : TG} {tb : TS} : PuS (tLock (tFor (iKeys (tVar i)) g tb)) (forK0 i) := fun P σ H env D he hf => by
  refine ⟨fun d e _ => ?_, fun env' e k => ?_⟩
  · unfold forK0 at e
    split at e <;> cases e
  · unfold forK0 at e
    split at e
    · rename_i h0
      cases e
      obtain ⟨v, s0, r⟩ := he.2 i _ h0
      cases r with
      | @map a vs _ _ h hv hk hz nd hs =>
      have hv0 : vs = [] := List.eq_nil_of_length_eq_zero hv
      subst hv0
      have ha : H a = some (.dK []) := (keep_some h).2
      refine ⟨a, _, ha, trivial, fun od => ⟨_, s0, a, od, rfl, .inl ⟨_, upd_same, ?_⟩⟩⟩
      refine for_it walk_keys (fun _ σ' H' => σ' = σ ∧ H' = upd H a (.frz od (.dK []))) ⟨rfl, rfl⟩ (fun k' σ' H' _ q => by rw [q.2]; exact upd_same) (fun i x σ' H2 H3 hi => absurd hi (Nat.not_lt_zero _)) fun σ' H' q => ?_
      obtain ⟨rfl, rfl⟩ := q
      refine ⟨upd_same, ?_⟩
      have e : upd (upd H a (.frz od (.dK []))) a (.dK []) = H := by
        funext b
        by_cases hb : b = a
        · rw [hb, upd_same, ha]
        · rw [upd_ne hb, upd_ne hb]
      rw [e]
      exact k _ H (fun _ _ z => z) he
    · cases e
section
variable {P : Program} {w : World} {K : PySem.W.Frag} {mg : Str → Option Value} {base : Heap} [KcOk K]
variable {CS : List Addr}
theorem scIB : FnScope ["self", "kind", "name", "attributes", "many", "after", "first", "never", "ignored", "replaced_by", "ahead"] ["self", "kind", "name", "attributes", "many", "after", "first", "never", "ignored", "replaced_by", "ahead"] (defScope sIB) := ⟨rfl, rfl, rfl, by decide +kernel, rfl, by decide +kernel, by decide +kernel⟩
theorem ok_IB {C : Addr} {f : Addr} {fd : FuncData} (F : FunD K "__init__" "Block.__init__" (defArgs sIB) (defBody sIB) (defScope sIB) [] [] f fd) (cl : Cls K C) (nA : ∀ x ∈ flB, NoAttr K C x) : FnOk P w K mg base CX0 1 f fd ["self", "kind", "name", "attributes", "many", "after", "first", "never", "ignored", "replaced_by", "ahead"] (spInit C flB) := by
  refine F.ok scIB (fun vs H Q E0 h => spInit_len h) (fun cdv A outer s H vs Q E0 hr h => ?_)
  obtain ⟨x, dx, us, rfl, hl, hx, k⟩ := h
  match us, hl with
  | [u0, u1, u2, u3, u4, u5, u6, u7, u8, u9], _ =>
  refine ⟨_, (pss_cons (ps_fld (pv 0) (pv 1) rfl)
      (pss_cons (ps_fld (pv 0) (pv 2) rfl)
      (pss_cons (ps_fld (pv 0) (pv 3) rfl)
      (pss_cons (ps_fld (pv 0) (pv 4) rfl)
      (pss_cons (ps_fld (pv 0) (pv 5) rfl)
      (pss_cons (ps_fld (pv 0) (pv 6) rfl)
      (pss_cons (ps_fld (pv 0) (pv 7) rfl)
      (pss_cons (ps_fld (pv 0) (pv 8) rfl)
      (pss_cons (ps_fld (pv 0) (pv 9) rfl)
      (pss_one (ps_fld (pv 0) (pv 10) rfl))))))))))), ?_⟩
  refine ⟨u0, rfl, .ref x, rfl, x, C, dx, _, rfl, hx, cl, nA _ (by decide +kernel), (by show 0 < 1000; decide), ?_⟩
  refine ⟨u1, rfl, .ref x, rfl, x, C, dx, _, rfl, upd_same, cl, nA _ (by decide +kernel), (by show 1 < 1000; decide), ?_⟩
  refine ⟨u2, rfl, .ref x, rfl, x, C, dx, _, rfl, upd_same, cl, nA _ (by decide +kernel), (by show 2 < 1000; decide), ?_⟩
  refine ⟨u3, rfl, .ref x, rfl, x, C, dx, _, rfl, upd_same, cl, nA _ (by decide +kernel), (by show 3 < 1000; decide), ?_⟩
  refine ⟨u4, rfl, .ref x, rfl, x, C, dx, _, rfl, upd_same, cl, nA _ (by decide +kernel), (by show 4 < 1000; decide), ?_⟩
  refine ⟨u5, rfl, .ref x, rfl, x, C, dx, _, rfl, upd_same, cl, nA _ (by decide +kernel), (by show 5 < 1000; decide), ?_⟩
  refine ⟨u6, rfl, .ref x, rfl, x, C, dx, _, rfl, upd_same, cl, nA _ (by decide +kernel), (by show 6 < 1000; decide), ?_⟩
  refine ⟨u7, rfl, .ref x, rfl, x, C, dx, _, rfl, upd_same, cl, nA _ (by decide +kernel), (by show 7 < 1000; decide), ?_⟩
  refine ⟨u8, rfl, .ref x, rfl, x, C, dx, _, rfl, upd_same, cl, nA _ (by decide +kernel), (by show 8 < 1000; decide), ?_⟩
  refine ⟨u9, rfl, .ref x, rfl, x, C, dx, _, rfl, upd_same, cl, nA _ (by decide +kernel), (by show 9 < 1000; decide), ?_⟩
  refine k _ (fun b o hb' nb => ?_) ?_
  · rw [upd_ne nb, upd_ne nb, upd_ne nb, upd_ne nb, upd_ne nb, upd_ne nb, upd_ne nb, upd_ne nb, upd_ne nb, upd_ne nb]
    exact hb'
  · rw [upd_same]
    rfl
theorem scIR : FnScope ["self", "kind", "name", "question", "after"] ["self", "kind", "name", "question", "after"] (defScope sIR) := ⟨rfl, rfl, rfl, by decide +kernel, rfl, by decide +kernel, by decide +kernel⟩
theorem ok_IR {C : Addr} {f : Addr} {fd : FuncData} (F : FunD K "__init__" "Reading.__init__" (defArgs sIR) (defBody sIR) (defScope sIR) [] [] f fd) (cl : Cls K C) (nA : ∀ x ∈ flR, NoAttr K C x) : FnOk P w K mg base CX0 1 f fd ["self", "kind", "name", "question", "after"] (spInit C flR) := by
  refine F.ok scIR (fun vs H Q E0 h => spInit_len h) (fun cdv A outer s H vs Q E0 hr h => ?_)
  obtain ⟨x, dx, us, rfl, hl, hx, k⟩ := h
  match us, hl with
  | [u0, u1, u2, u3], _ =>
  refine ⟨_, (pss_cons (ps_fld (pv 0) (pv 1) rfl)
      (pss_cons (ps_fld (pv 0) (pv 2) rfl)
      (pss_cons (ps_fld (pv 0) (pv 3) rfl)
      (pss_one (ps_fld (pv 0) (pv 4) rfl))))), ?_⟩
  refine ⟨u0, rfl, .ref x, rfl, x, C, dx, _, rfl, hx, cl, nA _ (by decide +kernel), (by show 0 < 1000; decide), ?_⟩
  refine ⟨u1, rfl, .ref x, rfl, x, C, dx, _, rfl, upd_same, cl, nA _ (by decide +kernel), (by show 1 < 1000; decide), ?_⟩
  refine ⟨u2, rfl, .ref x, rfl, x, C, dx, _, rfl, upd_same, cl, nA _ (by decide +kernel), (by show 2 < 1000; decide), ?_⟩
  refine ⟨u3, rfl, .ref x, rfl, x, C, dx, _, rfl, upd_same, cl, nA _ (by decide +kernel), (by show 3 < 1000; decide), ?_⟩
  refine k _ (fun b o hb' nb => ?_) ?_
  · rw [upd_ne nb, upd_ne nb, upd_ne nb, upd_ne nb]
    exact hb'
  · rw [upd_same]
    rfl
theorem scIC : FnScope ["self", "name", "config", "arguments", "after"] ["self", "name", "config", "arguments", "after"] (defScope sIC) := ⟨rfl, rfl, rfl, by decide +kernel, rfl, by decide +kernel, by decide +kernel⟩
theorem ok_IC {C : Addr} {f : Addr} {fd : FuncData} (F : FunD K "__init__" "Call.__init__" (defArgs sIC) (defBody sIC) (defScope sIC) [] [] f fd) (cl : Cls K C) (nA : ∀ x ∈ flC, NoAttr K C x) : FnOk P w K mg base CX0 1 f fd ["self", "name", "config", "arguments", "after"] (spInit C flC) := by
  refine F.ok scIC (fun vs H Q E0 h => spInit_len h) (fun cdv A outer s H vs Q E0 hr h => ?_)
  obtain ⟨x, dx, us, rfl, hl, hx, k⟩ := h
  match us, hl with
  | [u0, u1, u2, u3], _ =>
  refine ⟨_, (pss_cons (ps_fld (pv 0) (pv 1) rfl)
      (pss_cons (ps_fld (pv 0) (pv 2) rfl)
      (pss_cons (ps_fld (pv 0) (pv 3) rfl)
      (pss_one (ps_fld (pv 0) (pv 4) rfl))))), ?_⟩
  refine ⟨u0, rfl, .ref x, rfl, x, C, dx, _, rfl, hx, cl, nA _ (by decide +kernel), (by show 0 < 1000; decide), ?_⟩
  refine ⟨u1, rfl, .ref x, rfl, x, C, dx, _, rfl, upd_same, cl, nA _ (by decide +kernel), (by show 1 < 1000; decide), ?_⟩
  refine ⟨u2, rfl, .ref x, rfl, x, C, dx, _, rfl, upd_same, cl, nA _ (by decide +kernel), (by show 2 < 1000; decide), ?_⟩
  refine ⟨u3, rfl, .ref x, rfl, x, C, dx, _, rfl, upd_same, cl, nA _ (by decide +kernel), (by show 3 < 1000; decide), ?_⟩
  refine k _ (fun b o hb' nb => ?_) ?_
  · rw [upd_ne nb, upd_ne nb, upd_ne nb, upd_ne nb]
    exact hb'
  · rw [upd_same]
    rfl
theorem scIM : FnScope ["self", "old", "new"] ["self", "old", "new"] (defScope sIM) := ⟨rfl, rfl, rfl, by decide +kernel, rfl, by decide +kernel, by decide +kernel⟩
theorem ok_IM {C : Addr} {f : Addr} {fd : FuncData} (F : FunD K "__init__" "Move.__init__" (defArgs sIM) (defBody sIM) (defScope sIM) [] [] f fd) (cl : Cls K C) (nA : ∀ x ∈ flM, NoAttr K C x) : FnOk P w K mg base CX0 1 f fd ["self", "old", "new"] (spInit C flM) := by
  refine F.ok scIM (fun vs H Q E0 h => spInit_len h) (fun cdv A outer s H vs Q E0 hr h => ?_)
  obtain ⟨x, dx, us, rfl, hl, hx, k⟩ := h
  match us, hl with
  | [u0, u1], _ =>
  refine ⟨_, (pss_cons (ps_fld (pv 0) (pv 1) rfl)
      (pss_one (ps_fld (pv 0) (pv 2) rfl))), ?_⟩
  refine ⟨u0, rfl, .ref x, rfl, x, C, dx, _, rfl, hx, cl, nA _ (by decide +kernel), (by show 0 < 1000; decide), ?_⟩
  refine ⟨u1, rfl, .ref x, rfl, x, C, dx, _, rfl, upd_same, cl, nA _ (by decide +kernel), (by show 1 < 1000; decide), ?_⟩
  refine k _ (fun b o hb' nb => ?_) ?_
  · rw [upd_ne nb, upd_ne nb]
    exact hb'
  · rw [upd_same]
    rfl
theorem scRw : FnScope ["things", "is_good", "thing"] ["things", "is_good"] (defScope sRw) := ⟨rfl, rfl, rfl, by decide +kernel, rfl, by decide +kernel, by decide +kernel⟩
theorem ok_rw {f : Addr} {fd : FuncData} (F : Fun K "are_rows" "are_rows" sRw f fd) (T : Txt mg) (hC : ∀ C ∈ CS, CF K C) : FnOk P w K mg base CX0 1 f fd ["things", "is_good"] spRows := by
  refine F.ok scRw (fun vs H Q E0 h => by obtain ⟨Pr, v, f, rfl, _⟩ := h; rfl) (fun cdv A outer s H vs Q E0 hr h => ?_)
  obtain ⟨Pr, v, f', rfl, r, fr, k⟩ := h
  refine ⟨_, (pss_one (ps_ret (pe_and (pe_callB (call_isiK (K := K) rfl) (by rfl) T.isi (by decide +kernel) (pa_cons (pv 0) (pa_cons (pe_bltn (v := .ty "tuple") (by rfl) T.tuple (by decide +kernel) rfl) pa_nil))) (pe_one (pe_callB (cr_allK (K := K) rfl rfl) (by rfl) T.all (by decide +kernel) (pa_cons (pe_lc (own := [("thing", 2)]) (g := gName 2) (tt := tYes) rfl scRw.nd (pi_tupK (K := K) rfl (pv 0)) (blkOk_by (own := [("thing", 2)]) (N := ["things", "is_good", "thing"]) (sc := (defScope sRw)) (by decide +kernel)) (fun _ _ _ _ _ => pg_name (i := 2) scRw.nd rfl (Or.inl rfl)) (fun _ _ _ _ _ => pts_nil) (fun _ _ _ _ _ => (pe_never))) pa_nil)))))), ?_⟩
  apply pu_at (P := Pr) (env := [some (.tup []), none, none]) (d := .bl true)
  case pu => (repeat' first
    | with_reducible exact pu_var _ | with_reducible exact pu_non | with_reducible exact pu_bl _ | with_reducible exact pu_int _ | with_reducible exact pu_nil | with_reducible exact pu_next | with_reducible exact pu_yes
    | with_reducible apply pu_seq | with_reducible apply pu_ifS | with_reducible apply pu_ret | with_reducible apply pu_asg
    | with_reducible apply pu_and | with_reducible apply pu_or | with_reducible apply pu_not | with_reducible apply pu_test | with_reducible apply pu_b
    | with_reducible apply pu_andV | with_reducible apply pu_orV | with_reducible apply pu_notV | with_reducible apply pu_if
    | with_reducible apply pu_isi hC | with_reducible apply pu_cb (hr := pu_len) | with_reducible apply pu_cb (hr := pu_all) | with_reducible apply pu_cb (hr := pu_any) | with_reducible apply pu_cb (hr := pu_tupOf) | with_reducible apply pu_cb (hr := pu_lstOf)
    | with_reducible exact pu_nevS
    | with_reducible apply pu_rows
    | with_reducible exact pu_nevE
    | with_reducible exact pu_nevT
    | with_reducible apply pu_op (hr := pu_catA)
    | with_reducible apply pu_op (hr := pu_ixT) | with_reducible apply pu_op (hr := pu_ixL) | with_reducible apply pu_op (hr := pu_eqS) | with_reducible apply pu_op (hr := pu_neS) | with_reducible apply pu_op (hr := pu_in) | with_reducible apply pu_op (hr := pu_isNo) | with_reducible apply pu_op (hr := pu_notNo)
    | with_reducible apply pu_op (hr := pu_cm) | with_reducible apply pu_op (hr := pu_ar) | with_reducible apply pu_op (hr := pu_eqP) | with_reducible apply pu_op (hr := pu_neP) | with_reducible apply pu_op (hr := pu_catT) | with_reducible apply pu_op (hr := pu_catL)
    | with_reducible apply pu_chain pu_cm pu_cm | with_reducible apply pu_lc0 | with_reducible apply pu_dc0 | with_reducible apply pu_iTup | with_reducible apply pu_iLst
    | with_reducible apply pu_slT | with_reducible apply pu_slL | with_reducible exact pu_noPart | with_reducible exact pu_part _
    | exact pu_str _ ⟨by decide +kernel, by decide +kernel⟩ | with_reducible apply pu_call | with_reducible apply pu_tup | with_reducible apply pu_lst | with_reducible apply pu_cons | (with_reducible_and_instances rfl) | rfl)
  case he => exact ⟨rfl, fun i d e => by
    match i, e with
    | 0, e => cases e; exact ⟨v, rfl, r⟩
    | 1, e => cases e
    | 2, e => cases e
    | n + 3, e => cases e⟩
  case fr => exact fr
  case e => rfl
  case k => intro v H' m r; cases r; exact k H' m
theorem scUn : FnScope ["things", "thing"] ["things"] (defScope sUn) := ⟨rfl, rfl, rfl, by decide +kernel, rfl, by decide +kernel, by decide +kernel⟩
theorem ok_un {f : Addr} {fd : FuncData} (F : Fun K "are_unlike" "are_unlike" sUn f fd) (T : Txt mg) (hC : ∀ C ∈ CS, CF K C) : FnOk P w K mg base CX0 1 f fd ["things"] (spP unlF0) := by
  refine F.ok scUn (fun vs H Q E0 h => spP_len (fun ds d h => by unfold unlF0 at h; split at h; rfl; cases h) h) (fun cdv A outer s H vs Q E0 hr h => ?_)
  refine ⟨_, (pss_one (ps_ret (pe_cmpR op_eq (pe_callB (call_lenK (K := K) rfl) (by rfl) T.len (by decide +kernel) (pa_cons (pe_dc (own := [("thing", 1)]) (g := gName 1) (tt := tYes) rfl scUn.nd (pi_lstK (K := K) rfl (pv 0)) (blkOk_by (own := [("thing", 1)]) (N := ["things", "thing"]) (sc := (defScope sUn)) (by decide +kernel)) (fun _ _ _ _ _ => pg_name (i := 1) scUn.nd rfl (Or.inl rfl)) (fun _ _ _ _ _ => pts_nil) (fun _ _ _ _ _ => (pv 1)) (fun _ _ _ _ _ => pe_bl)) pa_nil)) (pe_callB (call_lenK (K := K) rfl) (by rfl) T.len (by decide +kernel) (pa_cons (pv 0) pa_nil)) (nomark _)))), ?_⟩
  apply pu_def (h := h)
  case pu => (repeat' first
    | with_reducible exact pu_var _ | with_reducible exact pu_non | with_reducible exact pu_bl _ | with_reducible exact pu_int _ | with_reducible exact pu_nil | with_reducible exact pu_next | with_reducible exact pu_yes
    | with_reducible apply pu_seq | with_reducible apply pu_ifS | with_reducible apply pu_ret | with_reducible apply pu_asg
    | with_reducible apply pu_and | with_reducible apply pu_or | with_reducible apply pu_not | with_reducible apply pu_test | with_reducible apply pu_b
    | with_reducible apply pu_andV | with_reducible apply pu_orV | with_reducible apply pu_notV | with_reducible apply pu_if
    | with_reducible apply pu_isi hC | with_reducible apply pu_cb (hr := pu_len) | with_reducible apply pu_cb (hr := pu_all) | with_reducible apply pu_cb (hr := pu_any) | with_reducible apply pu_cb (hr := pu_tupOf) | with_reducible apply pu_cb (hr := pu_lstOf)
    | with_reducible exact pu_nevS
    | with_reducible apply pu_rows
    | with_reducible exact pu_nevE
    | with_reducible exact pu_nevT
    | with_reducible apply pu_op (hr := pu_catA)
    | with_reducible apply pu_op (hr := pu_ixT) | with_reducible apply pu_op (hr := pu_ixL) | with_reducible apply pu_op (hr := pu_eqS) | with_reducible apply pu_op (hr := pu_neS) | with_reducible apply pu_op (hr := pu_in) | with_reducible apply pu_op (hr := pu_isNo) | with_reducible apply pu_op (hr := pu_notNo)
    | with_reducible apply pu_op (hr := pu_cm) | with_reducible apply pu_op (hr := pu_ar) | with_reducible apply pu_op (hr := pu_eqP) | with_reducible apply pu_op (hr := pu_neP) | with_reducible apply pu_op (hr := pu_catT) | with_reducible apply pu_op (hr := pu_catL)
    | with_reducible apply pu_chain pu_cm pu_cm | with_reducible apply pu_lc0 | with_reducible apply pu_dc0 | with_reducible apply pu_iTup | with_reducible apply pu_iLst
    | with_reducible apply pu_slT | with_reducible apply pu_slL | with_reducible exact pu_noPart | with_reducible exact pu_part _
    | exact pu_str _ ⟨by decide +kernel, by decide +kernel⟩ | with_reducible apply pu_call | with_reducible apply pu_tup | with_reducible apply pu_lst | with_reducible apply pu_cons | (with_reducible_and_instances rfl) | rfl)
  case hF =>
    intro ds d e
    unfold unlF0 at e
    split at e
    · cases e; rfl
    · cases e
theorem scAp : FnScope ["places", "wholes", "place"] ["places"] (defScope sAp) := ⟨rfl, rfl, rfl, by decide +kernel, rfl, by decide +kernel, by decide +kernel⟩
theorem ok_ap {f : Addr} {fd : FuncData} (mAny : mg "any" = none) (F : Fun K "are_apart" "are_apart" sAp f fd) (T : Txt mg) (hC : ∀ C ∈ CS, CF K C) : FnOk P w K mg base CX0 1 f fd ["places"] (spP apF0) := by
  refine F.ok scAp (fun vs H Q E0 h => spP_len (fun ds d h => by unfold apF0 at h; split at h; rfl; cases h) h) (fun cdv A outer s H vs Q E0 hr h => ?_)
  refine ⟨_, (pss_cons (ps_set (i := 1) scAp.nd rfl (Or.inr rfl) (pe_dc (own := [("place", 2)]) (g := gName 2) rfl scAp.nd (pi_lstK (K := K) rfl (pv 0)) (blkOk_by (own := [("place", 2)]) (N := ["places", "wholes", "place"]) (sc := (defScope sAp)) (by decide +kernel)) (fun _ _ _ _ _ => pg_name (i := 2) scAp.nd rfl (Or.inl rfl)) (fun _ _ _ _ _ => pts_one pt_never) (fun _ _ _ _ _ => (pv 2)) (fun _ _ _ _ _ => pe_bl)))
      (pss_one (ps_ret (pe_not (pe_callB (cr_anyK (K := K) rfl rfl) (by rfl) mAny (by decide +kernel) (pa_cons (pe_lc (own := [("place", 2)]) (g := gName 2) (tt := tYes) rfl scAp.nd (pi_lstK (K := K) rfl (pv 0)) (blkOk_by (own := [("place", 2)]) (N := ["places", "wholes", "place"]) (sc := (defScope sAp)) (by decide +kernel)) (fun _ _ _ _ _ => pg_name (i := 2) scAp.nd rfl (Or.inl rfl)) (fun _ _ _ _ _ => pts_nil) (fun _ _ _ _ _ => (pe_never))) pa_nil)))))), ?_⟩
  apply pu_def (h := h)
  case pu => (repeat' first
    | with_reducible exact pu_var _ | with_reducible exact pu_non | with_reducible exact pu_bl _ | with_reducible exact pu_int _ | with_reducible exact pu_nil | with_reducible exact pu_next | with_reducible exact pu_yes
    | with_reducible apply pu_seq | with_reducible apply pu_ifS | with_reducible apply pu_ret | with_reducible apply pu_asg
    | with_reducible apply pu_and | with_reducible apply pu_or | with_reducible apply pu_not | with_reducible apply pu_test | with_reducible apply pu_b
    | with_reducible apply pu_andV | with_reducible apply pu_orV | with_reducible apply pu_notV | with_reducible apply pu_if
    | with_reducible apply pu_isi hC | with_reducible apply pu_cb (hr := pu_len) | with_reducible apply pu_cb (hr := pu_all) | with_reducible apply pu_cb (hr := pu_any) | with_reducible apply pu_cb (hr := pu_tupOf) | with_reducible apply pu_cb (hr := pu_lstOf)
    | with_reducible exact pu_nevS
    | with_reducible apply pu_rows
    | with_reducible exact pu_nevE
    | with_reducible exact pu_nevT
    | with_reducible apply pu_op (hr := pu_catA)
    | with_reducible apply pu_op (hr := pu_ixT) | with_reducible apply pu_op (hr := pu_ixL) | with_reducible apply pu_op (hr := pu_eqS) | with_reducible apply pu_op (hr := pu_neS) | with_reducible apply pu_op (hr := pu_in) | with_reducible apply pu_op (hr := pu_isNo) | with_reducible apply pu_op (hr := pu_notNo)
    | with_reducible apply pu_op (hr := pu_cm) | with_reducible apply pu_op (hr := pu_ar) | with_reducible apply pu_op (hr := pu_eqP) | with_reducible apply pu_op (hr := pu_neP) | with_reducible apply pu_op (hr := pu_catT) | with_reducible apply pu_op (hr := pu_catL)
    | with_reducible apply pu_chain pu_cm pu_cm | with_reducible apply pu_lc0 | with_reducible apply pu_dc0 | with_reducible apply pu_iTup | with_reducible apply pu_iLst
    | with_reducible apply pu_slT | with_reducible apply pu_slL | with_reducible exact pu_noPart | with_reducible exact pu_part _
    | exact pu_str _ ⟨by decide +kernel, by decide +kernel⟩ | with_reducible apply pu_call | with_reducible apply pu_tup | with_reducible apply pu_lst | with_reducible apply pu_cons | (with_reducible_and_instances rfl) | rfl)
  case hF =>
    intro ds d e
    unfold apF0 at e
    split at e
    · cases e; rfl
    · cases e
theorem scGr : FnScope ["moves", "onward", "move", "start", "place", "gone"] ["moves"] (defScope sGr) := ⟨rfl, rfl, rfl, by decide +kernel, rfl, by decide +kernel, by decide +kernel⟩
theorem ok_gr {f : Addr} {fd : FuncData} (F : Fun K "goes_round" "goes_round" sGr f fd) (T : Txt mg) (hC : ∀ C ∈ CS, CF K C) : FnOk P w K mg base CX0 1 f fd ["moves"] (spP grF0) := by
  refine F.ok scGr (fun vs H Q E0 h => spP_len (fun ds d h => by unfold grF0 at h; split at h; rfl; cases h) h) (fun cdv A outer s H vs Q E0 hr h => ?_)
  refine ⟨_, (pss_cons (ps_setDc (i := 1) (own := [("move", 2)]) (g := gName 2) (tt := tYes) rfl scGr.nd rfl rfl (sw_trueD rfl rfl rfl (by decide +kernel)) (pi_tupK (K := K) rfl (pv 0)) (blkOk_by (own := [("move", 2)]) (N := ["moves", "onward", "move", "start", "place", "gone"]) (sc := (defScope sGr)) (by decide +kernel)) (fun _ _ _ _ _ => pg_name (i := 2) scGr.nd rfl (Or.inl rfl)) (fun _ _ _ _ _ => pts_nil) (fun _ _ _ _ _ => (pe_never)) (fun _ _ _ _ _ => (pe_never)))
      (pss_cons (ps_lock (ps_for PassesOwn.never rfl (pi_keys (pv 1)) (pg_name (i := 3) scGr.nd rfl (Or.inl rfl)) ET.pss_never))
      (pss_one (ps_ret pe_bl)))), ?_⟩
  apply pu_def (h := h)
  case pu =>
    apply pu_seq
    · (repeat' first
    | with_reducible exact pu_var _ | with_reducible exact pu_non | with_reducible exact pu_bl _ | with_reducible exact pu_int _ | with_reducible exact pu_nil | with_reducible exact pu_next | with_reducible exact pu_yes
    | with_reducible apply pu_seq | with_reducible apply pu_ifS | with_reducible apply pu_ret | with_reducible apply pu_asg
    | with_reducible apply pu_and | with_reducible apply pu_or | with_reducible apply pu_not | with_reducible apply pu_test | with_reducible apply pu_b
    | with_reducible apply pu_andV | with_reducible apply pu_orV | with_reducible apply pu_notV | with_reducible apply pu_if
    | with_reducible apply pu_isi hC | with_reducible apply pu_cb (hr := pu_len) | with_reducible apply pu_cb (hr := pu_all) | with_reducible apply pu_cb (hr := pu_any) | with_reducible apply pu_cb (hr := pu_tupOf) | with_reducible apply pu_cb (hr := pu_lstOf)
    | with_reducible exact pu_nevS
    | with_reducible apply pu_rows
    | with_reducible exact pu_nevE
    | with_reducible exact pu_nevT
    | with_reducible apply pu_op (hr := pu_catA)
    | with_reducible apply pu_op (hr := pu_ixT) | with_reducible apply pu_op (hr := pu_ixL) | with_reducible apply pu_op (hr := pu_eqS) | with_reducible apply pu_op (hr := pu_neS) | with_reducible apply pu_op (hr := pu_in) | with_reducible apply pu_op (hr := pu_isNo) | with_reducible apply pu_op (hr := pu_notNo)
    | with_reducible apply pu_op (hr := pu_cm) | with_reducible apply pu_op (hr := pu_ar) | with_reducible apply pu_op (hr := pu_eqP) | with_reducible apply pu_op (hr := pu_neP) | with_reducible apply pu_op (hr := pu_catT) | with_reducible apply pu_op (hr := pu_catL)
    | with_reducible apply pu_chain pu_cm pu_cm | with_reducible apply pu_lc0 | with_reducible apply pu_dc0 | with_reducible apply pu_iTup | with_reducible apply pu_iLst
    | with_reducible apply pu_slT | with_reducible apply pu_slL | with_reducible exact pu_noPart | with_reducible exact pu_part _
    | exact pu_str _ ⟨by decide +kernel, by decide +kernel⟩ | with_reducible apply pu_call | with_reducible apply pu_tup | with_reducible apply pu_lst | with_reducible apply pu_cons | (with_reducible_and_instances rfl) | rfl)
    apply pu_seq
    · exact pu_forK0
    (repeat' first
    | with_reducible exact pu_var _ | with_reducible exact pu_non | with_reducible exact pu_bl _ | with_reducible exact pu_int _ | with_reducible exact pu_nil | with_reducible exact pu_next | with_reducible exact pu_yes
    | with_reducible apply pu_seq | with_reducible apply pu_ifS | with_reducible apply pu_ret | with_reducible apply pu_asg
    | with_reducible apply pu_and | with_reducible apply pu_or | with_reducible apply pu_not | with_reducible apply pu_test | with_reducible apply pu_b
    | with_reducible apply pu_andV | with_reducible apply pu_orV | with_reducible apply pu_notV | with_reducible apply pu_if
    | with_reducible apply pu_isi hC | with_reducible apply pu_cb (hr := pu_len) | with_reducible apply pu_cb (hr := pu_all) | with_reducible apply pu_cb (hr := pu_any) | with_reducible apply pu_cb (hr := pu_tupOf) | with_reducible apply pu_cb (hr := pu_lstOf)
    | with_reducible exact pu_nevS
    | with_reducible apply pu_rows
    | with_reducible exact pu_nevE
    | with_reducible exact pu_nevT
    | with_reducible apply pu_op (hr := pu_catA)
    | with_reducible apply pu_op (hr := pu_ixT) | with_reducible apply pu_op (hr := pu_ixL) | with_reducible apply pu_op (hr := pu_eqS) | with_reducible apply pu_op (hr := pu_neS) | with_reducible apply pu_op (hr := pu_in) | with_reducible apply pu_op (hr := pu_isNo) | with_reducible apply pu_op (hr := pu_notNo)
    | with_reducible apply pu_op (hr := pu_cm) | with_reducible apply pu_op (hr := pu_ar) | with_reducible apply pu_op (hr := pu_eqP) | with_reducible apply pu_op (hr := pu_neP) | with_reducible apply pu_op (hr := pu_catT) | with_reducible apply pu_op (hr := pu_catL)
    | with_reducible apply pu_chain pu_cm pu_cm | with_reducible apply pu_lc0 | with_reducible apply pu_dc0 | with_reducible apply pu_iTup | with_reducible apply pu_iLst
    | with_reducible apply pu_slT | with_reducible apply pu_slL | with_reducible exact pu_noPart | with_reducible exact pu_part _
    | exact pu_str _ ⟨by decide +kernel, by decide +kernel⟩ | with_reducible apply pu_call | with_reducible apply pu_tup | with_reducible apply pu_lst | with_reducible apply pu_cons | (with_reducible_and_instances rfl) | rfl)
  case hF =>
    intro ds d e
    unfold grF0 at e
    split at e
    · cases e; rfl
    · cases e
theorem scGm : FnScope ["moves", "blocks", "olds", "news", "move", "old"] ["moves", "blocks"] (defScope sGm) := ⟨rfl, rfl, rfl, by decide +kernel, rfl, by decide +kernel, by decide +kernel⟩
theorem ok_gm {f fU fA fR : Addr} {fd dU dA dR : FuncData} (mAny : mg "any" = none) (F : Fun K "are_good_moves" "are_good_moves" sGm f fd) (T : Txt mg) (hC : ∀ C ∈ CS, CF K C)
    (GU : FnOk P w K mg base CX0 1 fU dU ["things"] (spP unlF0)) (gU : mg "are_unlike" = some (.ref fU)) (kU : PySem.W.keepIn K (.ref fU) = true) (bU : Binds K dU ["things"] [])
    (GA : FnOk P w K mg base CX0 1 fA dA ["places"] (spP apF0)) (gA : mg "are_apart" = some (.ref fA)) (kA : PySem.W.keepIn K (.ref fA) = true) (bA : Binds K dA ["places"] [])
    (GR : FnOk P w K mg base CX0 1 fR dR ["moves"] (spP grF0)) (gR : mg "goes_round" = some (.ref fR)) (kR : PySem.W.keepIn K (.ref fR) = true) (bR : Binds K dR ["moves"] []) : FnOk P w K mg base CX0 2 f fd ["moves", "blocks"] (spP gmF0) := by
  refine F.ok scGm (fun vs H Q E0 h => spP_len (fun ds d h => by unfold gmF0 at h; split at h; rfl; cases h) h) (fun cdv A outer s H vs Q E0 hr h => ?_)
  have hr1 : Room 1 _ := hr
  refine ⟨_, (pss_cons (ps_par (i := 2) (j := 3) (by rfl) scGm.nd rfl rfl (by decide) rfl rfl (pa_cons (pe_lc (own := [("move", 4)]) (g := gName 4) (tt := tYes) rfl scGm.nd (pi_tupK (K := K) rfl (pv 0)) (blkOk_by (own := [("move", 4)]) (N := ["moves", "blocks", "olds", "news", "move", "old"]) (sc := (defScope sGm)) (by decide +kernel)) (fun _ _ _ _ _ => pg_name (i := 4) scGm.nd rfl (Or.inl rfl)) (fun _ _ _ _ _ => pts_nil) (fun _ _ _ _ _ => (pe_never))) (pa_cons (pe_lc (own := [("move", 4)]) (g := gName 4) (tt := tYes) rfl scGm.nd (pi_tupK (K := K) rfl (pv 0)) (blkOk_by (own := [("move", 4)]) (N := ["moves", "blocks", "olds", "news", "move", "old"]) (sc := (defScope sGm)) (by decide +kernel)) (fun _ _ _ _ _ => pg_name (i := 4) scGm.nd rfl (Or.inl rfl)) (fun _ _ _ _ _ => pts_nil) (fun _ _ _ _ _ => (pe_never))) pa_nil)) (by rfl))
      (pss_cons (ps_if (PW.pt (pw_or (pt_not (pt_val (pe_call GU hr1 rfl gU kU bU .nil pass0 (pa_cons (pv 2) pa_nil)))) (pw_or (pt_not (pt_val (pe_call GU hr1 rfl gU kU bU .nil pass0 (pa_cons (pv 3) pa_nil)))) (pw_or (pt_not (pt_val (pe_call GA hr1 rfl gA kA bA .nil pass0 (pa_cons (pe_op op_cat (pv 2) (pv 3)) pa_nil)))) (pw_or1 (pt_val (pe_call GR hr1 rfl gR kR bR .nil pass0 (pa_cons (pv 0) pa_nil)))))))) ET.pss_never pss_nil)
      (pss_one (ps_ret (pe_not (pe_callB (cr_anyK (K := K) rfl rfl) (by rfl) mAny (by decide +kernel) (pa_cons (pe_lc (own := [("old", 5)]) (g := gName 5) (tt := tYes) rfl scGm.nd (pi_lstK (K := K) rfl (pv 2)) (blkOk_by (own := [("old", 5)]) (N := ["moves", "blocks", "olds", "news", "move", "old"]) (sc := (defScope sGm)) (by decide +kernel)) (fun _ _ _ _ _ => pg_name (i := 5) scGm.nd rfl (Or.inl rfl)) (fun _ _ _ _ _ => pts_nil) (fun _ _ _ _ _ => (pe_never))) pa_nil))))))), ?_⟩
  obtain ⟨Pr, ds, d, r, fr, e, kk⟩ := h
  unfold gmF0 at e
  split at e
  case h_2 => cases e
  cases e
  have he := en_start (N := ["moves", "blocks", "olds", "news", "move", "old"]) r
  apply step_par (he := he) (hf := fr) (d := .lst []) (d2 := .lst [])
  case pu => (repeat' first
    | with_reducible exact pu_var _ | with_reducible exact pu_non | with_reducible exact pu_bl _ | with_reducible exact pu_int _ | with_reducible exact pu_nil | with_reducible exact pu_next | with_reducible exact pu_yes
    | with_reducible apply pu_seq | with_reducible apply pu_ifS | with_reducible apply pu_ret | with_reducible apply pu_asg
    | with_reducible apply pu_and | with_reducible apply pu_or | with_reducible apply pu_not | with_reducible apply pu_test | with_reducible apply pu_b
    | with_reducible apply pu_andV | with_reducible apply pu_orV | with_reducible apply pu_notV | with_reducible apply pu_if
    | with_reducible apply pu_isi hC | with_reducible apply pu_cb (hr := pu_len) | with_reducible apply pu_cb (hr := pu_all) | with_reducible apply pu_cb (hr := pu_any) | with_reducible apply pu_cb (hr := pu_tupOf) | with_reducible apply pu_cb (hr := pu_lstOf)
    | with_reducible exact pu_nevS
    | with_reducible apply pu_rows
    | with_reducible exact pu_nevE
    | with_reducible exact pu_nevT
    | with_reducible apply pu_op (hr := pu_catA)
    | with_reducible apply pu_op (hr := pu_ixT) | with_reducible apply pu_op (hr := pu_ixL) | with_reducible apply pu_op (hr := pu_eqS) | with_reducible apply pu_op (hr := pu_neS) | with_reducible apply pu_op (hr := pu_in) | with_reducible apply pu_op (hr := pu_isNo) | with_reducible apply pu_op (hr := pu_notNo)
    | with_reducible apply pu_op (hr := pu_cm) | with_reducible apply pu_op (hr := pu_ar) | with_reducible apply pu_op (hr := pu_eqP) | with_reducible apply pu_op (hr := pu_neP) | with_reducible apply pu_op (hr := pu_catT) | with_reducible apply pu_op (hr := pu_catL)
    | with_reducible apply pu_chain pu_cm pu_cm | with_reducible apply pu_lc0 | with_reducible apply pu_dc0 | with_reducible apply pu_iTup | with_reducible apply pu_iLst
    | with_reducible apply pu_slT | with_reducible apply pu_slL | with_reducible exact pu_noPart | with_reducible exact pu_part _
    | exact pu_str _ ⟨by decide +kernel, by decide +kernel⟩ | with_reducible apply pu_call | with_reducible apply pu_tup | with_reducible apply pu_lst | with_reducible apply pu_cons | (with_reducible_and_instances rfl) | rfl)
  case e => rfl
  intro v1 v2 H1 m1 r1 r2
  have he1 := ((he.keepS m1).set (i := 2) r1).set (i := 3) r2
  apply step_ifN (he := he1) (hf := fr.same m1) 
  case pu => (repeat' first
    | with_reducible exact pu_var _ | with_reducible exact pu_non | with_reducible exact pu_bl _ | with_reducible exact pu_int _ | with_reducible exact pu_nil | with_reducible exact pu_next | with_reducible exact pu_yes
    | with_reducible apply pu_seq | with_reducible apply pu_ifS | with_reducible apply pu_ret | with_reducible apply pu_asg
    | with_reducible apply pu_and | with_reducible apply pu_or | with_reducible apply pu_not | with_reducible apply pu_test | with_reducible apply pu_b
    | with_reducible apply pu_andV | with_reducible apply pu_orV | with_reducible apply pu_notV | with_reducible apply pu_if
    | with_reducible apply pu_isi hC | with_reducible apply pu_cb (hr := pu_len) | with_reducible apply pu_cb (hr := pu_all) | with_reducible apply pu_cb (hr := pu_any) | with_reducible apply pu_cb (hr := pu_tupOf) | with_reducible apply pu_cb (hr := pu_lstOf)
    | with_reducible exact pu_nevS
    | with_reducible apply pu_rows
    | with_reducible exact pu_nevE
    | with_reducible exact pu_nevT
    | with_reducible apply pu_op (hr := pu_catA)
    | with_reducible apply pu_op (hr := pu_ixT) | with_reducible apply pu_op (hr := pu_ixL) | with_reducible apply pu_op (hr := pu_eqS) | with_reducible apply pu_op (hr := pu_neS) | with_reducible apply pu_op (hr := pu_in) | with_reducible apply pu_op (hr := pu_isNo) | with_reducible apply pu_op (hr := pu_notNo)
    | with_reducible apply pu_op (hr := pu_cm) | with_reducible apply pu_op (hr := pu_ar) | with_reducible apply pu_op (hr := pu_eqP) | with_reducible apply pu_op (hr := pu_neP) | with_reducible apply pu_op (hr := pu_catT) | with_reducible apply pu_op (hr := pu_catL)
    | with_reducible apply pu_chain pu_cm pu_cm | with_reducible apply pu_lc0 | with_reducible apply pu_dc0 | with_reducible apply pu_iTup | with_reducible apply pu_iLst
    | with_reducible apply pu_slT | with_reducible apply pu_slL | with_reducible exact pu_noPart | with_reducible exact pu_part _
    | exact pu_str _ ⟨by decide +kernel, by decide +kernel⟩ | with_reducible apply pu_call | with_reducible apply pu_tup | with_reducible apply pu_lst | with_reducible apply pu_cons | (with_reducible_and_instances rfl) | rfl)
  case e => rfl
  intro H2 m2
  apply pu_at (P := Pr) (env := ((env0 ["moves", "blocks", "olds", "news", "move", "old"] [.tup [], .tup []]).set 2 (some (.lst []))).set 3 (some (.lst []))) (d := .bl true)
  case pu => (repeat' first
    | with_reducible exact pu_var _ | with_reducible exact pu_non | with_reducible exact pu_bl _ | with_reducible exact pu_int _ | with_reducible exact pu_nil | with_reducible exact pu_next | with_reducible exact pu_yes
    | with_reducible apply pu_seq | with_reducible apply pu_ifS | with_reducible apply pu_ret | with_reducible apply pu_asg
    | with_reducible apply pu_and | with_reducible apply pu_or | with_reducible apply pu_not | with_reducible apply pu_test | with_reducible apply pu_b
    | with_reducible apply pu_andV | with_reducible apply pu_orV | with_reducible apply pu_notV | with_reducible apply pu_if
    | with_reducible apply pu_isi hC | with_reducible apply pu_cb (hr := pu_len) | with_reducible apply pu_cb (hr := pu_all) | with_reducible apply pu_cb (hr := pu_any) | with_reducible apply pu_cb (hr := pu_tupOf) | with_reducible apply pu_cb (hr := pu_lstOf)
    | with_reducible exact pu_nevS
    | with_reducible apply pu_rows
    | with_reducible exact pu_nevE
    | with_reducible exact pu_nevT
    | with_reducible apply pu_op (hr := pu_catA)
    | with_reducible apply pu_op (hr := pu_ixT) | with_reducible apply pu_op (hr := pu_ixL) | with_reducible apply pu_op (hr := pu_eqS) | with_reducible apply pu_op (hr := pu_neS) | with_reducible apply pu_op (hr := pu_in) | with_reducible apply pu_op (hr := pu_isNo) | with_reducible apply pu_op (hr := pu_notNo)
    | with_reducible apply pu_op (hr := pu_cm) | with_reducible apply pu_op (hr := pu_ar) | with_reducible apply pu_op (hr := pu_eqP) | with_reducible apply pu_op (hr := pu_neP) | with_reducible apply pu_op (hr := pu_catT) | with_reducible apply pu_op (hr := pu_catL)
    | with_reducible apply pu_chain pu_cm pu_cm | with_reducible apply pu_lc0 | with_reducible apply pu_dc0 | with_reducible apply pu_iTup | with_reducible apply pu_iLst
    | with_reducible apply pu_slT | with_reducible apply pu_slL | with_reducible exact pu_noPart | with_reducible exact pu_part _
    | exact pu_str _ ⟨by decide +kernel, by decide +kernel⟩ | with_reducible apply pu_call | with_reducible apply pu_tup | with_reducible apply pu_lst | with_reducible apply pu_cons | (with_reducible_and_instances rfl) | rfl)
  case he => exact he1.keepS m2
  case fr => exact (fr.same m1).same m2
  case e => rfl
  case k => intro v H' m r; exact kk v H' ((m1.trans m2).trans m) r
theorem scIG : FnScope ["self", "params", "blocks", "readings", "calls", "outputs", "moves", "param", "block", "together", "call", "row"] ["self", "params", "blocks", "readings", "calls", "outputs", "moves"] (defScope sIG) := ⟨rfl, rfl, rfl, by decide +kernel, rfl, by decide +kernel, by decide +kernel⟩
theorem ok_IG {C f fW fU fM pis_param pis_block pis_reading pis_call pis_output pis_move : Addr} {fd dW dU dM : FuncData} {kws : List (Str × V)} (F : FunD K "__init__" "Config.__init__" (defArgs sIG) (defBody sIG) (defScope sIG) [] kws f fd) (T : Txt mg) (hC : ∀ C ∈ CS, CF K C) (cl : Cls K C) (nA : ∀ x ∈ flG, NoAttr K C x)
    (gis_param : mg "is_param" = some (.ref pis_param)) (gis_block : mg "is_block" = some (.ref pis_block)) (gis_reading : mg "is_reading" = some (.ref pis_reading)) (gis_call : mg "is_call" = some (.ref pis_call)) (gis_output : mg "is_output" = some (.ref pis_output)) (gis_move : mg "is_move" = some (.ref pis_move))
    (GW : FnOk P w K mg base CX0 1 fW dW ["things", "is_good"] spRows) (gW : mg "are_rows" = some (.ref fW)) (kW : PySem.W.keepIn K (.ref fW) = true) (bW : Binds K dW ["things", "is_good"] [])
    (GU : FnOk P w K mg base CX0 1 fU dU ["things"] (spP unlF0)) (gU : mg "are_unlike" = some (.ref fU)) (kU : PySem.W.keepIn K (.ref fU) = true) (bU : Binds K dU ["things"] [])
    (GM : FnOk P w K mg base CX0 2 fM dM ["moves", "blocks"] (spP gmF0)) (gM : mg "are_good_moves" = some (.ref fM)) (kM : PySem.W.keepIn K (.ref fM) = true) (bM : Binds K dM ["moves", "blocks"] []) : FnOk P w K mg base CX0 3 f fd ["self", "params", "blocks", "readings", "calls", "outputs", "moves"] (spG C) := by
  refine F.ok scIG (fun vs H Q E0 h => by obtain ⟨Pr, x, dx, us, rfl, hx, r, _⟩ := h; rw [List.length_cons, r.length]; rfl) (fun cdv A outer s H vs Q E0 hr h => ?_)
  have hr2 : Room 2 _ := hr
  have hr1 : Room 1 _ := hr.mono (by decide)
  obtain ⟨Pr, x, dx, us, rfl, hx, r, fr, k⟩ := h
  match us, r.length, r with
  | [u1, u2, u3, u4, u5, u6], _, r =>
  refine ⟨_, (pss_cons (ps_if (PW.pt (pw_or (pt_not (pt_val (pe_call GW hr1 rfl gW kW bW .nil pass0 (pa_cons (pv 1) (pa_cons (pe_glob (v := .ref pis_param) rfl gis_param rfl) pa_nil))))) (pw_or1 (pt_not (pt_val (pe_call GU hr1 rfl gU kU bU .nil pass0 (pa_cons (pe_lc (own := [("param", 7)]) (g := gName 7) (tt := tYes) rfl scIG.nd (pi_tupK (K := K) rfl (pv 1)) (blkOk_by (own := [("param", 7)]) (N := ["self", "params", "blocks", "readings", "calls", "outputs", "moves", "param", "block", "together", "call", "row"]) (sc := (defScope sIG)) (by decide +kernel)) (fun _ _ _ _ _ => pg_name (i := 7) scIG.nd rfl (Or.inl rfl)) (fun _ _ _ _ _ => pts_nil) (fun _ _ _ _ _ => (pe_never))) pa_nil))))))) ET.pss_never pss_nil)
      (pss_cons (ps_if (PW.pt (pw_or (pt_not (pt_val (pe_call GW hr1 rfl gW kW bW .nil pass0 (pa_cons (pv 2) (pa_cons (pe_glob (v := .ref pis_block) rfl gis_block rfl) pa_nil))))) (pw_or1 (pt_not (pt_val (pe_call GU hr1 rfl gU kU bU .nil pass0 (pa_cons (pe_lc (own := [("block", 8)]) (g := gName 8) (tt := tYes) rfl scIG.nd (pi_tupK (K := K) rfl (pv 2)) (blkOk_by (own := [("block", 8)]) (N := ["self", "params", "blocks", "readings", "calls", "outputs", "moves", "param", "block", "together", "call", "row"]) (sc := (defScope sIG)) (by decide +kernel)) (fun _ _ _ _ _ => pg_name (i := 8) scIG.nd rfl (Or.inl rfl)) (fun _ _ _ _ _ => pts_nil) (fun _ _ _ _ _ => (pe_never))) pa_nil))))))) ET.pss_never pss_nil)
      (pss_cons (ps_set (i := 9) scIG.nd rfl (Or.inl rfl) (pe_ifExp (pt_val (pe_call GW hr1 rfl gW kW bW .nil pass0 (pa_cons (pv 3) (pa_cons (pe_glob (v := .ref pis_reading) rfl gis_reading rfl) pa_nil)))) (pe_op (op_catAK (K := K) rfl) (pv 2) (pv 3)) pe_non))
      (pss_cons (ps_if (PW.pt (pw_or (pt_cmpR op_isNo (pv 9) pe_non (nomark _)) (pw_or1 (pt_not (pt_val (pe_call GU hr1 rfl gU kU bU .nil pass0 (pa_cons (pe_lc (own := [("block", 8)]) (g := gName 8) (tt := tYes) rfl scIG.nd (pi_tupK (K := K) rfl (pv 9)) (blkOk_by (own := [("block", 8)]) (N := ["self", "params", "blocks", "readings", "calls", "outputs", "moves", "param", "block", "together", "call", "row"]) (sc := (defScope sIG)) (by decide +kernel)) (fun _ _ _ _ _ => pg_name (i := 8) scIG.nd rfl (Or.inl rfl)) (fun _ _ _ _ _ => pts_nil) (fun _ _ _ _ _ => (pe_never))) pa_nil))))))) ET.pss_never pss_nil)
      (pss_cons (ps_if (PW.pt (pw_or (pt_not (pt_val (pe_call GW hr1 rfl gW kW bW .nil pass0 (pa_cons (pv 4) (pa_cons (pe_glob (v := .ref pis_call) rfl gis_call rfl) pa_nil))))) (pw_or1 (pt_not (pt_val (pe_call GU hr1 rfl gU kU bU .nil pass0 (pa_cons (pe_lc (own := [("call", 10)]) (g := gName 10) (tt := tYes) rfl scIG.nd (pi_tupK (K := K) rfl (pv 4)) (blkOk_by (own := [("call", 10)]) (N := ["self", "params", "blocks", "readings", "calls", "outputs", "moves", "param", "block", "together", "call", "row"]) (sc := (defScope sIG)) (by decide +kernel)) (fun _ _ _ _ _ => pg_name (i := 10) scIG.nd rfl (Or.inl rfl)) (fun _ _ _ _ _ => pts_nil) (fun _ _ _ _ _ => (pe_never))) pa_nil))))))) ET.pss_never pss_nil)
      (pss_cons (ps_if (PW.pt (pw_or (pt_not (pt_val (pe_call GW hr1 rfl gW kW bW .nil pass0 (pa_cons (pv 5) (pa_cons (pe_glob (v := .ref pis_output) rfl gis_output rfl) pa_nil))))) (pw_or1 (pt_not (pt_val (pe_call GU hr1 rfl gU kU bU .nil pass0 (pa_cons (pe_lc (own := [("row", 11)]) (g := gName 11) (tt := tYes) rfl scIG.nd (pi_tupK (K := K) rfl (pv 5)) (blkOk_by (own := [("row", 11)]) (N := ["self", "params", "blocks", "readings", "calls", "outputs", "moves", "param", "block", "together", "call", "row"]) (sc := (defScope sIG)) (by decide +kernel)) (fun _ _ _ _ _ => pg_name (i := 11) scIG.nd rfl (Or.inl rfl)) (fun _ _ _ _ _ => pts_nil) (fun _ _ _ _ _ => (pe_never))) pa_nil))))))) ET.pss_never pss_nil)
      (pss_cons (ps_if (PW.pt (pw_or (pt_not (pt_val (pe_call GW hr1 rfl gW kW bW .nil pass0 (pa_cons (pv 6) (pa_cons (pe_glob (v := .ref pis_move) rfl gis_move rfl) pa_nil))))) (pw_or1 (pt_not (pt_val (pe_call GM hr2 rfl gM kM bM .nil pass0 (pa_cons (pv 6) (pa_cons (pv 2) pa_nil)))))))) ET.pss_never pss_nil)
      (pss_cons (ps_fld (pv 0) (pv 1) rfl)
      (pss_cons (ps_fld (pv 0) (pv 2) rfl)
      (pss_cons (ps_fld (pv 0) (pv 3) rfl)
      (pss_cons (ps_fld (pv 0) (pv 4) rfl)
      (pss_cons (ps_fld (pv 0) (pv 5) rfl)
      (pss_one (ps_fld (pv 0) (pv 6) rfl)))))))))))))), ?_⟩
  have he : En (keepH Pr H) (L2.start ["self", "params", "blocks", "readings", "calls", "outputs", "moves", "param", "block", "together", "call", "row"] [.ref x, u1, u2, u3, u4, u5, u6]) [none, some (.tup []), some (.tup []), some (.tup []), some (.tup []), some (.tup []), some (.tup []), none, none, none, none, none] := en_startN r
  apply step_ifN (he := he) (hf := fr) 
  case pu => (repeat' first
    | with_reducible exact pu_var _ | with_reducible exact pu_non | with_reducible exact pu_bl _ | with_reducible exact pu_int _ | with_reducible exact pu_nil | with_reducible exact pu_next | with_reducible exact pu_yes
    | with_reducible apply pu_seq | with_reducible apply pu_ifS | with_reducible apply pu_ret | with_reducible apply pu_asg
    | with_reducible apply pu_and | with_reducible apply pu_or | with_reducible apply pu_not | with_reducible apply pu_test | with_reducible apply pu_b
    | with_reducible apply pu_andV | with_reducible apply pu_orV | with_reducible apply pu_notV | with_reducible apply pu_if
    | with_reducible apply pu_isi hC | with_reducible apply pu_cb (hr := pu_len) | with_reducible apply pu_cb (hr := pu_all) | with_reducible apply pu_cb (hr := pu_any) | with_reducible apply pu_cb (hr := pu_tupOf) | with_reducible apply pu_cb (hr := pu_lstOf)
    | with_reducible exact pu_nevS
    | with_reducible apply pu_rows
    | with_reducible exact pu_nevE
    | with_reducible exact pu_nevT
    | with_reducible apply pu_op (hr := pu_catA)
    | with_reducible apply pu_op (hr := pu_ixT) | with_reducible apply pu_op (hr := pu_ixL) | with_reducible apply pu_op (hr := pu_eqS) | with_reducible apply pu_op (hr := pu_neS) | with_reducible apply pu_op (hr := pu_in) | with_reducible apply pu_op (hr := pu_isNo) | with_reducible apply pu_op (hr := pu_notNo)
    | with_reducible apply pu_op (hr := pu_cm) | with_reducible apply pu_op (hr := pu_ar) | with_reducible apply pu_op (hr := pu_eqP) | with_reducible apply pu_op (hr := pu_neP) | with_reducible apply pu_op (hr := pu_catT) | with_reducible apply pu_op (hr := pu_catL)
    | with_reducible apply pu_chain pu_cm pu_cm | with_reducible apply pu_lc0 | with_reducible apply pu_dc0 | with_reducible apply pu_iTup | with_reducible apply pu_iLst
    | with_reducible apply pu_slT | with_reducible apply pu_slL | with_reducible exact pu_noPart | with_reducible exact pu_part _
    | exact pu_str _ ⟨by decide +kernel, by decide +kernel⟩ | with_reducible apply pu_call | with_reducible apply pu_tup | with_reducible apply pu_lst | with_reducible apply pu_cons | (with_reducible_and_instances rfl) | rfl)
  case e => rfl
  intro H1 m1
  have he1 := he.keepS m1
  have fr1 := fr.same m1
  apply step_ifN (he := he1) (hf := fr1) 
  case pu => (repeat' first
    | with_reducible exact pu_var _ | with_reducible exact pu_non | with_reducible exact pu_bl _ | with_reducible exact pu_int _ | with_reducible exact pu_nil | with_reducible exact pu_next | with_reducible exact pu_yes
    | with_reducible apply pu_seq | with_reducible apply pu_ifS | with_reducible apply pu_ret | with_reducible apply pu_asg
    | with_reducible apply pu_and | with_reducible apply pu_or | with_reducible apply pu_not | with_reducible apply pu_test | with_reducible apply pu_b
    | with_reducible apply pu_andV | with_reducible apply pu_orV | with_reducible apply pu_notV | with_reducible apply pu_if
    | with_reducible apply pu_isi hC | with_reducible apply pu_cb (hr := pu_len) | with_reducible apply pu_cb (hr := pu_all) | with_reducible apply pu_cb (hr := pu_any) | with_reducible apply pu_cb (hr := pu_tupOf) | with_reducible apply pu_cb (hr := pu_lstOf)
    | with_reducible exact pu_nevS
    | with_reducible apply pu_rows
    | with_reducible exact pu_nevE
    | with_reducible exact pu_nevT
    | with_reducible apply pu_op (hr := pu_catA)
    | with_reducible apply pu_op (hr := pu_ixT) | with_reducible apply pu_op (hr := pu_ixL) | with_reducible apply pu_op (hr := pu_eqS) | with_reducible apply pu_op (hr := pu_neS) | with_reducible apply pu_op (hr := pu_in) | with_reducible apply pu_op (hr := pu_isNo) | with_reducible apply pu_op (hr := pu_notNo)
    | with_reducible apply pu_op (hr := pu_cm) | with_reducible apply pu_op (hr := pu_ar) | with_reducible apply pu_op (hr := pu_eqP) | with_reducible apply pu_op (hr := pu_neP) | with_reducible apply pu_op (hr := pu_catT) | with_reducible apply pu_op (hr := pu_catL)
    | with_reducible apply pu_chain pu_cm pu_cm | with_reducible apply pu_lc0 | with_reducible apply pu_dc0 | with_reducible apply pu_iTup | with_reducible apply pu_iLst
    | with_reducible apply pu_slT | with_reducible apply pu_slL | with_reducible exact pu_noPart | with_reducible exact pu_part _
    | exact pu_str _ ⟨by decide +kernel, by decide +kernel⟩ | with_reducible apply pu_call | with_reducible apply pu_tup | with_reducible apply pu_lst | with_reducible apply pu_cons | (with_reducible_and_instances rfl) | rfl)
  case e => rfl
  intro H2 m2
  have he2 := he1.keepS m2
  have fr2 := fr1.same m2
  apply st_pu (he := he2) (hf := fr2) (d := .tup [])
  case pu => (repeat' first
    | with_reducible exact pu_var _ | with_reducible exact pu_non | with_reducible exact pu_bl _ | with_reducible exact pu_int _ | with_reducible exact pu_nil | with_reducible exact pu_next | with_reducible exact pu_yes
    | with_reducible apply pu_seq | with_reducible apply pu_ifS | with_reducible apply pu_ret | with_reducible apply pu_asg
    | with_reducible apply pu_and | with_reducible apply pu_or | with_reducible apply pu_not | with_reducible apply pu_test | with_reducible apply pu_b
    | with_reducible apply pu_andV | with_reducible apply pu_orV | with_reducible apply pu_notV | with_reducible apply pu_if
    | with_reducible apply pu_isi hC | with_reducible apply pu_cb (hr := pu_len) | with_reducible apply pu_cb (hr := pu_all) | with_reducible apply pu_cb (hr := pu_any) | with_reducible apply pu_cb (hr := pu_tupOf) | with_reducible apply pu_cb (hr := pu_lstOf)
    | with_reducible exact pu_nevS
    | with_reducible apply pu_rows
    | with_reducible exact pu_nevE
    | with_reducible exact pu_nevT
    | with_reducible apply pu_op (hr := pu_catA)
    | with_reducible apply pu_op (hr := pu_ixT) | with_reducible apply pu_op (hr := pu_ixL) | with_reducible apply pu_op (hr := pu_eqS) | with_reducible apply pu_op (hr := pu_neS) | with_reducible apply pu_op (hr := pu_in) | with_reducible apply pu_op (hr := pu_isNo) | with_reducible apply pu_op (hr := pu_notNo)
    | with_reducible apply pu_op (hr := pu_cm) | with_reducible apply pu_op (hr := pu_ar) | with_reducible apply pu_op (hr := pu_eqP) | with_reducible apply pu_op (hr := pu_neP) | with_reducible apply pu_op (hr := pu_catT) | with_reducible apply pu_op (hr := pu_catL)
    | with_reducible apply pu_chain pu_cm pu_cm | with_reducible apply pu_lc0 | with_reducible apply pu_dc0 | with_reducible apply pu_iTup | with_reducible apply pu_iLst
    | with_reducible apply pu_slT | with_reducible apply pu_slL | with_reducible exact pu_noPart | with_reducible exact pu_part _
    | exact pu_str _ ⟨by decide +kernel, by decide +kernel⟩ | with_reducible apply pu_call | with_reducible apply pu_tup | with_reducible apply pu_lst | with_reducible apply pu_cons | (with_reducible_and_instances rfl) | rfl)
  case e => rfl
  intro v9 H3 m3 he3 r9
  have fr3 := fr2.same m3
  apply step_ifN (he := he3) (hf := fr3)
  case pu => (repeat' first
    | with_reducible exact pu_var _ | with_reducible exact pu_non | with_reducible exact pu_bl _ | with_reducible exact pu_int _ | with_reducible exact pu_nil | with_reducible exact pu_next | with_reducible exact pu_yes
    | with_reducible apply pu_seq | with_reducible apply pu_ifS | with_reducible apply pu_ret | with_reducible apply pu_asg
    | with_reducible apply pu_and | with_reducible apply pu_or | with_reducible apply pu_not | with_reducible apply pu_test | with_reducible apply pu_b
    | with_reducible apply pu_andV | with_reducible apply pu_orV | with_reducible apply pu_notV | with_reducible apply pu_if
    | with_reducible apply pu_isi hC | with_reducible apply pu_cb (hr := pu_len) | with_reducible apply pu_cb (hr := pu_all) | with_reducible apply pu_cb (hr := pu_any) | with_reducible apply pu_cb (hr := pu_tupOf) | with_reducible apply pu_cb (hr := pu_lstOf)
    | with_reducible exact pu_nevS
    | with_reducible apply pu_rows
    | with_reducible exact pu_nevE
    | with_reducible exact pu_nevT
    | with_reducible apply pu_op (hr := pu_catA)
    | with_reducible apply pu_op (hr := pu_ixT) | with_reducible apply pu_op (hr := pu_ixL) | with_reducible apply pu_op (hr := pu_eqS) | with_reducible apply pu_op (hr := pu_neS) | with_reducible apply pu_op (hr := pu_in) | with_reducible apply pu_op (hr := pu_isNo) | with_reducible apply pu_op (hr := pu_notNo)
    | with_reducible apply pu_op (hr := pu_cm) | with_reducible apply pu_op (hr := pu_ar) | with_reducible apply pu_op (hr := pu_eqP) | with_reducible apply pu_op (hr := pu_neP) | with_reducible apply pu_op (hr := pu_catT) | with_reducible apply pu_op (hr := pu_catL)
    | with_reducible apply pu_chain pu_cm pu_cm | with_reducible apply pu_lc0 | with_reducible apply pu_dc0 | with_reducible apply pu_iTup | with_reducible apply pu_iLst
    | with_reducible apply pu_slT | with_reducible apply pu_slL | with_reducible exact pu_noPart | with_reducible exact pu_part _
    | exact pu_str _ ⟨by decide +kernel, by decide +kernel⟩ | with_reducible apply pu_call | with_reducible apply pu_tup | with_reducible apply pu_lst | with_reducible apply pu_cons | (with_reducible_and_instances rfl) | rfl)
  case e => rfl
  intro H4 m4
  have he4 := he3.keepS m4
  have fr4 := fr3.same m4
  apply step_ifN (he := he4) (hf := fr4)
  case pu => (repeat' first
    | with_reducible exact pu_var _ | with_reducible exact pu_non | with_reducible exact pu_bl _ | with_reducible exact pu_int _ | with_reducible exact pu_nil | with_reducible exact pu_next | with_reducible exact pu_yes
    | with_reducible apply pu_seq | with_reducible apply pu_ifS | with_reducible apply pu_ret | with_reducible apply pu_asg
    | with_reducible apply pu_and | with_reducible apply pu_or | with_reducible apply pu_not | with_reducible apply pu_test | with_reducible apply pu_b
    | with_reducible apply pu_andV | with_reducible apply pu_orV | with_reducible apply pu_notV | with_reducible apply pu_if
    | with_reducible apply pu_isi hC | with_reducible apply pu_cb (hr := pu_len) | with_reducible apply pu_cb (hr := pu_all) | with_reducible apply pu_cb (hr := pu_any) | with_reducible apply pu_cb (hr := pu_tupOf) | with_reducible apply pu_cb (hr := pu_lstOf)
    | with_reducible exact pu_nevS
    | with_reducible apply pu_rows
    | with_reducible exact pu_nevE
    | with_reducible exact pu_nevT
    | with_reducible apply pu_op (hr := pu_catA)
    | with_reducible apply pu_op (hr := pu_ixT) | with_reducible apply pu_op (hr := pu_ixL) | with_reducible apply pu_op (hr := pu_eqS) | with_reducible apply pu_op (hr := pu_neS) | with_reducible apply pu_op (hr := pu_in) | with_reducible apply pu_op (hr := pu_isNo) | with_reducible apply pu_op (hr := pu_notNo)
    | with_reducible apply pu_op (hr := pu_cm) | with_reducible apply pu_op (hr := pu_ar) | with_reducible apply pu_op (hr := pu_eqP) | with_reducible apply pu_op (hr := pu_neP) | with_reducible apply pu_op (hr := pu_catT) | with_reducible apply pu_op (hr := pu_catL)
    | with_reducible apply pu_chain pu_cm pu_cm | with_reducible apply pu_lc0 | with_reducible apply pu_dc0 | with_reducible apply pu_iTup | with_reducible apply pu_iLst
    | with_reducible apply pu_slT | with_reducible apply pu_slL | with_reducible exact pu_noPart | with_reducible exact pu_part _
    | exact pu_str _ ⟨by decide +kernel, by decide +kernel⟩ | with_reducible apply pu_call | with_reducible apply pu_tup | with_reducible apply pu_lst | with_reducible apply pu_cons | (with_reducible_and_instances rfl) | rfl)
  case e => rfl
  intro H5 m5
  have he5 := he4.keepS m5
  have fr5 := fr4.same m5
  apply step_ifN (he := he5) (hf := fr5)
  case pu => (repeat' first
    | with_reducible exact pu_var _ | with_reducible exact pu_non | with_reducible exact pu_bl _ | with_reducible exact pu_int _ | with_reducible exact pu_nil | with_reducible exact pu_next | with_reducible exact pu_yes
    | with_reducible apply pu_seq | with_reducible apply pu_ifS | with_reducible apply pu_ret | with_reducible apply pu_asg
    | with_reducible apply pu_and | with_reducible apply pu_or | with_reducible apply pu_not | with_reducible apply pu_test | with_reducible apply pu_b
    | with_reducible apply pu_andV | with_reducible apply pu_orV | with_reducible apply pu_notV | with_reducible apply pu_if
    | with_reducible apply pu_isi hC | with_reducible apply pu_cb (hr := pu_len) | with_reducible apply pu_cb (hr := pu_all) | with_reducible apply pu_cb (hr := pu_any) | with_reducible apply pu_cb (hr := pu_tupOf) | with_reducible apply pu_cb (hr := pu_lstOf)
    | with_reducible exact pu_nevS
    | with_reducible apply pu_rows
    | with_reducible exact pu_nevE
    | with_reducible exact pu_nevT
    | with_reducible apply pu_op (hr := pu_catA)
    | with_reducible apply pu_op (hr := pu_ixT) | with_reducible apply pu_op (hr := pu_ixL) | with_reducible apply pu_op (hr := pu_eqS) | with_reducible apply pu_op (hr := pu_neS) | with_reducible apply pu_op (hr := pu_in) | with_reducible apply pu_op (hr := pu_isNo) | with_reducible apply pu_op (hr := pu_notNo)
    | with_reducible apply pu_op (hr := pu_cm) | with_reducible apply pu_op (hr := pu_ar) | with_reducible apply pu_op (hr := pu_eqP) | with_reducible apply pu_op (hr := pu_neP) | with_reducible apply pu_op (hr := pu_catT) | with_reducible apply pu_op (hr := pu_catL)
    | with_reducible apply pu_chain pu_cm pu_cm | with_reducible apply pu_lc0 | with_reducible apply pu_dc0 | with_reducible apply pu_iTup | with_reducible apply pu_iLst
    | with_reducible apply pu_slT | with_reducible apply pu_slL | with_reducible exact pu_noPart | with_reducible exact pu_part _
    | exact pu_str _ ⟨by decide +kernel, by decide +kernel⟩ | with_reducible apply pu_call | with_reducible apply pu_tup | with_reducible apply pu_lst | with_reducible apply pu_cons | (with_reducible_and_instances rfl) | rfl)
  case e => rfl
  intro H6 m6
  have he6 := he5.keepS m6
  have fr6 := fr5.same m6
  apply step_ifN (he := he6) (hf := fr6)
  case pu => (repeat' first
    | with_reducible exact pu_var _ | with_reducible exact pu_non | with_reducible exact pu_bl _ | with_reducible exact pu_int _ | with_reducible exact pu_nil | with_reducible exact pu_next | with_reducible exact pu_yes
    | with_reducible apply pu_seq | with_reducible apply pu_ifS | with_reducible apply pu_ret | with_reducible apply pu_asg
    | with_reducible apply pu_and | with_reducible apply pu_or | with_reducible apply pu_not | with_reducible apply pu_test | with_reducible apply pu_b
    | with_reducible apply pu_andV | with_reducible apply pu_orV | with_reducible apply pu_notV | with_reducible apply pu_if
    | with_reducible apply pu_isi hC | with_reducible apply pu_cb (hr := pu_len) | with_reducible apply pu_cb (hr := pu_all) | with_reducible apply pu_cb (hr := pu_any) | with_reducible apply pu_cb (hr := pu_tupOf) | with_reducible apply pu_cb (hr := pu_lstOf)
    | with_reducible exact pu_nevS
    | with_reducible apply pu_rows
    | with_reducible exact pu_nevE
    | with_reducible exact pu_nevT
    | with_reducible apply pu_op (hr := pu_catA)
    | with_reducible apply pu_op (hr := pu_ixT) | with_reducible apply pu_op (hr := pu_ixL) | with_reducible apply pu_op (hr := pu_eqS) | with_reducible apply pu_op (hr := pu_neS) | with_reducible apply pu_op (hr := pu_in) | with_reducible apply pu_op (hr := pu_isNo) | with_reducible apply pu_op (hr := pu_notNo)
    | with_reducible apply pu_op (hr := pu_cm) | with_reducible apply pu_op (hr := pu_ar) | with_reducible apply pu_op (hr := pu_eqP) | with_reducible apply pu_op (hr := pu_neP) | with_reducible apply pu_op (hr := pu_catT) | with_reducible apply pu_op (hr := pu_catL)
    | with_reducible apply pu_chain pu_cm pu_cm | with_reducible apply pu_lc0 | with_reducible apply pu_dc0 | with_reducible apply pu_iTup | with_reducible apply pu_iLst
    | with_reducible apply pu_slT | with_reducible apply pu_slL | with_reducible exact pu_noPart | with_reducible exact pu_part _
    | exact pu_str _ ⟨by decide +kernel, by decide +kernel⟩ | with_reducible apply pu_call | with_reducible apply pu_tup | with_reducible apply pu_lst | with_reducible apply pu_cons | (with_reducible_and_instances rfl) | rfl)
  case e => rfl
  intro H7 m7
  have he7 := he6.keepS m7
  have fr7 := fr6.same m7
  have mm := m1.trans (m2.trans (m3.trans (m4.trans (m5.trans (m6.trans m7)))))
  have hx7 := mm _ _ hx
  refine ⟨u1, rfl, .ref x, rfl, x, C, dx, _, rfl, hx7, cl, nA _ (by decide +kernel), (by show 0 < 1000; decide), ?_⟩
  refine ⟨u2, rfl, .ref x, rfl, x, C, dx, _, rfl, upd_same, cl, nA _ (by decide +kernel), (by show 1 < 1000; decide), ?_⟩
  refine ⟨u3, rfl, .ref x, rfl, x, C, dx, _, rfl, upd_same, cl, nA _ (by decide +kernel), (by show 2 < 1000; decide), ?_⟩
  refine ⟨u4, rfl, .ref x, rfl, x, C, dx, _, rfl, upd_same, cl, nA _ (by decide +kernel), (by show 3 < 1000; decide), ?_⟩
  refine ⟨u5, rfl, .ref x, rfl, x, C, dx, _, rfl, upd_same, cl, nA _ (by decide +kernel), (by show 4 < 1000; decide), ?_⟩
  refine ⟨u6, rfl, .ref x, rfl, x, C, dx, _, rfl, upd_same, cl, nA _ (by decide +kernel), (by show 5 < 1000; decide), ?_⟩
  refine k _ (fun b o hb' nb => ?_) ?_
  · rw [upd_ne nb, upd_ne nb, upd_ne nb, upd_ne nb, upd_ne nb, upd_ne nb]
    exact mm _ _ hb'
  · rw [upd_same]
    rfl
end
end K15

namespace K15
open PySem L2 XR VT ET
variable [KC]
abbrev sTx : Stmt := top 52
def unL (d : E) : Option (List E) := match d with
  | .lst l => if l.length ≤ 900 then some l else none
  | _ => none
/-- the text of a tree -/
def txG (C0 : Addr) : Nat → E → Option E
  | 0, _ => none
  | n + 1, .map ks ds => (((sortM [.map ks ds]).bind fun z => (unL z).bind fun l => mapO (fun x => (rep1E [x]).bind fun a => ((getM (.map ks ds) x).bind (txG C0 n)).bind fun b => addS a b) l).bind fun r => joinE (.str ",") (.lst r)).bind fun t => (addS (.str "map(") t).bind fun u => addS u (.str ")")
  | n + 1, .lst l => (((seqE (.lst l)).bind (mapO (txG C0 n))).bind fun r => joinE (.str ",") (.lst r)).bind fun t => (addS (.str "list(") t).bind fun u => addS u (.str ")")
  | n + 1, .tup l => (((seqE (.tup l)).bind (mapO (txG C0 n))).bind fun r => joinE (.str ",") (.lst r)).bind fun t => (addS (.str "tuple(") t).bind fun u => addS u (.str ")")
  | _ + 1, .ins C _ _ => if C = C0 then some (.str "config") else none
  | _ + 1, d => rep1E [d]
def txF (C0 : Addr) (n : Nat) : List E → Option E
  | [d] => txG C0 n d
  | _ => none
theorem txF_len {C0 : Addr} {n : Nat} (ds : List E) (d : E) (h : txF C0 n ds = some d) : ds.length = 1 := by
  unfold txF at h
  split at h
  · rfl
  · cases h
theorem txF_eq {C0 : Addr} {n : Nat} {ds : List E} {d : E} (h : txF C0 n ds = some d) : ∃ x, ds = [x] ∧ txG C0 n x = some d := by
  unfold txF at h
  split at h
  · exact ⟨_, rfl, h⟩
  · cases h
section
variable {P : Program} {w : World} {K : PySem.W.Frag} {mg : Str → Option Value} {base : Heap} [KcOk K]
variable {CS : List Addr}
theorem scTx : FnScope ["_law_thing", "_law_word", "_law_key", "_law_one_here"] ["_law_thing"] (defScope sTx) := ⟨rfl, rfl, rfl, by decide +kernel, rfl, by decide +kernel, by decide +kernel⟩
theorem ok_tx {L : CL} {f : Addr} {fd : FuncData} {n k : Nat} {sbG : Addr → Bool} {tG : Option String} (F : Fun K "_law_sorted_text" "_law_sorted_text" sTx f fd) (T : Txt mg) (hC : ∀ C ∈ CS, CF K C) (hCS : CS = L.all) (mRep : mg "repr" = none) (mSo : mg "sorted" = none)
    (gCG : mg "Config" = some (.ref L.CG)) (oG : ∀ C ∈ CS, PySem.W.kitOne K (.ref C) (.ref L.CG) = some (sbG C)) (bG : ∀ t ∈ ["NoneType", "bool", "int", "str", "tuple", "dict", "list"], PySem.W.kitOne K (.type t) (.ref L.CG) = some false) (sG : sbG L.CG = true)
    (gT : mg "_law_sorted_text" = some (.ref f)) (kT : PySem.W.keepIn K (.ref f) = true) (bT0 : Binds K fd ["_law_thing"] []) (GT : FnOk P w K mg base CX0 k f fd ["_law_thing"] (spP (txF L.CG n))) : FnOk P w K mg base CX0 (k + 1) f fd ["_law_thing"] (spP (txF L.CG (n + 1))) := by
  refine F.ok scTx (fun vs H Q E0 h => spP_len txF_len h) (fun cdv A outer s H vs Q E0 hr h => ?_)
  have hrE : Room k _ := hr
  have hu := Nat.lt_of_le_of_lt (Nat.add_le_add_left (show 1 ≤ 64 by decide) _) hr.units
  refine ⟨_, (pss_cons (ps_if (pt_val (pe_callB (call_isiK (K := K) rfl) (by rfl) T.isi (by decide +kernel) (pa_cons (pv 0) (pa_cons (pe_bltn (v := .ty "dict") (by rfl) T.dict (by decide +kernel) rfl) pa_nil)))) (pss_one (ps_ret (pe_op op_addSK (pe_op op_addSK pe_str (pe_joinK (K := K) rfl pe_str (pe_lc (own := [("_law_key", 2)]) (g := gName 2) (tt := tYes) rfl scTx.nd (pi_lstK (K := K) rfl (pe_callB (call_sortM rfl) (by rfl) mSo (by decide +kernel) (pa_cons (pv 0) pa_nil))) (blkOk_by (own := [("_law_key", 2)]) (N := ["_law_thing", "_law_word", "_law_key", "_law_one_here"]) (sc := (defScope sTx)) (by decide +kernel)) (fun _ _ _ _ _ => pg_name (i := 2) scTx.nd rfl (Or.inl rfl)) (fun _ _ _ _ _ => pts_nil) (fun _ _ _ _ _ => (pe_op op_addSK (pe_callB call_rep1 (by rfl) mRep (by decide +kernel) (pa_cons (pv 2) pa_nil)) (pe_call GT hrE rfl gT kT bT0 .nil pass0 (pa_cons (pe_dget hu (pv 0) (pv 2) (fun _ _ => rfl)) pa_nil))))))) pe_str))) pss_nil)
      (pss_cons (ps_if (pt_val (pe_callB (call_isLTK (K := K) rfl) (by rfl) T.isi (by decide +kernel) (pa_cons (pv 0) (pa_cons (pe_tup (pa_cons (pe_bltn (v := .ty "list") (by rfl) T.list (by decide +kernel) rfl) (pa_cons (pe_bltn (v := .ty "tuple") (by rfl) T.tuple (by decide +kernel) rfl) pa_nil))) pa_nil)))) (pss_cons (ps_set (i := 1) scTx.nd rfl (Or.inl rfl) (pe_ifExp (pt_val (pe_callB (call_isiK (K := K) rfl) (by rfl) T.isi (by decide +kernel) (pa_cons (pv 0) (pa_cons (pe_bltn (v := .ty "list") (by rfl) T.list (by decide +kernel) rfl) pa_nil)))) pe_str pe_str))
        (pss_one (ps_ret (pe_op op_addSK (pe_op op_addSK (pv 1) (pe_joinK (K := K) rfl pe_str (pe_lc (own := [("_law_one_here", 3)]) (g := gName 3) (tt := tYes) rfl scTx.nd (pi_seqK (K := K) rfl (pv 0)) (blkOk_by (own := [("_law_one_here", 3)]) (N := ["_law_thing", "_law_word", "_law_key", "_law_one_here"]) (sc := (defScope sTx)) (by decide +kernel)) (fun _ _ _ _ _ => pg_name (i := 3) scTx.nd rfl (Or.inl rfl)) (fun _ _ _ _ _ => pts_nil) (fun _ _ _ _ _ => (pe_call GT hrE rfl gT kT bT0 .nil pass0 (pa_cons (pv 3) pa_nil)))))) pe_str)))) pss_nil)
      (pss_one (ps_ret (pe_ifExp (pt_val (pe_callB (call_isiK (K := K) rfl) (by rfl) T.isi (by decide +kernel) (pa_cons (pv 0) (pa_cons (pe_glob (v := .ref L.CG) rfl gCG rfl) pa_nil)))) pe_str (pe_callB call_rep1 (by rfl) mRep (by decide +kernel) (pa_cons (pv 0) pa_nil))))))), ?_⟩
  apply pu_def (N := ["_law_thing", "_law_word", "_law_key", "_law_one_here"]) (h := h)
  case pu => (repeat' first
    | with_reducible exact pu_var _ | with_reducible exact pu_non | with_reducible exact pu_bl _ | with_reducible exact pu_int _ | with_reducible exact pu_nil | with_reducible exact pu_next | with_reducible exact pu_yes
    | with_reducible apply pu_seq | with_reducible apply pu_ifS | with_reducible apply pu_ret | with_reducible apply pu_asg
    | with_reducible apply pu_and | with_reducible apply pu_or | with_reducible apply pu_not | with_reducible apply pu_test | with_reducible apply pu_b
    | with_reducible apply pu_andV | with_reducible apply pu_orV | with_reducible apply pu_notV | with_reducible apply pu_if
    | with_reducible apply pu_isi hC | with_reducible apply pu_cb (hr := pu_len) | with_reducible apply pu_cb (hr := pu_all) | with_reducible apply pu_cb (hr := pu_any) | with_reducible apply pu_cb (hr := pu_tupOf) | with_reducible apply pu_cb (hr := pu_lstOf)
    | with_reducible apply pu_isC hC oG bG
    | with_reducible apply pu_isLT hC
    | with_reducible apply pu_cb (hr := pu_rep1)
    | with_reducible apply pu_cb (hr := pu_sortM)
    | with_reducible apply pu_join
    | with_reducible apply pu_dget
    | with_reducible apply pu_iSeq
    | with_reducible apply pu_op (hr := pu_addS)
    | with_reducible apply pu_op (hr := pu_ixT) | with_reducible apply pu_op (hr := pu_ixL) | with_reducible apply pu_op (hr := pu_eqS) | with_reducible apply pu_op (hr := pu_neS) | with_reducible apply pu_op (hr := pu_in) | with_reducible apply pu_op (hr := pu_isNo) | with_reducible apply pu_op (hr := pu_notNo)
    | with_reducible apply pu_op (hr := pu_cm) | with_reducible apply pu_op (hr := pu_ar) | with_reducible apply pu_op (hr := pu_eqP) | with_reducible apply pu_op (hr := pu_neP) | with_reducible apply pu_op (hr := pu_catT) | with_reducible apply pu_op (hr := pu_catL)
    | with_reducible apply pu_chain pu_cm pu_cm | with_reducible apply pu_lcV | with_reducible apply pu_dcV | with_reducible apply pu_iTup | with_reducible apply pu_iLst
    | with_reducible apply pu_slT | with_reducible apply pu_slL | with_reducible exact pu_noPart | with_reducible exact pu_part _
    | exact pu_str _ ⟨by decide +kernel, by decide +kernel⟩ | with_reducible apply pu_call | with_reducible apply pu_tup | with_reducible apply pu_lst | with_reducible apply pu_cons | (with_reducible_and_instances rfl) | rfl)
  case hF =>
    intro ds d e
    obtain ⟨x, rfl, e⟩ := txF_eq e
    cases x with
    | map ks ds =>
      have e : (((sortM [.map ks ds]).bind fun z => (unL z).bind fun l => mapO (fun x => (rep1E [x]).bind fun a => ((getM (.map ks ds) x).bind (txG L.CG n)).bind fun b => addS a b) l).bind fun r => joinE (.str ",") (.lst r)).bind (fun t => (addS (.str "map(") t).bind fun u => addS u (.str ")")) = some d := e
      obtain ⟨t, e1, e2⟩ := Option.bind_eq_some_iff.mp e
      obtain ⟨r, e3, e4⟩ := Option.bind_eq_some_iff.mp e1
      obtain ⟨z, e5, e6⟩ := Option.bind_eq_some_iff.mp e3
      obtain ⟨l, e7, e8⟩ := Option.bind_eq_some_iff.mp e6
      obtain ⟨u, e9, e10⟩ := Option.bind_eq_some_iff.mp e2
      refine bnd (.inl d) (ET.bT rfl (mp d (bnd u (bnd (E.str "map(") rfl (bnd t (bnd (E.str ",") rfl (bnd (E.lst r) (bnd l (bnd z (bnd [E.map ks ds] rfl e5) e7) (mp r ((lcE_mapO fun x hx => ?_).trans e8))) e4)) e9)) (bnd (E.str ")") rfl e10)))) rfl
      show ((rep1E [x]).bind fun a => (((getM (.map ks ds) x).bind fun y => some [y]).bind (txF L.CG n)).bind fun b => addS a b) = _
      cases getM (.map ks ds) x <;> rfl
    | lst l =>
      have e : (((seqE (.lst l)).bind (mapO (txG L.CG n))).bind fun r => joinE (.str ",") (.lst r)).bind (fun t => (addS (.str "list(") t).bind fun u => addS u (.str ")")) = some d := e
      obtain ⟨t, e1, e2⟩ := Option.bind_eq_some_iff.mp e
      obtain ⟨r, e3, e4⟩ := Option.bind_eq_some_iff.mp e1
      obtain ⟨l', e5, e6⟩ := Option.bind_eq_some_iff.mp e3
      obtain ⟨u, e9, e10⟩ := Option.bind_eq_some_iff.mp e2
      refine bnd (.inr _) (bF rfl rfl) (bnd (.inl d) (ET.bT rfl (bnd (.inr _) rfl (mp d (bnd u (bnd (E.str "list(") rfl (bnd t (bnd (E.str ",") rfl (bnd (E.lst r) (bnd l' e5 (mp r ((lcE_mapO fun x hx => ?_).trans e6))) e4)) e9)) (bnd (E.str ")") rfl e10))))) rfl)
      rfl
    | tup l =>
      have e : (((seqE (.tup l)).bind (mapO (txG L.CG n))).bind fun r => joinE (.str ",") (.lst r)).bind (fun t => (addS (.str "tuple(") t).bind fun u => addS u (.str ")")) = some d := e
      obtain ⟨t, e1, e2⟩ := Option.bind_eq_some_iff.mp e
      obtain ⟨r, e3, e4⟩ := Option.bind_eq_some_iff.mp e1
      obtain ⟨l', e5, e6⟩ := Option.bind_eq_some_iff.mp e3
      obtain ⟨u, e9, e10⟩ := Option.bind_eq_some_iff.mp e2
      refine bnd (.inr _) (bF rfl rfl) (bnd (.inl d) (ET.bT rfl (bnd (.inr _) rfl (mp d (bnd u (bnd (E.str "tuple(") rfl (bnd t (bnd (E.str ",") rfl (bnd (E.lst r) (bnd l' e5 (mp r ((lcE_mapO fun x hx => ?_).trans e6))) e4)) e9)) (bnd (E.str ")") rfl e10))))) rfl)
      rfl
    | ins C ns l =>
      have e : (if C = L.CG then some (E.str "config") else none) = some d := e
      by_cases hc : C = L.CG
      case neg =>
        rw [if_neg hc] at e
        cases e
      rw [if_pos hc] at e
      cases e
      subst hc
      have hG : L.CG ∈ CS := by rw [hCS]; exact List.mem_cons_of_mem _ (List.mem_cons_of_mem _ (List.mem_cons_of_mem _ (List.mem_cons_of_mem _ List.mem_cons_self)))
      have e1 : isT CS "dict" (.ins L.CG ns l) = some (.bl false) := if_pos hG
      have e2 : isLT CS (.ins L.CG ns l) = some (.bl false) := if_pos hG
      have e3 : isC CS sbG (.ins L.CG ns l) = some (.bl true) := (if_pos hG).trans (by rw [sG])
      exact bnd (.inr _) (bF (bnd (E.bl false) (bnd _ rfl e1) rfl) rfl) (bnd (.inr _) (bF (bnd (E.bl false) (bnd _ rfl e2) rfl) rfl) (mp (E.str "config") (ET.bT (bnd (E.bl true) (bnd _ rfl e3) rfl) rfl)))
    | _ => exact bnd (.inr _) (bF rfl rfl) (bnd (.inr _) (bF rfl rfl) (mp d (bF rfl (bnd _ rfl e))))
end
end K15

namespace K15
open PySem L2 XR VT ET
variable [KC]
abbrev sBl : Stmt := top 53
abbrev sMd : Stmt := top 55
section
variable {t tk : TA} {fl fk : FA} {n m : Nat} {C : Addr} {E0 : XK}
theorem made_same {H : Hp} {x dx : Addr} {o o' : HO} (hx : H x = none) (hdx : H dx = none) : Same H (upd (upd H dx o) x o') := fun b u e => by rw [upd_ne (ne_of_none e hx), upd_ne (ne_of_none e hdx)]; exact e
/-- a new object of a class that stores what it is given -/
def insD (C : Addr) (ns : List Str) (n m : Nat) (l1 l2 : List E) : Option E := if l1.length = n ∧ l2.length = m ∧ ns.length = n + m ∧ n + m ≤ 900 then some (.ins C ns (l1 ++ l2)) else none
theorem pu_makeK {ns : List Str} (p1 : PuA t fl) (p2 : PuA tk fk) : PuE (tMakeK C n m (spInit C ns) (fun vs zs => vs ++ zs) E0 t tk) (fun env => (fl env).bind fun l1 => (fk env).bind fun l2 => insD C ns n m l1 l2) := fun P σ H env c Q he hf e k => by
  obtain ⟨l1, e1, e'⟩ := Option.bind_eq_some_iff.mp e
  obtain ⟨l2, e2, e3⟩ := Option.bind_eq_some_iff.mp e'
  unfold insD at e3
  split at e3
  case isFalse => cases e3
  rename_i hh
  obtain ⟨h1, h2, h3, h4⟩ := hh
  cases e3
  refine p1 P σ H env l1 _ he hf e1 fun vs H1 m1 r1 => p2 P σ H1 env l2 _ (he.keepS m1) (hf.same m1) e2 fun zs H2 m2 r2 => ⟨r1.length.trans h1, r2.length.trans h2, fun x dx hx hdx ne => ?_⟩
  have mG := made_same (o := .own x) (o' := .ins C dx []) hx hdx
  have rr := (r1.mono (keep_same m2)).app r2
  refine ⟨x, dx, vs ++ zs, rfl, by rw [List.length_append, r1.length, r2.length, h1, h2, h3], upd_same, fun H3 B3 h3' => ⟨rfl, ?_⟩⟩
  have m3 : Same H2 H3 := fun b o e => B3 b o (mG b o e) (ne_of_none e hx)
  have px : P x := (hf.same (m1.trans m2)) x hx
  refine k (.ref x) H3 (m1.trans (m2.trans m3)) ?_
  have r3 := rr.mono (keep_same (P := P) m3)
  exact .ins (by rw [keep_at px]; exact h3') (by rw [r3.length]) (by rw [List.length_append, h1, h2, h3]) (by rw [List.length_append, h1, h2]; exact h4) fun i v d a b => r3.get i v d a b
theorem pu_make1 {ns : List Str} (p1 : PuA t fl) : PuE (tMake C (spInit C ns) [] E0 t) (fun env => (fl env).bind fun l1 => insD C ns ns.length 0 l1 []) := fun P σ H env c Q he hf e k => by
  obtain ⟨l1, e1, e3⟩ := Option.bind_eq_some_iff.mp e
  unfold insD at e3
  split at e3
  case isFalse => cases e3
  rename_i hh
  obtain ⟨h1, h2, h3, h4⟩ := hh
  cases e3
  refine p1 P σ H env l1 _ he hf e1 fun vs H2 m2 r1 => fun x dx hx hdx ne => ?_
  have mG := made_same (o := .own x) (o' := .ins C dx []) hx hdx
  refine ⟨x, dx, vs ++ [], rfl, by rw [List.append_nil, r1.length, h1], upd_same, fun H3 B3 h3' => ⟨rfl, ?_⟩⟩
  have m3 : Same H2 H3 := fun b o e => B3 b o (mG b o e) (ne_of_none e hx)
  have px : P x := (hf.same m2) x hx
  refine k (.ref x) H3 (m2.trans m3) ?_
  have r3 := r1.mono (keep_same (P := P) m3)
  rw [List.append_nil] at h3' ⊢
  exact .ins (by rw [keep_at px]; exact h3') (by rw [r3.length]) (by rw [h1]) (by rw [h1]; exact h4) fun i v d a b => r3.get i v d a b
end
def blF (L : CL) : List E → Option E
  | [.lst l] => if 10 ≤ l.length then some (.ins L.CB flB (l.take 10)) else none
  | _ => none
theorem blF_len {L : CL} (ds : List E) (d : E) (h : blF L ds = some d) : ds.length = 1 := by
  unfold blF at h
  split at h
  · rfl
  · cases h
def mdF (L : CL) : List E → Option E
  | [.int w, .lst l] => if 10 ≤ l.length ∧ w = 0 then some (.ins L.CB flB (l.take 10)) else if 4 ≤ l.length ∧ w = 1 then some (.ins L.CR flR (l.take 4)) else if 4 ≤ l.length ∧ w = 2 then some (.ins L.CC flC (l.take 4)) else if 2 ≤ l.length ∧ w = 3 then some (.ins L.CM flM (l.take 2)) else none
  | _ => none
theorem mdF_len {L : CL} (ds : List E) (d : E) (h : mdF L ds = some d) : ds.length = 2 := by
  unfold mdF at h
  split at h
  · rfl
  · cases h
theorem take10 {l : List E} (h : 10 ≤ l.length) : ∃ a0 a1 a2 a3 a4 a5 a6 a7 a8 a9 r, l = a0 :: a1 :: a2 :: a3 :: a4 :: a5 :: a6 :: a7 :: a8 :: a9 :: r := by
  match l, h with
  | a0 :: a1 :: a2 :: a3 :: a4 :: a5 :: a6 :: a7 :: a8 :: a9 :: r, _ => exact ⟨_, _, _, _, _, _, _, _, _, _, _, rfl⟩
theorem take4 {l : List E} (h : 4 ≤ l.length) : ∃ a0 a1 a2 a3 r, l = a0 :: a1 :: a2 :: a3 :: r := by
  match l, h with
  | a0 :: a1 :: a2 :: a3 :: r, _ => exact ⟨_, _, _, _, _, rfl⟩
theorem take2 {l : List E} (h : 2 ≤ l.length) : ∃ a0 a1 r, l = a0 :: a1 :: r := by
  match l, h with
  | a0 :: a1 :: r, _ => exact ⟨_, _, _, rfl⟩
theorem eqI {a b : Int} : ((some (E.int a)).bind fun x => (some (E.int b)).bind fun y => eqS x y) = some (.bl (decide (a = b))) := rfl
section
variable {P : Program} {w : World} {K : PySem.W.Frag} {mg : Str → Option Value} {base : Heap} [KcOk K]
variable {CS : List Addr}
theorem scBl : FnScope ["_law_p"] ["_law_p"] (defScope sBl) := ⟨rfl, rfl, rfl, by decide +kernel, rfl, by decide +kernel, by decide +kernel⟩
theorem ok_bl {L : CL} {f fIB : Addr} {fd dIB : FuncData} (F : Fun K "_law_block" "_law_block" sBl f fd) (MB : Mk K L.CB fIB) (gB : mg "Block" = some (.ref L.CB)) (GIB : FnOk P w K mg base CX0 1 fIB dIB ["self", "kind", "name", "attributes", "many", "after", "first", "never", "ignored", "replaced_by", "ahead"] (spInit L.CB flB)) (bB : KBn K dIB ["self", "kind", "name", "attributes", "many", "after", "first", "never", "ignored", "replaced_by", "ahead"] 4 ["many", "after", "first", "never", "ignored", "replaced_by", "ahead"] (fun us ws => us ++ ws) (fun vs zs => vs ++ zs)) : FnOk P w K mg base CX0 3 f fd ["_law_p"] (spP (blF L)) := by
  refine F.ok scBl (fun vs H Q E0 h => spP_len blF_len h) (fun cdv A outer s H vs Q E0 hr h => ?_)
  have hrM : Room 2 _ := hr
  have hC : ∀ C ∈ ([] : List Addr), CF K C := fun C h => by cases h
  refine ⟨_, (pss_one (ps_ret (pe_makeK MB GIB hrM rfl gB bB pass0 (pa_cons (pe_ix (ix_lstK (K := K) rfl) (pv 0) pe_int (fun _ _ => rfl)) (pa_cons (pe_ix (ix_lstK (K := K) rfl) (pv 0) pe_int (fun _ _ => rfl)) (pa_cons (pe_ix (ix_lstK (K := K) rfl) (pv 0) pe_int (fun _ _ => rfl)) pa_nil))) (pk_cons (pe_ix (ix_lstK (K := K) rfl) (pv 0) pe_int (fun _ _ => rfl)) (pk_cons (pe_ix (ix_lstK (K := K) rfl) (pv 0) pe_int (fun _ _ => rfl)) (pk_cons (pe_ix (ix_lstK (K := K) rfl) (pv 0) pe_int (fun _ _ => rfl)) (pk_cons (pe_ix (ix_lstK (K := K) rfl) (pv 0) pe_int (fun _ _ => rfl)) (pk_cons (pe_ix (ix_lstK (K := K) rfl) (pv 0) pe_int (fun _ _ => rfl)) (pk_cons (pe_ix (ix_lstK (K := K) rfl) (pv 0) pe_int (fun _ _ => rfl)) (pk_cons (pe_ix (ix_lstK (K := K) rfl) (pv 0) pe_int (fun _ _ => rfl)) pk_nil)))))))))), ?_⟩
  apply pu_def (N := ["_law_p"]) (h := h)
  case pu => (repeat' first
    | with_reducible exact pu_var _ | with_reducible exact pu_non | with_reducible exact pu_bl _ | with_reducible exact pu_int _ | with_reducible exact pu_nil | with_reducible exact pu_next | with_reducible exact pu_yes
    | with_reducible apply pu_seq | with_reducible apply pu_ifS | with_reducible apply pu_ret | with_reducible apply pu_asg
    | with_reducible apply pu_and | with_reducible apply pu_or | with_reducible apply pu_not | with_reducible apply pu_test | with_reducible apply pu_b
    | with_reducible apply pu_andV | with_reducible apply pu_orV | with_reducible apply pu_notV | with_reducible apply pu_if
    | with_reducible apply pu_isi hC | with_reducible apply pu_cb (hr := pu_len) | with_reducible apply pu_cb (hr := pu_all) | with_reducible apply pu_cb (hr := pu_any) | with_reducible apply pu_cb (hr := pu_tupOf) | with_reducible apply pu_cb (hr := pu_lstOf)
    | with_reducible apply pu_makeK
    | with_reducible apply pu_make1
    | with_reducible apply pu_op (hr := pu_ixT) | with_reducible apply pu_op (hr := pu_ixL) | with_reducible apply pu_op (hr := pu_eqS) | with_reducible apply pu_op (hr := pu_neS) | with_reducible apply pu_op (hr := pu_in) | with_reducible apply pu_op (hr := pu_isNo) | with_reducible apply pu_op (hr := pu_notNo)
    | with_reducible apply pu_op (hr := pu_cm) | with_reducible apply pu_op (hr := pu_ar) | with_reducible apply pu_op (hr := pu_eqP) | with_reducible apply pu_op (hr := pu_neP) | with_reducible apply pu_op (hr := pu_catT) | with_reducible apply pu_op (hr := pu_catL)
    | with_reducible apply pu_chain pu_cm pu_cm | with_reducible apply pu_lcV | with_reducible apply pu_dcV | with_reducible apply pu_iTup | with_reducible apply pu_iLst
    | with_reducible apply pu_slT | with_reducible apply pu_slL | with_reducible exact pu_noPart | with_reducible exact pu_part _
    | exact pu_str _ ⟨by decide +kernel, by decide +kernel⟩ | with_reducible apply pu_call | with_reducible apply pu_tup | with_reducible apply pu_lst | with_reducible apply pu_cons | (with_reducible_and_instances rfl) | rfl)
  case hF =>
    intro ds d e
    unfold blF at e
    split at e
    case h_2 => cases e
    rename_i l
    by_cases hl : 10 ≤ l.length
    case neg => rw [if_neg hl] at e; cases e
    rw [if_pos hl] at e
    cases e
    obtain ⟨a0, a1, a2, a3, a4, a5, a6, a7, a8, a9, r, rfl⟩ := take10 hl
    refine mp (E.ins L.CB flB [a0, a1, a2, a3, a4, a5, a6, a7, a8, a9]) (bnd ([a0, a1, a2] : List E) (bnd a0 (bnd _ rfl (bnd _ rfl (ixL_at (a := 0) rfl))) (mp ([a1, a2] : List E) (bnd a1 (bnd _ rfl (bnd _ rfl (ixL_at (a := 1) rfl))) (mp ([a2] : List E) (bnd a2 (bnd _ rfl (bnd _ rfl (ixL_at (a := 2) rfl))) (mp ([] : List E) rfl)))))) (bnd ([a3, a4, a5, a6, a7, a8, a9] : List E) (bnd a3 (bnd _ rfl (bnd _ rfl (ixL_at (a := 3) rfl))) (mp ([a4, a5, a6, a7, a8, a9] : List E) (bnd a4 (bnd _ rfl (bnd _ rfl (ixL_at (a := 4) rfl))) (mp ([a5, a6, a7, a8, a9] : List E) (bnd a5 (bnd _ rfl (bnd _ rfl (ixL_at (a := 5) rfl))) (mp ([a6, a7, a8, a9] : List E) (bnd a6 (bnd _ rfl (bnd _ rfl (ixL_at (a := 6) rfl))) (mp ([a7, a8, a9] : List E) (bnd a7 (bnd _ rfl (bnd _ rfl (ixL_at (a := 7) rfl))) (mp ([a8, a9] : List E) (bnd a8 (bnd _ rfl (bnd _ rfl (ixL_at (a := 8) rfl))) (mp ([a9] : List E) (bnd a9 (bnd _ rfl (bnd _ rfl (ixL_at (a := 9) rfl))) (mp ([] : List E) rfl)))))))))))))) ?_))
    exact if_pos ⟨rfl, rfl, rfl, by decide⟩
theorem scMd : FnScope ["_law_way", "_law_p"] ["_law_way", "_law_p"] (defScope sMd) := ⟨rfl, rfl, rfl, by decide +kernel, rfl, by decide +kernel, by decide +kernel⟩
theorem ok_md {L : CL} {f fW fIR fIC fIM : Addr} {fd dW dIR dIC dIM : FuncData} (F : Fun K "_law_made" "_law_made" sMd f fd)
    (gW : mg "_law_block" = some (.ref fW)) (kW : PySem.W.keepIn K (.ref fW) = true) (bW : Binds K dW ["_law_p"] []) (GW : FnOk P w K mg base CX0 3 fW dW ["_law_p"] (spP (blF L)))
    (MR : Mk K L.CR fIR) (gR : mg "Reading" = some (.ref L.CR)) (GIR : FnOk P w K mg base CX0 1 fIR dIR ["self", "kind", "name", "question", "after"] (spInit L.CR flR)) (bR : KBn K dIR ["self", "kind", "name", "question", "after"] 4 ["after"] (fun us ws => us ++ ws) (fun vs zs => vs ++ zs))
    (MC : Mk K L.CC fIC) (gC : mg "Call" = some (.ref L.CC)) (GIC : FnOk P w K mg base CX0 1 fIC dIC ["self", "name", "config", "arguments", "after"] (spInit L.CC flC)) (bC : KBn K dIC ["self", "name", "config", "arguments", "after"] 4 ["after"] (fun us ws => us ++ ws) (fun vs zs => vs ++ zs))
    (MM : Mk K L.CM fIM) (gM : mg "Move" = some (.ref L.CM)) (GIM : FnOk P w K mg base CX0 1 fIM dIM ["self", "old", "new"] (spInit L.CM flM)) (bIM : Binds K dIM ["self", "old", "new"] []) : FnOk P w K mg base CX0 4 f fd ["_law_way", "_law_p"] (spP (mdF L)) := by
  refine F.ok scMd (fun vs H Q E0 h => spP_len mdF_len h) (fun cdv A outer s H vs Q E0 hr h => ?_)
  have hr2 : Room 3 _ := hr
  have hrM : Room 2 _ := hr2.mono (by decide)
  have hC : ∀ C ∈ ([] : List Addr), CF K C := fun C h => by cases h
  refine ⟨_, (pss_cons (ps_if (pt_cmpR op_eq (pv 0) pe_int (nomark _)) (pss_one (ps_ret (pe_call GW hr2 rfl gW kW bW .nil pass0 (pa_cons (pv 1) pa_nil)))) pss_nil)
      (pss_cons (ps_if (pt_cmpR op_eq (pv 0) pe_int (nomark _)) (pss_one (ps_ret (pe_makeK MR GIR hrM rfl gR bR pass0 (pa_cons (pe_ix (ix_lstK (K := K) rfl) (pv 1) pe_int (fun _ _ => rfl)) (pa_cons (pe_ix (ix_lstK (K := K) rfl) (pv 1) pe_int (fun _ _ => rfl)) (pa_cons (pe_ix (ix_lstK (K := K) rfl) (pv 1) pe_int (fun _ _ => rfl)) pa_nil))) (pk_cons (pe_ix (ix_lstK (K := K) rfl) (pv 1) pe_int (fun _ _ => rfl)) pk_nil)))) pss_nil)
      (pss_one (ps_ret (pe_ifExp (pt_cmpR op_eq (pv 0) pe_int (nomark _)) (pe_makeK MC GIC hrM rfl gC bC pass0 (pa_cons (pe_ix (ix_lstK (K := K) rfl) (pv 1) pe_int (fun _ _ => rfl)) (pa_cons (pe_ix (ix_lstK (K := K) rfl) (pv 1) pe_int (fun _ _ => rfl)) (pa_cons (pe_ix (ix_lstK (K := K) rfl) (pv 1) pe_int (fun _ _ => rfl)) pa_nil))) (pk_cons (pe_ix (ix_lstK (K := K) rfl) (pv 1) pe_int (fun _ _ => rfl)) pk_nil)) (pe_make MM GIM hrM rfl gM bIM .nil pass0 (pa_cons (pe_ix (ix_lstK (K := K) rfl) (pv 1) pe_int (fun _ _ => rfl)) (pa_cons (pe_ix (ix_lstK (K := K) rfl) (pv 1) pe_int (fun _ _ => rfl)) pa_nil)))))))), ?_⟩
  apply pu_def (N := ["_law_way", "_law_p"]) (h := h)
  case pu => (repeat' first
    | with_reducible exact pu_var _ | with_reducible exact pu_non | with_reducible exact pu_bl _ | with_reducible exact pu_int _ | with_reducible exact pu_nil | with_reducible exact pu_next | with_reducible exact pu_yes
    | with_reducible apply pu_seq | with_reducible apply pu_ifS | with_reducible apply pu_ret | with_reducible apply pu_asg
    | with_reducible apply pu_and | with_reducible apply pu_or | with_reducible apply pu_not | with_reducible apply pu_test | with_reducible apply pu_b
    | with_reducible apply pu_andV | with_reducible apply pu_orV | with_reducible apply pu_notV | with_reducible apply pu_if
    | with_reducible apply pu_isi hC | with_reducible apply pu_cb (hr := pu_len) | with_reducible apply pu_cb (hr := pu_all) | with_reducible apply pu_cb (hr := pu_any) | with_reducible apply pu_cb (hr := pu_tupOf) | with_reducible apply pu_cb (hr := pu_lstOf)
    | with_reducible apply pu_makeK
    | with_reducible apply pu_make1
    | with_reducible apply pu_op (hr := pu_ixT) | with_reducible apply pu_op (hr := pu_ixL) | with_reducible apply pu_op (hr := pu_eqS) | with_reducible apply pu_op (hr := pu_neS) | with_reducible apply pu_op (hr := pu_in) | with_reducible apply pu_op (hr := pu_isNo) | with_reducible apply pu_op (hr := pu_notNo)
    | with_reducible apply pu_op (hr := pu_cm) | with_reducible apply pu_op (hr := pu_ar) | with_reducible apply pu_op (hr := pu_eqP) | with_reducible apply pu_op (hr := pu_neP) | with_reducible apply pu_op (hr := pu_catT) | with_reducible apply pu_op (hr := pu_catL)
    | with_reducible apply pu_chain pu_cm pu_cm | with_reducible apply pu_lcV | with_reducible apply pu_dcV | with_reducible apply pu_iTup | with_reducible apply pu_iLst
    | with_reducible apply pu_slT | with_reducible apply pu_slL | with_reducible exact pu_noPart | with_reducible exact pu_part _
    | exact pu_str _ ⟨by decide +kernel, by decide +kernel⟩ | with_reducible apply pu_call | with_reducible apply pu_tup | with_reducible apply pu_lst | with_reducible apply pu_cons | (with_reducible_and_instances rfl) | rfl)
  case hF =>
    intro ds d e
    unfold mdF at e
    split at e
    case h_2 => cases e
    rename_i wy l
    split at e
    · rename_i hh
      obtain ⟨hl, rfl⟩ := hh
      cases e
      exact bnd (.inl _) (bT (bnd (E.bl true) eqI rfl) (mp _ (bnd ([E.lst l] : List E) rfl (if_pos hl)))) rfl
    split at e
    · rename_i hh
      obtain ⟨hl, rfl⟩ := hh
      cases e
      obtain ⟨a0, a1, a2, a3, r, rfl⟩ := take4 hl
      refine bnd (.inr _) (bF (bnd (E.bl false) eqI rfl) rfl) (bnd (.inl _) (bT (bnd (E.bl true) eqI rfl) (mp (E.ins L.CR flR [a0, a1, a2, a3]) (bnd ([a0, a1, a2] : List E) (bnd a0 (bnd _ rfl (bnd _ rfl (ixL_at (a := 0) rfl))) (mp ([a1, a2] : List E) (bnd a1 (bnd _ rfl (bnd _ rfl (ixL_at (a := 1) rfl))) (mp ([a2] : List E) (bnd a2 (bnd _ rfl (bnd _ rfl (ixL_at (a := 2) rfl))) (mp ([] : List E) rfl)))))) (bnd ([a3] : List E) (bnd a3 (bnd _ rfl (bnd _ rfl (ixL_at (a := 3) rfl))) (mp ([] : List E) rfl)) ?_)))) rfl)
      exact if_pos ⟨rfl, rfl, rfl, by decide⟩
    split at e
    · rename_i hh
      obtain ⟨hl, rfl⟩ := hh
      cases e
      obtain ⟨a0, a1, a2, a3, r, rfl⟩ := take4 hl
      refine bnd (.inr _) (bF (bnd (E.bl false) eqI rfl) rfl) (bnd (.inr _) (bF (bnd (E.bl false) eqI rfl) rfl) (mp (E.ins L.CC flC [a0, a1, a2, a3]) (bT (bnd (E.bl true) eqI rfl) (bnd ([a0, a1, a2] : List E) (bnd a0 (bnd _ rfl (bnd _ rfl (ixL_at (a := 0) rfl))) (mp ([a1, a2] : List E) (bnd a1 (bnd _ rfl (bnd _ rfl (ixL_at (a := 1) rfl))) (mp ([a2] : List E) (bnd a2 (bnd _ rfl (bnd _ rfl (ixL_at (a := 2) rfl))) (mp ([] : List E) rfl)))))) (bnd ([a3] : List E) (bnd a3 (bnd _ rfl (bnd _ rfl (ixL_at (a := 3) rfl))) (mp ([] : List E) rfl)) ?_)))))
      exact if_pos ⟨rfl, rfl, rfl, by decide⟩
    split at e
    · rename_i hh
      obtain ⟨hl, rfl⟩ := hh
      cases e
      obtain ⟨a0, a1, r, rfl⟩ := take2 hl
      refine bnd (.inr _) (bF (bnd (E.bl false) eqI rfl) rfl) (bnd (.inr _) (bF (bnd (E.bl false) eqI rfl) rfl) (mp (E.ins L.CM flM [a0, a1]) (bF (bnd (E.bl false) eqI rfl) (bnd ([a0, a1] : List E) (bnd a0 (bnd _ rfl (bnd _ rfl (ixL_at (a := 0) rfl))) (mp ([a1] : List E) (bnd a1 (bnd _ rfl (bnd _ rfl (ixL_at (a := 1) rfl))) (mp ([] : List E) rfl)))) ?_))))
      exact if_pos ⟨rfl, rfl, rfl, by decide⟩
    cases e
end
end K15

namespace K15
open PySem L2 XR VT ET
variable [KC]
abbrev sKe : Stmt := top 54
/-- the classes are five -/
structure CLok (L : CL) : Prop where
  rb : L.CR ≠ L.CB
  cb : L.CC ≠ L.CB
  cr : L.CC ≠ L.CR
  mb : L.CM ≠ L.CB
  mr : L.CM ≠ L.CR
  mc : L.CM ≠ L.CC
  gb : L.CG ≠ L.CB
  gr : L.CG ≠ L.CR
  gc : L.CG ≠ L.CC
  gm : L.CG ≠ L.CM
theorem inB {L : CL} : L.CB ∈ L.all := List.mem_cons_self
theorem inR {L : CL} : L.CR ∈ L.all := List.mem_cons_of_mem _ List.mem_cons_self
theorem inC {L : CL} : L.CC ∈ L.all := List.mem_cons_of_mem _ (List.mem_cons_of_mem _ List.mem_cons_self)
theorem inM {L : CL} : L.CM ∈ L.all := List.mem_cons_of_mem _ (List.mem_cons_of_mem _ (List.mem_cons_of_mem _ List.mem_cons_self))
theorem inG {L : CL} : L.CG ∈ L.all := List.mem_cons_of_mem _ (List.mem_cons_of_mem _ (List.mem_cons_of_mem _ (List.mem_cons_of_mem _ List.mem_cons_self)))
section
variable {L : CL} (D : CLok L)
include D
theorem flB_ : L.fl L.CB = flB := if_pos rfl
theorem flR_ : L.fl L.CR = flR := (if_neg D.rb).trans (if_pos rfl)
theorem flC_ : L.fl L.CC = flC := (if_neg D.cb).trans ((if_neg D.cr).trans (if_pos rfl))
theorem flM_ : L.fl L.CM = flM := (if_neg D.mb).trans ((if_neg D.mr).trans ((if_neg D.mc).trans (if_pos rfl)))
theorem flG_ : L.fl L.CG = flG := (if_neg D.gb).trans ((if_neg D.gr).trans ((if_neg D.gc).trans (if_neg D.gm)))
theorem nmB_ : L.nm L.CB = "Block" := if_pos rfl
theorem nmR_ : L.nm L.CR = "Reading" := (if_neg D.rb).trans (if_pos rfl)
theorem nmC_ : L.nm L.CC = "Call" := (if_neg D.cb).trans ((if_neg D.cr).trans (if_pos rfl))
theorem nmM_ : L.nm L.CM = "Move" := (if_neg D.mb).trans ((if_neg D.mr).trans ((if_neg D.mc).trans (if_pos rfl)))
theorem nmG_ : L.nm L.CG = "Config" := (if_neg D.gb).trans ((if_neg D.gr).trans ((if_neg D.gc).trans (if_neg D.gm)))
end
/-- what isinstance(x, C0) says -/
structure IsC (K : PySem.W.Frag) (L : CL) (C0 : Addr) (sb : Addr → Bool) : Prop where
  own : ∀ C ∈ L.all, PySem.W.kitOne K (.ref C) (.ref C0) = some (sb C)
  bas : ∀ t ∈ ["NoneType", "bool", "int", "str", "tuple", "dict", "list"], PySem.W.kitOne K (.type t) (.ref C0) = some false
  is : ∀ C, sb C = decide (C = C0)
theorem IsC.yes {K : PySem.W.Frag} {L : CL} {C0 : Addr} {sb : Addr → Bool} (h : IsC K L C0 sb) (hm : C0 ∈ L.all) {ns : List Str} {l : List E} : isC L.all sb (.ins C0 ns l) = some (.bl true) := (if_pos hm).trans (by rw [h.is, decide_eq_true rfl])
theorem IsC.not {K : PySem.W.Frag} {L : CL} {C0 C : Addr} {sb : Addr → Bool} (h : IsC K L C0 sb) (hm : C ∈ L.all) (ne : C ≠ C0) {ns : List Str} {l : List E} : isC L.all sb (.ins C ns l) = some (.bl false) := (if_pos hm).trans (by rw [h.is, decide_eq_false ne])
/-- an instance of a class other than Config, as it is made -/
def wfI (L : CL) : E → Bool
  | .ins C ns l => (decide (C = L.CB) && decide (ns = flB) && decide (l.length = 10)) || (decide (C = L.CR) && decide (ns = flR) && decide (l.length = 4)) || (decide (C = L.CC) && decide (ns = flC) && decide (l.length = 4)) || (decide (C = L.CM) && decide (ns = flM) && decide (l.length = 2))
  | _ => false
theorem wfI_eq {L : CL} {d : E} (h : wfI L d = true) : (∃ l, d = .ins L.CB flB l ∧ l.length = 10) ∨ (∃ l, d = .ins L.CR flR l ∧ l.length = 4) ∨ (∃ l, d = .ins L.CC flC l ∧ l.length = 4) ∨ ∃ l, d = .ins L.CM flM l ∧ l.length = 2 := by
  cases d with
  | ins C ns l =>
    have h9 : ((decide (C = L.CB) && decide (ns = flB) && decide (l.length = 10)) || (decide (C = L.CR) && decide (ns = flR) && decide (l.length = 4)) || (decide (C = L.CC) && decide (ns = flC) && decide (l.length = 4)) || (decide (C = L.CM) && decide (ns = flM) && decide (l.length = 2))) = true := h
    simp only [Bool.or_eq_true, Bool.and_eq_true, decide_eq_true_eq] at h9
    clear h
    rcases h9 with ((⟨⟨rfl, rfl⟩, h⟩ | ⟨⟨rfl, rfl⟩, h⟩) | ⟨⟨rfl, rfl⟩, h⟩) | ⟨⟨rfl, rfl⟩, h⟩
    · exact .inl ⟨l, rfl, h⟩
    · exact .inr (.inl ⟨l, rfl, h⟩)
    · exact .inr (.inr (.inl ⟨l, rfl, h⟩))
    · exact .inr (.inr (.inr ⟨l, rfl, h⟩))
  | _ => cases h
def keF (L : CL) (n : Nat) : List E → Option E
  | [.ins C ns l, .lst m] => if wfI L (.ins C ns l) = true then (txG L.CG n (.lst l)).bind fun a => (txG L.CG n (.lst m)).bind fun b => eqS a b else none
  | _ => none
theorem keF_len {L : CL} {n : Nat} (ds : List E) (d : E) (h : keF L n ds = some d) : ds.length = 2 := by
  unfold keF at h
  split at h
  · rfl
  · cases h
section
variable {P : Program} {w : World} {K : PySem.W.Frag} {mg : Str → Option Value} {base : Heap} [KcOk K]
theorem scKe : FnScope ["_law_one_here", "_law_some", "_law_told"] ["_law_one_here", "_law_some"] (defScope sKe) := ⟨rfl, rfl, rfl, by decide +kernel, rfl, by decide +kernel, by decide +kernel⟩
theorem ok_ke {L : CL} {f fT : Addr} {fd dT : FuncData} {n k : Nat} {sB sR sC : Addr → Bool} (F : Fun K "_law_kept" "_law_kept" sKe f fd) (T : Txt mg) (hC : ∀ C ∈ L.all, CF K C) (D : CLok L) (iB : IsC K L L.CB sB) (iR : IsC K L L.CR sR) (iC : IsC K L L.CC sC)
    (gB : mg "Block" = some (.ref L.CB)) (gR : mg "Reading" = some (.ref L.CR)) (gC : mg "Call" = some (.ref L.CC)) (clB : Cls K L.CB) (clR : Cls K L.CR) (clC : Cls K L.CC) (clM : Cls K L.CM)
    (nB : ∀ x ∈ flB, NoAttr K L.CB x) (nR : ∀ x ∈ flR, NoAttr K L.CR x) (nC : ∀ x ∈ flC, NoAttr K L.CC x) (nM : ∀ x ∈ flM, NoAttr K L.CM x)
    (gT : mg "_law_sorted_text" = some (.ref fT)) (kT : PySem.W.keepIn K (.ref fT) = true) (bT0 : Binds K dT ["_law_thing"] []) (GT : FnOk P w K mg base CX0 k fT dT ["_law_thing"] (spP (txF L.CG n))) : FnOk P w K mg base CX0 (k + 1) f fd ["_law_one_here", "_law_some"] (spP (keF L n)) := by
  refine F.ok scKe (fun vs H Q E0 h => spP_len keF_len h) (fun cdv A outer s H vs Q E0 hr h => ?_)
  have hrT : Room k _ := hr
  refine ⟨_, (pss_cons (ps_if (pt_val (pe_callB (call_isiK (K := K) rfl) (by rfl) T.isi (by decide +kernel) (pa_cons (pv 0) (pa_cons (pe_glob (v := .ref L.CB) rfl gB rfl) pa_nil)))) (pss_cons (ps_set (i := 2) scKe.nd rfl (Or.inl rfl) (pe_lst (pa_cons (pe_fldK (K := K) rfl (pv 0) rfl) (pa_cons (pe_fldK (K := K) rfl (pv 0) rfl) (pa_cons (pe_fldK (K := K) rfl (pv 0) rfl) (pa_cons (pe_fldK (K := K) rfl (pv 0) rfl) (pa_cons (pe_fldK (K := K) rfl (pv 0) rfl) (pa_cons (pe_fldK (K := K) rfl (pv 0) rfl) (pa_cons (pe_fldK (K := K) rfl (pv 0) rfl) (pa_cons (pe_fldK (K := K) rfl (pv 0) rfl) pa_nil))))))))))
        (pss_one (ps_set (i := 2) scKe.nd rfl (Or.inl rfl) (pe_op op_cat (pv 2) (pe_lst (pa_cons (pe_fldK (K := K) rfl (pv 0) rfl) (pa_cons (pe_fldK (K := K) rfl (pv 0) rfl) pa_nil))))))) (pss_one (ps_if (pt_val (pe_callB (call_isiK (K := K) rfl) (by rfl) T.isi (by decide +kernel) (pa_cons (pv 0) (pa_cons (pe_glob (v := .ref L.CR) rfl gR rfl) pa_nil)))) (pss_one (ps_set (i := 2) scKe.nd rfl (Or.inl rfl) (pe_lst (pa_cons (pe_fldK (K := K) rfl (pv 0) rfl) (pa_cons (pe_fldK (K := K) rfl (pv 0) rfl) (pa_cons (pe_fldK (K := K) rfl (pv 0) rfl) (pa_cons (pe_fldK (K := K) rfl (pv 0) rfl) pa_nil))))))) (pss_one (ps_if (pt_val (pe_callB (call_isiK (K := K) rfl) (by rfl) T.isi (by decide +kernel) (pa_cons (pv 0) (pa_cons (pe_glob (v := .ref L.CC) rfl gC rfl) pa_nil)))) (pss_one (ps_set (i := 2) scKe.nd rfl (Or.inl rfl) (pe_lst (pa_cons (pe_fldK (K := K) rfl (pv 0) rfl) (pa_cons (pe_fldK (K := K) rfl (pv 0) rfl) (pa_cons (pe_fldK (K := K) rfl (pv 0) rfl) (pa_cons (pe_fldK (K := K) rfl (pv 0) rfl) pa_nil))))))) (pss_one (ps_set (i := 2) scKe.nd rfl (Or.inl rfl) (pe_lst (pa_cons (pe_fldK (K := K) rfl (pv 0) rfl) (pa_cons (pe_fldK (K := K) rfl (pv 0) rfl) pa_nil))))))))))
      (pss_one (ps_ret (pe_cmpR op_eq (pe_call GT hrT rfl gT kT bT0 .nil pass0 (pa_cons (pv 2) pa_nil)) (pe_call GT hrT rfl gT kT bT0 .nil pass0 (pa_cons (pv 1) pa_nil)) (nomark _))))), ?_⟩
  apply pu_def (N := ["_law_one_here", "_law_some", "_law_told"]) (h := h)
  case pu =>
    apply pu_seq
    case hu => (repeat' first
    | with_reducible exact pu_var _ | with_reducible exact pu_non | with_reducible exact pu_bl _ | with_reducible exact pu_int _ | with_reducible exact pu_nil | with_reducible exact pu_next | with_reducible exact pu_yes
    | with_reducible apply pu_seq | with_reducible apply pu_ifS | with_reducible apply pu_ret | with_reducible apply pu_asg
    | with_reducible apply pu_and | with_reducible apply pu_or | with_reducible apply pu_not | with_reducible apply pu_test | with_reducible apply pu_b
    | with_reducible apply pu_andV | with_reducible apply pu_orV | with_reducible apply pu_notV | with_reducible apply pu_if
    | with_reducible apply pu_isi hC | with_reducible apply pu_cb (hr := pu_len) | with_reducible apply pu_cb (hr := pu_all) | with_reducible apply pu_cb (hr := pu_any) | with_reducible apply pu_cb (hr := pu_tupOf) | with_reducible apply pu_cb (hr := pu_lstOf)
    | with_reducible apply pu_isC hC iB.own iB.bas
    | with_reducible apply pu_isC hC iR.own iR.bas
    | with_reducible apply pu_isC hC iC.own iC.bas
    | with_reducible apply pu_op (hr := pu_ixT) | with_reducible apply pu_op (hr := pu_ixL) | with_reducible apply pu_op (hr := pu_eqS) | with_reducible apply pu_op (hr := pu_neS) | with_reducible apply pu_op (hr := pu_in) | with_reducible apply pu_op (hr := pu_isNo) | with_reducible apply pu_op (hr := pu_notNo)
    | with_reducible apply pu_op (hr := pu_cm) | with_reducible apply pu_op (hr := pu_ar) | with_reducible apply pu_op (hr := pu_eqP) | with_reducible apply pu_op (hr := pu_neP) | with_reducible apply pu_op (hr := pu_catT) | with_reducible apply pu_op (hr := pu_catL)
    | with_reducible apply pu_chain pu_cm pu_cm | with_reducible apply pu_lcV | with_reducible apply pu_dcV | with_reducible apply pu_iTup | with_reducible apply pu_iLst
    | with_reducible apply pu_slT | with_reducible apply pu_slL | with_reducible exact pu_noPart | with_reducible exact pu_part _
    | exact pu_str _ ⟨by decide +kernel, by decide +kernel⟩ | with_reducible apply pu_call | with_reducible apply pu_tup | with_reducible apply pu_lst | with_reducible apply pu_cons | (with_reducible_and_instances rfl) | rfl)
    case ht =>
      apply pu_ifS
      case hx => (repeat' first
    | with_reducible exact pu_var _ | with_reducible exact pu_non | with_reducible exact pu_bl _ | with_reducible exact pu_int _ | with_reducible exact pu_nil | with_reducible exact pu_next | with_reducible exact pu_yes
    | with_reducible apply pu_seq | with_reducible apply pu_ifS | with_reducible apply pu_ret | with_reducible apply pu_asg
    | with_reducible apply pu_and | with_reducible apply pu_or | with_reducible apply pu_not | with_reducible apply pu_test | with_reducible apply pu_b
    | with_reducible apply pu_andV | with_reducible apply pu_orV | with_reducible apply pu_notV | with_reducible apply pu_if
    | with_reducible apply pu_isi hC | with_reducible apply pu_cb (hr := pu_len) | with_reducible apply pu_cb (hr := pu_all) | with_reducible apply pu_cb (hr := pu_any) | with_reducible apply pu_cb (hr := pu_tupOf) | with_reducible apply pu_cb (hr := pu_lstOf)
    | with_reducible apply pu_isC hC iB.own iB.bas
    | with_reducible apply pu_isC hC iR.own iR.bas
    | with_reducible apply pu_isC hC iC.own iC.bas
    | with_reducible apply pu_op (hr := pu_ixT) | with_reducible apply pu_op (hr := pu_ixL) | with_reducible apply pu_op (hr := pu_eqS) | with_reducible apply pu_op (hr := pu_neS) | with_reducible apply pu_op (hr := pu_in) | with_reducible apply pu_op (hr := pu_isNo) | with_reducible apply pu_op (hr := pu_notNo)
    | with_reducible apply pu_op (hr := pu_cm) | with_reducible apply pu_op (hr := pu_ar) | with_reducible apply pu_op (hr := pu_eqP) | with_reducible apply pu_op (hr := pu_neP) | with_reducible apply pu_op (hr := pu_catT) | with_reducible apply pu_op (hr := pu_catL)
    | with_reducible apply pu_chain pu_cm pu_cm | with_reducible apply pu_lcV | with_reducible apply pu_dcV | with_reducible apply pu_iTup | with_reducible apply pu_iLst
    | with_reducible apply pu_slT | with_reducible apply pu_slL | with_reducible exact pu_noPart | with_reducible exact pu_part _
    | exact pu_str _ ⟨by decide +kernel, by decide +kernel⟩ | with_reducible apply pu_call | with_reducible apply pu_tup | with_reducible apply pu_lst | with_reducible apply pu_cons | (with_reducible_and_instances rfl) | rfl)
      case ht => (repeat' first
    | with_reducible exact pu_var _ | with_reducible exact pu_non | with_reducible exact pu_bl _ | with_reducible exact pu_int _ | with_reducible exact pu_nil | with_reducible exact pu_next | with_reducible exact pu_yes
    | with_reducible apply pu_seq | with_reducible apply pu_ifS | with_reducible apply pu_ret | with_reducible apply pu_asg
    | with_reducible apply pu_and | with_reducible apply pu_or | with_reducible apply pu_not | with_reducible apply pu_test | with_reducible apply pu_b
    | with_reducible apply pu_andV | with_reducible apply pu_orV | with_reducible apply pu_notV | with_reducible apply pu_if
    | with_reducible apply pu_isi hC | with_reducible apply pu_cb (hr := pu_len) | with_reducible apply pu_cb (hr := pu_all) | with_reducible apply pu_cb (hr := pu_any) | with_reducible apply pu_cb (hr := pu_tupOf) | with_reducible apply pu_cb (hr := pu_lstOf)
    | with_reducible apply pu_fld clB (nB _ (by decide +kernel))
    | with_reducible apply pu_op (hr := pu_ixT) | with_reducible apply pu_op (hr := pu_ixL) | with_reducible apply pu_op (hr := pu_eqS) | with_reducible apply pu_op (hr := pu_neS) | with_reducible apply pu_op (hr := pu_in) | with_reducible apply pu_op (hr := pu_isNo) | with_reducible apply pu_op (hr := pu_notNo)
    | with_reducible apply pu_op (hr := pu_cm) | with_reducible apply pu_op (hr := pu_ar) | with_reducible apply pu_op (hr := pu_eqP) | with_reducible apply pu_op (hr := pu_neP) | with_reducible apply pu_op (hr := pu_catT) | with_reducible apply pu_op (hr := pu_catL)
    | with_reducible apply pu_chain pu_cm pu_cm | with_reducible apply pu_lcV | with_reducible apply pu_dcV | with_reducible apply pu_iTup | with_reducible apply pu_iLst
    | with_reducible apply pu_slT | with_reducible apply pu_slL | with_reducible exact pu_noPart | with_reducible exact pu_part _
    | exact pu_str _ ⟨by decide +kernel, by decide +kernel⟩ | with_reducible apply pu_call | with_reducible apply pu_tup | with_reducible apply pu_lst | with_reducible apply pu_cons | (with_reducible_and_instances rfl) | rfl)
      case hu =>
        apply pu_ifS
        case hx => (repeat' first
    | with_reducible exact pu_var _ | with_reducible exact pu_non | with_reducible exact pu_bl _ | with_reducible exact pu_int _ | with_reducible exact pu_nil | with_reducible exact pu_next | with_reducible exact pu_yes
    | with_reducible apply pu_seq | with_reducible apply pu_ifS | with_reducible apply pu_ret | with_reducible apply pu_asg
    | with_reducible apply pu_and | with_reducible apply pu_or | with_reducible apply pu_not | with_reducible apply pu_test | with_reducible apply pu_b
    | with_reducible apply pu_andV | with_reducible apply pu_orV | with_reducible apply pu_notV | with_reducible apply pu_if
    | with_reducible apply pu_isi hC | with_reducible apply pu_cb (hr := pu_len) | with_reducible apply pu_cb (hr := pu_all) | with_reducible apply pu_cb (hr := pu_any) | with_reducible apply pu_cb (hr := pu_tupOf) | with_reducible apply pu_cb (hr := pu_lstOf)
    | with_reducible apply pu_isC hC iB.own iB.bas
    | with_reducible apply pu_isC hC iR.own iR.bas
    | with_reducible apply pu_isC hC iC.own iC.bas
    | with_reducible apply pu_op (hr := pu_ixT) | with_reducible apply pu_op (hr := pu_ixL) | with_reducible apply pu_op (hr := pu_eqS) | with_reducible apply pu_op (hr := pu_neS) | with_reducible apply pu_op (hr := pu_in) | with_reducible apply pu_op (hr := pu_isNo) | with_reducible apply pu_op (hr := pu_notNo)
    | with_reducible apply pu_op (hr := pu_cm) | with_reducible apply pu_op (hr := pu_ar) | with_reducible apply pu_op (hr := pu_eqP) | with_reducible apply pu_op (hr := pu_neP) | with_reducible apply pu_op (hr := pu_catT) | with_reducible apply pu_op (hr := pu_catL)
    | with_reducible apply pu_chain pu_cm pu_cm | with_reducible apply pu_lcV | with_reducible apply pu_dcV | with_reducible apply pu_iTup | with_reducible apply pu_iLst
    | with_reducible apply pu_slT | with_reducible apply pu_slL | with_reducible exact pu_noPart | with_reducible exact pu_part _
    | exact pu_str _ ⟨by decide +kernel, by decide +kernel⟩ | with_reducible apply pu_call | with_reducible apply pu_tup | with_reducible apply pu_lst | with_reducible apply pu_cons | (with_reducible_and_instances rfl) | rfl)
        case ht => (repeat' first
    | with_reducible exact pu_var _ | with_reducible exact pu_non | with_reducible exact pu_bl _ | with_reducible exact pu_int _ | with_reducible exact pu_nil | with_reducible exact pu_next | with_reducible exact pu_yes
    | with_reducible apply pu_seq | with_reducible apply pu_ifS | with_reducible apply pu_ret | with_reducible apply pu_asg
    | with_reducible apply pu_and | with_reducible apply pu_or | with_reducible apply pu_not | with_reducible apply pu_test | with_reducible apply pu_b
    | with_reducible apply pu_andV | with_reducible apply pu_orV | with_reducible apply pu_notV | with_reducible apply pu_if
    | with_reducible apply pu_isi hC | with_reducible apply pu_cb (hr := pu_len) | with_reducible apply pu_cb (hr := pu_all) | with_reducible apply pu_cb (hr := pu_any) | with_reducible apply pu_cb (hr := pu_tupOf) | with_reducible apply pu_cb (hr := pu_lstOf)
    | with_reducible apply pu_fld clR (nR _ (by decide +kernel))
    | with_reducible apply pu_op (hr := pu_ixT) | with_reducible apply pu_op (hr := pu_ixL) | with_reducible apply pu_op (hr := pu_eqS) | with_reducible apply pu_op (hr := pu_neS) | with_reducible apply pu_op (hr := pu_in) | with_reducible apply pu_op (hr := pu_isNo) | with_reducible apply pu_op (hr := pu_notNo)
    | with_reducible apply pu_op (hr := pu_cm) | with_reducible apply pu_op (hr := pu_ar) | with_reducible apply pu_op (hr := pu_eqP) | with_reducible apply pu_op (hr := pu_neP) | with_reducible apply pu_op (hr := pu_catT) | with_reducible apply pu_op (hr := pu_catL)
    | with_reducible apply pu_chain pu_cm pu_cm | with_reducible apply pu_lcV | with_reducible apply pu_dcV | with_reducible apply pu_iTup | with_reducible apply pu_iLst
    | with_reducible apply pu_slT | with_reducible apply pu_slL | with_reducible exact pu_noPart | with_reducible exact pu_part _
    | exact pu_str _ ⟨by decide +kernel, by decide +kernel⟩ | with_reducible apply pu_call | with_reducible apply pu_tup | with_reducible apply pu_lst | with_reducible apply pu_cons | (with_reducible_and_instances rfl) | rfl)
        case hu =>
          apply pu_ifS
          case hx => (repeat' first
    | with_reducible exact pu_var _ | with_reducible exact pu_non | with_reducible exact pu_bl _ | with_reducible exact pu_int _ | with_reducible exact pu_nil | with_reducible exact pu_next | with_reducible exact pu_yes
    | with_reducible apply pu_seq | with_reducible apply pu_ifS | with_reducible apply pu_ret | with_reducible apply pu_asg
    | with_reducible apply pu_and | with_reducible apply pu_or | with_reducible apply pu_not | with_reducible apply pu_test | with_reducible apply pu_b
    | with_reducible apply pu_andV | with_reducible apply pu_orV | with_reducible apply pu_notV | with_reducible apply pu_if
    | with_reducible apply pu_isi hC | with_reducible apply pu_cb (hr := pu_len) | with_reducible apply pu_cb (hr := pu_all) | with_reducible apply pu_cb (hr := pu_any) | with_reducible apply pu_cb (hr := pu_tupOf) | with_reducible apply pu_cb (hr := pu_lstOf)
    | with_reducible apply pu_isC hC iB.own iB.bas
    | with_reducible apply pu_isC hC iR.own iR.bas
    | with_reducible apply pu_isC hC iC.own iC.bas
    | with_reducible apply pu_op (hr := pu_ixT) | with_reducible apply pu_op (hr := pu_ixL) | with_reducible apply pu_op (hr := pu_eqS) | with_reducible apply pu_op (hr := pu_neS) | with_reducible apply pu_op (hr := pu_in) | with_reducible apply pu_op (hr := pu_isNo) | with_reducible apply pu_op (hr := pu_notNo)
    | with_reducible apply pu_op (hr := pu_cm) | with_reducible apply pu_op (hr := pu_ar) | with_reducible apply pu_op (hr := pu_eqP) | with_reducible apply pu_op (hr := pu_neP) | with_reducible apply pu_op (hr := pu_catT) | with_reducible apply pu_op (hr := pu_catL)
    | with_reducible apply pu_chain pu_cm pu_cm | with_reducible apply pu_lcV | with_reducible apply pu_dcV | with_reducible apply pu_iTup | with_reducible apply pu_iLst
    | with_reducible apply pu_slT | with_reducible apply pu_slL | with_reducible exact pu_noPart | with_reducible exact pu_part _
    | exact pu_str _ ⟨by decide +kernel, by decide +kernel⟩ | with_reducible apply pu_call | with_reducible apply pu_tup | with_reducible apply pu_lst | with_reducible apply pu_cons | (with_reducible_and_instances rfl) | rfl)
          case ht => (repeat' first
    | with_reducible exact pu_var _ | with_reducible exact pu_non | with_reducible exact pu_bl _ | with_reducible exact pu_int _ | with_reducible exact pu_nil | with_reducible exact pu_next | with_reducible exact pu_yes
    | with_reducible apply pu_seq | with_reducible apply pu_ifS | with_reducible apply pu_ret | with_reducible apply pu_asg
    | with_reducible apply pu_and | with_reducible apply pu_or | with_reducible apply pu_not | with_reducible apply pu_test | with_reducible apply pu_b
    | with_reducible apply pu_andV | with_reducible apply pu_orV | with_reducible apply pu_notV | with_reducible apply pu_if
    | with_reducible apply pu_isi hC | with_reducible apply pu_cb (hr := pu_len) | with_reducible apply pu_cb (hr := pu_all) | with_reducible apply pu_cb (hr := pu_any) | with_reducible apply pu_cb (hr := pu_tupOf) | with_reducible apply pu_cb (hr := pu_lstOf)
    | with_reducible apply pu_fld clC (nC _ (by decide +kernel))
    | with_reducible apply pu_op (hr := pu_ixT) | with_reducible apply pu_op (hr := pu_ixL) | with_reducible apply pu_op (hr := pu_eqS) | with_reducible apply pu_op (hr := pu_neS) | with_reducible apply pu_op (hr := pu_in) | with_reducible apply pu_op (hr := pu_isNo) | with_reducible apply pu_op (hr := pu_notNo)
    | with_reducible apply pu_op (hr := pu_cm) | with_reducible apply pu_op (hr := pu_ar) | with_reducible apply pu_op (hr := pu_eqP) | with_reducible apply pu_op (hr := pu_neP) | with_reducible apply pu_op (hr := pu_catT) | with_reducible apply pu_op (hr := pu_catL)
    | with_reducible apply pu_chain pu_cm pu_cm | with_reducible apply pu_lcV | with_reducible apply pu_dcV | with_reducible apply pu_iTup | with_reducible apply pu_iLst
    | with_reducible apply pu_slT | with_reducible apply pu_slL | with_reducible exact pu_noPart | with_reducible exact pu_part _
    | exact pu_str _ ⟨by decide +kernel, by decide +kernel⟩ | with_reducible apply pu_call | with_reducible apply pu_tup | with_reducible apply pu_lst | with_reducible apply pu_cons | (with_reducible_and_instances rfl) | rfl)
          case hu => (repeat' first
    | with_reducible exact pu_var _ | with_reducible exact pu_non | with_reducible exact pu_bl _ | with_reducible exact pu_int _ | with_reducible exact pu_nil | with_reducible exact pu_next | with_reducible exact pu_yes
    | with_reducible apply pu_seq | with_reducible apply pu_ifS | with_reducible apply pu_ret | with_reducible apply pu_asg
    | with_reducible apply pu_and | with_reducible apply pu_or | with_reducible apply pu_not | with_reducible apply pu_test | with_reducible apply pu_b
    | with_reducible apply pu_andV | with_reducible apply pu_orV | with_reducible apply pu_notV | with_reducible apply pu_if
    | with_reducible apply pu_isi hC | with_reducible apply pu_cb (hr := pu_len) | with_reducible apply pu_cb (hr := pu_all) | with_reducible apply pu_cb (hr := pu_any) | with_reducible apply pu_cb (hr := pu_tupOf) | with_reducible apply pu_cb (hr := pu_lstOf)
    | with_reducible apply pu_fld clM (nM _ (by decide +kernel))
    | with_reducible apply pu_op (hr := pu_ixT) | with_reducible apply pu_op (hr := pu_ixL) | with_reducible apply pu_op (hr := pu_eqS) | with_reducible apply pu_op (hr := pu_neS) | with_reducible apply pu_op (hr := pu_in) | with_reducible apply pu_op (hr := pu_isNo) | with_reducible apply pu_op (hr := pu_notNo)
    | with_reducible apply pu_op (hr := pu_cm) | with_reducible apply pu_op (hr := pu_ar) | with_reducible apply pu_op (hr := pu_eqP) | with_reducible apply pu_op (hr := pu_neP) | with_reducible apply pu_op (hr := pu_catT) | with_reducible apply pu_op (hr := pu_catL)
    | with_reducible apply pu_chain pu_cm pu_cm | with_reducible apply pu_lcV | with_reducible apply pu_dcV | with_reducible apply pu_iTup | with_reducible apply pu_iLst
    | with_reducible apply pu_slT | with_reducible apply pu_slL | with_reducible exact pu_noPart | with_reducible exact pu_part _
    | exact pu_str _ ⟨by decide +kernel, by decide +kernel⟩ | with_reducible apply pu_call | with_reducible apply pu_tup | with_reducible apply pu_lst | with_reducible apply pu_cons | (with_reducible_and_instances rfl) | rfl)
  case hF =>
    intro ds d e
    unfold keF at e
    split at e
    case h_2 => cases e
    rename_i C0 ns0 l m
    by_cases hq : wfI L (.ins C0 ns0 l) = true
    case neg => rw [if_neg hq] at e; cases e
    rw [if_pos hq] at e
    have fin : ∀ x, (txG L.CG n (.lst l)).bind (fun a => (txG L.CG n (.lst m)).bind fun b => eqS a b) = some x → ((some [E.lst l]).bind (txF L.CG n)).bind (fun a => ((some [E.lst m]).bind (txF L.CG n)).bind fun b => eqS a b) = some x := fun x h => h
    rcases wfI_eq hq with ⟨l', z, hl⟩ | ⟨l', z, hl⟩ | ⟨l', z, hl⟩ | ⟨l', z, hl⟩
    · cases z
      match l, hl with
      | [a0, a1, a2, a3, a4, a5, a6, a7, a8, a9], _ =>
      have go : ∀ (f : Str) (d : E), getF flB [a0, a1, a2, a3, a4, a5, a6, a7, a8, a9] f = some d → fldE L.CB f (.ins L.CB flB [a0, a1, a2, a3, a4, a5, a6, a7, a8, a9]) = some d := fun f d h => (if_pos rfl).trans h
      refine bnd (.inr _) (bT (bnd (E.bl true) (bnd _ rfl (iB.yes inB)) rfl) (bnd (.inr _) (mp (E.lst [a0, a1, a2, a3, a4, a5, a6, a7]) (bnd ([a0, a1, a2, a3, a4, a5, a6, a7] : List E) (bnd a0 (bnd _ rfl (go _ _ rfl)) (mp ([a1, a2, a3, a4, a5, a6, a7] : List E) (bnd a1 (bnd _ rfl (go _ _ rfl)) (mp ([a2, a3, a4, a5, a6, a7] : List E) (bnd a2 (bnd _ rfl (go _ _ rfl)) (mp ([a3, a4, a5, a6, a7] : List E) (bnd a3 (bnd _ rfl (go _ _ rfl)) (mp ([a4, a5, a6, a7] : List E) (bnd a4 (bnd _ rfl (go _ _ rfl)) (mp ([a5, a6, a7] : List E) (bnd a5 (bnd _ rfl (go _ _ rfl)) (mp ([a6, a7] : List E) (bnd a6 (bnd _ rfl (go _ _ rfl)) (mp ([a7] : List E) (bnd a7 (bnd _ rfl (go _ _ rfl)) (mp ([] : List E) rfl)))))))))))))))) rfl)) (mp (E.lst [a0, a1, a2, a3, a4, a5, a6, a7, a8, a9]) (bnd (E.lst [a0, a1, a2, a3, a4, a5, a6, a7]) rfl (bnd (E.lst [a8, a9]) (bnd ([a8, a9] : List E) (bnd a8 (bnd _ rfl (go _ _ rfl)) (mp ([a9] : List E) (bnd a9 (bnd _ rfl (go _ _ rfl)) (mp ([] : List E) rfl)))) rfl) (cat_ok (show 8 + 2 ≤ 900 by decide))))))) (mp d (fin d e))
    · cases z
      match l, hl with
      | [a0, a1, a2, a3], _ =>
      have go : ∀ (f : Str) (d : E), getF flR [a0, a1, a2, a3] f = some d → fldE L.CR f (.ins L.CR flR [a0, a1, a2, a3]) = some d := fun f d h => (if_pos rfl).trans h
      refine bnd (.inr _) (bF (bnd (E.bl false) (bnd _ rfl (iB.not inR D.rb)) rfl) (bT (bnd (E.bl true) (bnd _ rfl (iR.yes inR)) rfl) (mp (E.lst [a0, a1, a2, a3]) (bnd ([a0, a1, a2, a3] : List E) (bnd a0 (bnd _ rfl (go _ _ rfl)) (mp ([a1, a2, a3] : List E) (bnd a1 (bnd _ rfl (go _ _ rfl)) (mp ([a2, a3] : List E) (bnd a2 (bnd _ rfl (go _ _ rfl)) (mp ([a3] : List E) (bnd a3 (bnd _ rfl (go _ _ rfl)) (mp ([] : List E) rfl)))))))) rfl)))) (mp d (fin d e))
    · cases z
      match l, hl with
      | [a0, a1, a2, a3], _ =>
      have go : ∀ (f : Str) (d : E), getF flC [a0, a1, a2, a3] f = some d → fldE L.CC f (.ins L.CC flC [a0, a1, a2, a3]) = some d := fun f d h => (if_pos rfl).trans h
      refine bnd (.inr _) (bF (bnd (E.bl false) (bnd _ rfl (iB.not inC D.cb)) rfl) (bF (bnd (E.bl false) (bnd _ rfl (iR.not inC D.cr)) rfl) (bT (bnd (E.bl true) (bnd _ rfl (iC.yes inC)) rfl) (mp (E.lst [a0, a1, a2, a3]) (bnd ([a0, a1, a2, a3] : List E) (bnd a0 (bnd _ rfl (go _ _ rfl)) (mp ([a1, a2, a3] : List E) (bnd a1 (bnd _ rfl (go _ _ rfl)) (mp ([a2, a3] : List E) (bnd a2 (bnd _ rfl (go _ _ rfl)) (mp ([a3] : List E) (bnd a3 (bnd _ rfl (go _ _ rfl)) (mp ([] : List E) rfl)))))))) rfl))))) (mp d (fin d e))
    · cases z
      match l, hl with
      | [a0, a1], _ =>
      have go : ∀ (f : Str) (d : E), getF flM [a0, a1] f = some d → fldE L.CM f (.ins L.CM flM [a0, a1]) = some d := fun f d h => (if_pos rfl).trans h
      refine bnd (.inr _) (bF (bnd (E.bl false) (bnd _ rfl (iB.not inM D.mb)) rfl) (bF (bnd (E.bl false) (bnd _ rfl (iR.not inM D.mr)) rfl) (bF (bnd (E.bl false) (bnd _ rfl (iC.not inM D.mc)) rfl) (mp (E.lst [a0, a1]) (bnd ([a0, a1] : List E) (bnd a0 (bnd _ rfl (go _ _ rfl)) (mp ([a1] : List E) (bnd a1 (bnd _ rfl (go _ _ rfl)) (mp ([] : List E) rfl)))) rfl))))) (mp d (fin d e))
end
end K15

namespace K15
open PySem L2 XR VT ET
variable [KC]
abbrev sWell : Stmt := top 48
abbrev sDraw : Stmt := top 49
abbrev sOne : Stmt := top 50
section
variable {P : Program} {w : World} {K : PySem.W.Frag} {mg : Str → Option Value} {base : Heap} 
theorem scW : FnScope ["_law_cell"] ["_law_cell"] (defScope sWell) := ⟨rfl, rfl, rfl, by decide +kernel, rfl, by decide +kernel, by decide +kernel⟩
theorem ok_well {f : Addr} {fd : FuncData} (F : Fun K "_law_well" "_law_well" sWell f fd) (T : Txt0 mg) : FnOk P w K mg base CX0 1 f fd ["_law_cell"] spWell := by
  refine F.ok scW (fun vs H Q E h => ?_) (fun cdv A outer s H vs Q E hr h => ?_)
  · obtain ⟨z, rfl, _⟩ := h
    rfl
  · obtain ⟨z, rfl, k⟩ := h
    refine ⟨_, pss_one (ps_ret (pe_lst (pa_cons (pe_op op_mul (pv 0) (pe_callTy call_int1 (by rfl) T.int (by decide +kernel) (pa_cons (pe_cmpR op_ge (pv 0) (pe_op op_pow pe_int pe_int) (nomark _)) pa_nil)))
      (pa_cons (pe_op op_mod (pe_callTy call_int1 (by rfl) T.int (by decide +kernel) (pa_cons (pv 0) pa_nil)) pe_int) (pa_cons pe_int pa_nil))))), ?_⟩
    refine ⟨_, rfl, _, rfl, _, _, rfl, rfl, ⟨by decide, by decide, by decide⟩, _, _, rfl, rfl, .inr ⟨_, rfl, ?_⟩⟩
    refine ⟨_, _, rfl, rfl, .inr ?_, ?_⟩
    · split <;> exact ⟨by decide, by decide⟩
    refine ⟨_, rfl, .inl ⟨_, rfl, _, _, rfl, rfl, (by show (0 : Int) < 2147483647; decide), (by show 3 ≤ sizeLine; decide), fun p hp => ?_⟩⟩
    refine k p _ _ _ (same_new hp) hp ⟨upd_same, ?_, ?_, Int.le_refl _, by decide⟩
    · exact Int.emod_nonneg _ (by decide)
    · exact Int.emod_lt_of_pos _ (by decide)
theorem scD : FnScope ["_law_well_here", "_law_below", "_law_digit", "_law_prime", "_law_number"] ["_law_well_here", "_law_below"] (defScope sDraw) := ⟨rfl, rfl, rfl, by decide +kernel, rfl, by decide +kernel, by decide +kernel⟩
theorem ok_draw {f : Addr} {fd : FuncData} (F : Fun K "_law_draw" "_law_draw" sDraw f fd) (T : Txt0 mg) : FnOk P w K mg base CX0 1 f fd ["_law_well_here", "_law_below"] spDraw := by
  refine F.ok scD (fun vs H Q E h => ?_) (fun cdv A outer s H vs Q E hr h => ?_)
  · obtain ⟨w, a, b, c, m, rfl, _⟩ := h
    rfl
  · obtain ⟨w, a, b, c, m, rfl, W, hc, m0, m1, k⟩ := h
    refine ⟨_, pss_cons (ps_if (pt_cmpR op_gt (pe_ix ix_list (pv 0) pe_int (fun _ _ => rfl)) pe_int (nomark _))
        (pss_cons (ps_set (i := 2) scD.nd rfl (Or.inl rfl) (pe_op op_mod (pe_callTy call_int1 (by rfl) T.int (by decide +kernel) (pa_cons (pe_ix ix_list (pv 0) pe_int (fun _ _ => rfl)) pa_nil)) (pv 1)))
        (pss_cons (ps_asg (pe_op op_fdiv (pe_ix ix_list (pv 0) pe_int (fun _ _ => rfl)) (pv 1)) (pg_sub (pv 0) pe_int set_list))
        (pss_one (ps_ret (pv 2))))) pss_nil)
      (pss_cons (ps_asg (pe_op op_add (pe_ix ix_list (pv 0) pe_int (fun _ _ => rfl)) pe_int) (pg_sub (pv 0) pe_int set_list))
      (pss_cons (ps_set (i := 3) scD.nd rfl (Or.inl rfl) (pe_ix ix_list (pe_lst (pa_cons pe_int (pa_cons pe_int (pa_cons pe_int (pa_cons pe_int (pa_cons pe_int (pa_cons pe_int (pa_cons pe_int pa_nil))))))))
        (pe_op op_mod (pe_callTy call_int1 (by rfl) T.int (by decide +kernel) (pa_cons (pe_ix ix_list (pv 0) pe_int (fun _ _ => rfl)) pa_nil)) pe_int) (fun _ _ => rfl)))
      (pss_cons (ps_set (i := 4) scD.nd rfl (Or.inl rfl) (pe_op op_mod (pe_callTy call_int1 (by rfl) T.int (by decide +kernel) (pa_cons (pe_op op_pow (pe_op op_add (pe_op op_add (pe_ix ix_list (pv 0) pe_int (fun _ _ => rfl)) (pe_op op_mul pe_int (pe_ix ix_list (pv 0) pe_int (fun _ _ => rfl)))) pe_int) pe_int) pa_nil)) (pv 3)))
      (pss_cons (ps_set (i := 4) scD.nd rfl (Or.inl rfl) (pe_op op_mod (pe_callTy call_int1 (by rfl) T.int (by decide +kernel) (pa_cons (pe_op op_mul (pe_op op_add (pv 4) (pe_ix ix_list (pv 0) pe_int (fun _ _ => rfl))) (pe_op op_add (pe_op op_fdiv (pv 4) pe_int) pe_int)) pa_nil)) (pv 3)))
      (pss_one (ps_ret (pe_op op_mod (pe_callTy call_int1 (by rfl) T.int (by decide +kernel) (pa_cons (pe_op op_fdiv (pv 4) pe_int) pa_nil)) (pv 1)))))))), ?_⟩
    refine ⟨_, rfl, w, _, _, _, rfl, rfl, SqL.of W.at_, rfl, _, _, rfl, rfl, _, rfl, ?_⟩
    refine ite2 (fun ca => ?_) (fun ca => ?_)
    · refine ⟨_, rfl, w, _, _, _, rfl, rfl, SqL.of W.at_, rfl, .inl ⟨_, rfl, _, rfl, _, _, rfl, rfl, m0, ?_⟩⟩
      refine ⟨_, rfl, w, _, _, _, rfl, rfl, SqL.of W.at_, rfl, _, rfl, _, _, rfl, rfl, ⟨m0, by omega⟩, _, rfl, w, _, _, _, rfl, rfl, W.at_, rfl, ?_⟩
      exact ⟨_, rfl, k _ _ c _ (Int.emod_nonneg _ (by omega)) (Int.emod_lt_of_pos _ m0) (by omega) ⟨upd_same, W.b0, W.b1, W.c0, W.c1⟩ But.upd⟩
    · refine ⟨_, rfl, w, _, _, _, rfl, rfl, SqL.of W.at_, rfl, _, _, rfl, rfl, _, rfl, w, _, _, _, rfl, rfl, W.at_, rfl, ?_⟩
      have W1 : Well (upd H w (.lst [.int a, .int b, .int (c + 1)])) w a b (c + 1) := ⟨upd_same, W.b0, W.b1, by have := W.c0; omega, by omega⟩
      have B1 : But w H (upd H w (.lst [.int a, .int b, .int (c + 1)])) := But.upd
      refine ⟨(by show 7 ≤ sizeLine; decide), fun p hp => ?_⟩
      have wp : w ≠ p := ne_of_none W1.at_ hp
      have W2 : Well (upd (upd H w (.lst [.int a, .int b, .int (c + 1)])) p (.lst [.int 2147483647, .int 2147483629, .int 2147483587, .int 2147483579, .int 2147483563, .int 2147483549, .int 2147483543])) w a b (c + 1) := ⟨by rw [upd_ne wp]; exact W1.at_, W1.b0, W1.b1, W1.c0, W1.c1⟩
      have B2 := B1.trans (ET.But.new (w := w) (o := .lst [.int 2147483647, .int 2147483629, .int 2147483587, .int 2147483579, .int 2147483563, .int 2147483549, .int 2147483543]) hp)
      have hx : ∃ q : Int, (L2.atI [V.int 2147483647, .int 2147483629, .int 2147483587, .int 2147483579, .int 2147483563, .int 2147483549, .int 2147483543] ((c + 1) % 7)) = some (.int q) ∧ 0 < q ∧ q ≤ 2147483647 := by
        have h0 : 0 ≤ (c + 1) % 7 := Int.emod_nonneg _ (by decide)
        have h1 : (c + 1) % 7 < 7 := Int.emod_lt_of_pos _ (by decide)
        rcases (by omega : (c + 1) % 7 = 0 ∨ (c + 1) % 7 = 1 ∨ (c + 1) % 7 = 2 ∨ (c + 1) % 7 = 3 ∨ (c + 1) % 7 = 4 ∨ (c + 1) % 7 = 5 ∨ (c + 1) % 7 = 6) with e | e | e | e | e | e | e <;> rw [e] <;> exact ⟨_, rfl, by decide, by decide⟩
      obtain ⟨q, eq, q0, q1⟩ := hx
      refine ⟨_, rfl, w, _, _, _, rfl, rfl, SqL.of W2.at_, rfl, .inl ⟨_, rfl, _, _, rfl, rfl, (by show (0 : Int) < 7; decide), p, _, _, _, rfl, rfl, SqL.of upd_same, eq, ?_⟩⟩
      refine ⟨_, rfl, w, _, _, _, rfl, rfl, SqL.of W2.at_, rfl, _, rfl, w, _, _, _, rfl, rfl, SqL.of W2.at_, rfl, _, _, rfl, rfl, .inl ⟨by decide, by decide⟩, _, _, rfl, rfl, _, _, rfl, rfl, _, _, rfl, rfl, ⟨by decide, by decide, ?_⟩, ?_⟩
      · have := W.b0; have := W.b1; have := W.c0; have := W.c1
        omega
      refine .inl ⟨_, rfl, _, rfl, _, _, rfl, rfl, q0, ?_⟩
      have n0 := Int.emod_nonneg ((b + 7919 * (c + 1) + 1) ^ Int.toNat 5) (by omega : q ≠ 0)
      have n1 := Int.emod_lt_of_pos ((b + 7919 * (c + 1) + 1) ^ Int.toNat 5) q0
      refine ⟨_, rfl, _, rfl, w, _, _, _, rfl, rfl, SqL.of W2.at_, rfl, _, _, rfl, rfl, _, rfl, _, _, rfl, rfl, ⟨by decide, by decide⟩, _, _, rfl, rfl, _, _, rfl, rfl, .inl ⟨?_, ?_⟩, ?_⟩
      · have := W1.c0; omega
      · have := W1.c1; omega
      refine .inl ⟨_, rfl, _, rfl, _, _, rfl, rfl, q0, ?_⟩
      refine ⟨_, rfl, _, _, rfl, rfl, ⟨by decide, by decide⟩, .inl ⟨_, rfl, _, rfl, _, _, rfl, rfl, m0, ?_⟩⟩
      exact k _ _ _ _ (Int.emod_nonneg _ (by omega)) (Int.emod_lt_of_pos _ m0) (Int.le_refl _) W2 B2
theorem scO : FnScope ["_law_well_here", "_law_some"] ["_law_well_here", "_law_some"] (defScope sOne) := ⟨rfl, rfl, rfl, by decide +kernel, rfl, by decide +kernel, by decide +kernel⟩
theorem ok_one {f fD : Addr} {fd fdD : FuncData} (F : Fun K "_law_one" "_law_one" sOne f fd) (T : Txt0 mg) (FD : Fun K "_law_draw" "_law_draw" sDraw fD fdD) (gD : mg "_law_draw" = some (.ref fD)) (bD : Binds K fdD ["_law_well_here", "_law_below"] []) :
    FnOk P w K mg base CX0 2 f fd ["_law_well_here", "_law_some"] (spOne K) := by
  have GD : FnOk P w K mg base CX0 1 fD fdD ["_law_well_here", "_law_below"] spDraw := ok_draw FD T
  refine F.ok scO (fun vs H Q E h => ?_) (fun cdv A outer s H vs Q E hr h => ?_)
  · obtain ⟨w, l, a, b, c, xs, rfl, _⟩ := h
    rfl
  · obtain ⟨w, l, a, b, c, xs, rfl, W, hc, hl, nlw, l0, l1, k⟩ := h
    refine ⟨_, pss_one (ps_ret (pe_ix ix_list (pv 1) (pe_call GD hr rfl gD FD.kp bD .nil pass0 (pa_cons (pv 0) (pa_cons (pe_callB call_len (by rfl) T.len PySem.boot_len (pa_cons (pv 1) pa_nil)) pa_nil))) (fun _ _ => rfl))), ?_⟩
    refine ⟨_, rfl, _, rfl, _, rfl, _, _, rfl, .inl ⟨_, SqL.of hl, rfl⟩, w, a, b, c, _, rfl, W, hc, by omega, by omega, fun d a' c' H' d0 d1 hc' W' B => ?_⟩
    have hl' : H' l = some (.lst xs) := B _ _ hl nlw
    have hd : d.toNat < xs.length := by omega
    refine ⟨l, xs, d, xs[d.toNat], rfl, rfl, SqL.of hl', ?_, ?_⟩
    · have z := atI_nat (xs := xs) (j := d.toNat) (v := xs[d.toNat]) (by simp [hd])
      rwa [Int.toNat_of_nonneg d0] at z
    · exact k _ a' c' H' (List.getElem_mem hd) hc' W' B

end
end K15

namespace K15
open PySem L2 XR VT ET
variable [KC]
abbrev sCh : Stmt := top 51
def cfgE (L : CL) : E := .ins L.CG flG [.tup [], .tup [], .tup [], .tup [], .tup [], .tup []]
def oddsL (L : CL) : List E := [.non, .int 1, .bl true, .int 0, .bl false, .str "", .str "other", .tup [], .tup [.str "x"], .lst [.str "x"], .map [] [], .map [.inr "x"] [.int 1], .map [.inr "x"] [.bl true], cfgE L]
def chN (L : CL) : List E → (E → Prop) → Prop
  | [.lst l], Φ => 0 < l.length ∧ l.length ≤ 800 ∧ ∀ kk : Nat, kk < l.length → ∀ o ∈ oddsL L, Φ (.lst (l.set kk o))
  | _, _ => False
theorem chN_len {L : CL} (ds : List E) (Φ : E → Prop) (h : chN L ds Φ) : ds.length = 1 := by
  unfold chN at h
  split at h
  · rfl
  · exact h.elim
theorem pu_conf {L : CL} {dvs : List V} {E0 : XK} (hdv : ∀ H, RpL H dvs [.tup [], .tup [], .tup [], .tup [], .tup [], .tup []]) : PuE (tMake L.CG (spG L.CG) dvs E0 tNil) (fun _ => some (cfgE L)) := fun P σ H env c Q he hf e k => by
  cases e
  intro x dx hx hdx ne
  have mG := made_same (o := .own x) (o' := .ins L.CG dx []) hx hdx
  refine ⟨P, x, dx, dvs, rfl, upd_same, hdv _, hf.same mG, fun H3 B3 h3' => ⟨rfl, ?_⟩⟩
  have m3 : Same H H3 := fun b o e => B3 b o (mG b o e) (ne_of_none e hx)
  have r := hdv (keepH P H3)
  exact k (.ref x) H3 m3 (.ins (by rw [keep_at (hf x hx)]; exact h3') r.length rfl (by decide) r.get)
section
variable {P : Program} {w : World} {K : PySem.W.Frag} {mg : Str → Option Value} {base : Heap} [KcOk K]
theorem scCh : FnScope ["_law_well_here", "_law_some", "_law_at", "_law_found", "_law_odd"] ["_law_well_here", "_law_some"] (defScope sCh) := ⟨rfl, rfl, rfl, by decide +kernel, rfl, by decide +kernel, by decide +kernel⟩
theorem ok_ch {L : CL} {f fDr fOn fIG : Addr} {fd dDr dOn dIG : FuncData} {dvs : List V} {vds : List Value} (F : Fun K "_law_changed" "_law_changed" sCh f fd) (T : Txt mg)
    (GDr : FnOk P w K mg base CX0 1 fDr dDr ["_law_well_here", "_law_below"] (spN 1 drawN)) (gDr : mg "_law_draw" = some (.ref fDr)) (kDr : PySem.W.keepIn K (.ref fDr) = true) (bDr : Binds K dDr ["_law_well_here", "_law_below"] [])
    (GOn : FnOk P w K mg base CX0 2 fOn dOn ["_law_well_here", "_law_some"] (spN 1 oneN)) (gOn : mg "_law_one" = some (.ref fOn)) (kOn : PySem.W.keepIn K (.ref fOn) = true) (bOn : Binds K dOn ["_law_well_here", "_law_some"] [])
    (MG : Mk K L.CG fIG) (gCG : mg "Config" = some (.ref L.CG)) (GIG : FnOk P w K mg base CX0 3 fIG dIG ["self", "params", "blocks", "readings", "calls", "outputs", "moves"] (spG L.CG)) (bIG : Binds K dIG ["self", "params", "blocks", "readings", "calls", "outputs", "moves"] vds) (hdv : Vals dvs vds)
    (hdv' : ∀ H, RpL H dvs [.tup [], .tup [], .tup [], .tup [], .tup [], .tup []]) : FnOk P w K mg base CX0 5 f fd ["_law_well_here", "_law_some"] (spN 10 (chN L)) := by
  refine F.ok scCh (fun vs H Q E0 h => spN_len chN_len h) (fun cdv A outer s H vs Q E0 hr h => ?_)
  have hrM : Room 4 _ := hr
  have hr2 : Room 2 _ := hr.mono (by decide)
  have hr1 : Room 1 _ := hr.mono (by decide)
  refine ⟨_, (pss_cons (ps_set (i := 2) scCh.nd rfl (Or.inl rfl) (pe_call GDr hr1 rfl gDr kDr bDr .nil pass0 (pa_cons (pv 0) (pa_cons (pe_callB (call_lenK (K := K) rfl) (by rfl) T.len (by decide +kernel) (pa_cons (pv 1) pa_nil)) pa_nil))))
      (pss_cons (ps_set (i := 3) scCh.nd rfl (Or.inl rfl) (pe_callTy (call_lstK (K := K) rfl) (by rfl) T.list (by decide +kernel) (pa_cons (pv 1) pa_nil)))
      (pss_cons (ps_set (i := 4) scCh.nd rfl (Or.inl rfl) (pe_lst (pa_cons pe_non (pa_cons pe_int (pa_cons (pe_cmpR op_eq pe_int pe_int (nomark _)) (pa_cons pe_int (pa_cons (pe_cmpR op_eq pe_int pe_int (nomark _)) (pa_cons pe_str (pa_cons pe_str (pa_cons (pe_tup pa_nil) (pa_cons (pe_tup (pa_cons pe_str pa_nil)) (pa_cons (pe_lst (pa_cons pe_str pa_nil)) (pa_cons pe_dnewK (pa_cons (pe_disp (pps_cons pe_str pe_int pps_nil) (by rfl) (by rfl) (fun z => by cases z) (by decide)) (pa_cons (pe_disp (pps_cons pe_str (pe_cmpR op_eq pe_int pe_int (nomark _)) pps_nil) (by rfl) (by rfl) (fun z => by cases z) (by decide)) (pa_cons (pe_make0 MG GIG hrM rfl gCG bIG hdv pass0) pa_nil))))))))))))))))
      (pss_cons (ps_asg (pe_call GOn hr2 rfl gOn kOn bOn .nil pass0 (pa_cons (pv 0) (pa_cons (pv 4) pa_nil))) (pg_sub (pv 3) (pv 2) set_list))
      (pss_one (ps_ret (pv 3))))))), ?_⟩
  obtain ⟨n, Pr, w', us, ds, Φ, rfl, r, fr, nw, W, hf, k⟩ := h
  unfold chN at hf
  split at hf
  case h_2 => exact hf.elim
  rename_i l
  obtain ⟨l0, l8, hf⟩ := hf
  have nd0 : Nd w' 0 (n + 10) Pr (L2.start ["_law_well_here", "_law_some", "_law_at", "_law_found", "_law_odd"] (.ref w' :: us)) H [none, some (.lst l), none, none, none] := ⟨en_startN r, fr, nw, W, rfl⟩
  generalize L2.start ["_law_well_here", "_law_some", "_law_at", "_law_found", "_law_odd"] (.ref w' :: us) = σ0 at nd0 ⊢
  apply st_set (nd := nd0) (Φ := fun d => ∃ kk : Nat, kk < l.length ∧ d = .int (kk : Nat))
  case hE => (repeat' first
    | with_reducible exact nd_next | with_reducible exact nd_nil
    | with_reducible apply nd_ret | with_reducible apply nd_seq | with_reducible apply nd_ifS | (with_reducible apply nd_asg (ij := by decide))
    | ((with_reducible apply nd_pu); ((repeat' first
    | with_reducible exact pu_var _ | with_reducible exact pu_non | with_reducible exact pu_bl _ | with_reducible exact pu_int _ | with_reducible exact pu_nil | with_reducible exact pu_next | with_reducible exact pu_yes
    | with_reducible apply pu_seq | with_reducible apply pu_ifS | with_reducible apply pu_ret | with_reducible apply pu_asg
    | with_reducible apply pu_and | with_reducible apply pu_or | with_reducible apply pu_not | with_reducible apply pu_test | with_reducible apply pu_b
    | with_reducible apply pu_andV | with_reducible apply pu_orV | with_reducible apply pu_notV | with_reducible apply pu_if
    | with_reducible apply pu_isi hC | with_reducible apply pu_cb (hr := pu_len) | with_reducible apply pu_cb (hr := pu_all) | with_reducible apply pu_cb (hr := pu_any) | with_reducible apply pu_cb (hr := pu_tupOf) | with_reducible apply pu_cb (hr := pu_lstOf)
    | with_reducible exact pu_dnil
    | with_reducible apply pu_disp1
    | with_reducible apply pu_disp2
    | with_reducible apply pu_conf hdv'
    | with_reducible apply pu_op (hr := pu_ixT) | with_reducible apply pu_op (hr := pu_ixL) | with_reducible apply pu_op (hr := pu_eqS) | with_reducible apply pu_op (hr := pu_neS) | with_reducible apply pu_op (hr := pu_in) | with_reducible apply pu_op (hr := pu_isNo) | with_reducible apply pu_op (hr := pu_notNo)
    | with_reducible apply pu_op (hr := pu_cm) | with_reducible apply pu_op (hr := pu_ar) | with_reducible apply pu_op (hr := pu_eqP) | with_reducible apply pu_op (hr := pu_neP) | with_reducible apply pu_op (hr := pu_catT) | with_reducible apply pu_op (hr := pu_catL)
    | with_reducible apply pu_chain pu_cm pu_cm | with_reducible apply pu_lcV | with_reducible apply pu_dcV | with_reducible apply pu_iTup | with_reducible apply pu_iLst
    | with_reducible apply pu_slT | with_reducible apply pu_slL | with_reducible exact pu_noPart | with_reducible exact pu_part _
    | exact pu_str _ ⟨by decide +kernel, by decide +kernel⟩ | with_reducible apply pu_call | with_reducible apply pu_tup | with_reducible apply pu_lst | with_reducible apply pu_cons | (with_reducible_and_instances rfl) | rfl)); done)
    | ((with_reducible apply nd_pt); ((repeat' first
    | with_reducible exact pu_var _ | with_reducible exact pu_non | with_reducible exact pu_bl _ | with_reducible exact pu_int _ | with_reducible exact pu_nil | with_reducible exact pu_next | with_reducible exact pu_yes
    | with_reducible apply pu_seq | with_reducible apply pu_ifS | with_reducible apply pu_ret | with_reducible apply pu_asg
    | with_reducible apply pu_and | with_reducible apply pu_or | with_reducible apply pu_not | with_reducible apply pu_test | with_reducible apply pu_b
    | with_reducible apply pu_andV | with_reducible apply pu_orV | with_reducible apply pu_notV | with_reducible apply pu_if
    | with_reducible apply pu_isi hC | with_reducible apply pu_cb (hr := pu_len) | with_reducible apply pu_cb (hr := pu_all) | with_reducible apply pu_cb (hr := pu_any) | with_reducible apply pu_cb (hr := pu_tupOf) | with_reducible apply pu_cb (hr := pu_lstOf)
    | with_reducible exact pu_dnil
    | with_reducible apply pu_disp1
    | with_reducible apply pu_disp2
    | with_reducible apply pu_conf hdv'
    | with_reducible apply pu_op (hr := pu_ixT) | with_reducible apply pu_op (hr := pu_ixL) | with_reducible apply pu_op (hr := pu_eqS) | with_reducible apply pu_op (hr := pu_neS) | with_reducible apply pu_op (hr := pu_in) | with_reducible apply pu_op (hr := pu_isNo) | with_reducible apply pu_op (hr := pu_notNo)
    | with_reducible apply pu_op (hr := pu_cm) | with_reducible apply pu_op (hr := pu_ar) | with_reducible apply pu_op (hr := pu_eqP) | with_reducible apply pu_op (hr := pu_neP) | with_reducible apply pu_op (hr := pu_catT) | with_reducible apply pu_op (hr := pu_catL)
    | with_reducible apply pu_chain pu_cm pu_cm | with_reducible apply pu_lcV | with_reducible apply pu_dcV | with_reducible apply pu_iTup | with_reducible apply pu_iLst
    | with_reducible apply pu_slT | with_reducible apply pu_slL | with_reducible exact pu_noPart | with_reducible exact pu_part _
    | exact pu_str _ ⟨by decide +kernel, by decide +kernel⟩ | with_reducible apply pu_call | with_reducible apply pu_tup | with_reducible apply pu_lst | with_reducible apply pu_cons | (with_reducible_and_instances rfl) | rfl)); done)
    | with_reducible apply nd_if | with_reducible apply nd_test | with_reducible apply nd_call | with_reducible apply nd_cons
    | with_reducible apply nd_op (hr := pu_ar) | with_reducible apply nd_op (hr := pu_cm) | with_reducible apply nd_op (hr := pu_eqS) | with_reducible apply nd_tup | with_reducible apply nd_lst)
  case hm => exact Nat.le_trans (by decide : _ ≤ 10) (by omega)
  case hf => exact ⟨_, rfl, by omega, by omega, fun d d0 d1 => ⟨d.toNat, by omega, by rw [Int.toNat_of_nonneg d0]⟩⟩
  case ji => decide
  rintro v2 d2 H1 B1 nd1 ⟨kk, hk, rfl⟩
  refine st_lstOf (pu_var 1) nd1 rfl (by decide) (by show 3 < 5; decide) fun L1 H2 hL B2 o2 => ?_
  apply st_setO (nO := o2) (Φ := fun d => d = .lst (oddsL L))
  case hE => (repeat' first
    | with_reducible exact nd_next | with_reducible exact nd_nil
    | with_reducible apply nd_ret | with_reducible apply nd_seq | with_reducible apply nd_ifS | (with_reducible apply nd_asg (ij := by decide))
    | ((with_reducible apply nd_pu); ((repeat' first
    | with_reducible exact pu_var _ | with_reducible exact pu_non | with_reducible exact pu_bl _ | with_reducible exact pu_int _ | with_reducible exact pu_nil | with_reducible exact pu_next | with_reducible exact pu_yes
    | with_reducible apply pu_seq | with_reducible apply pu_ifS | with_reducible apply pu_ret | with_reducible apply pu_asg
    | with_reducible apply pu_and | with_reducible apply pu_or | with_reducible apply pu_not | with_reducible apply pu_test | with_reducible apply pu_b
    | with_reducible apply pu_andV | with_reducible apply pu_orV | with_reducible apply pu_notV | with_reducible apply pu_if
    | with_reducible apply pu_isi hC | with_reducible apply pu_cb (hr := pu_len) | with_reducible apply pu_cb (hr := pu_all) | with_reducible apply pu_cb (hr := pu_any) | with_reducible apply pu_cb (hr := pu_tupOf) | with_reducible apply pu_cb (hr := pu_lstOf)
    | with_reducible exact pu_dnil
    | with_reducible apply pu_disp1
    | with_reducible apply pu_disp2
    | with_reducible apply pu_conf hdv'
    | with_reducible apply pu_op (hr := pu_ixT) | with_reducible apply pu_op (hr := pu_ixL) | with_reducible apply pu_op (hr := pu_eqS) | with_reducible apply pu_op (hr := pu_neS) | with_reducible apply pu_op (hr := pu_in) | with_reducible apply pu_op (hr := pu_isNo) | with_reducible apply pu_op (hr := pu_notNo)
    | with_reducible apply pu_op (hr := pu_cm) | with_reducible apply pu_op (hr := pu_ar) | with_reducible apply pu_op (hr := pu_eqP) | with_reducible apply pu_op (hr := pu_neP) | with_reducible apply pu_op (hr := pu_catT) | with_reducible apply pu_op (hr := pu_catL)
    | with_reducible apply pu_chain pu_cm pu_cm | with_reducible apply pu_lcV | with_reducible apply pu_dcV | with_reducible apply pu_iTup | with_reducible apply pu_iLst
    | with_reducible apply pu_slT | with_reducible apply pu_slL | with_reducible exact pu_noPart | with_reducible exact pu_part _
    | exact pu_str _ ⟨by decide +kernel, by decide +kernel⟩ | with_reducible apply pu_call | with_reducible apply pu_tup | with_reducible apply pu_lst | with_reducible apply pu_cons | (with_reducible_and_instances rfl) | rfl)); done)
    | ((with_reducible apply nd_pt); ((repeat' first
    | with_reducible exact pu_var _ | with_reducible exact pu_non | with_reducible exact pu_bl _ | with_reducible exact pu_int _ | with_reducible exact pu_nil | with_reducible exact pu_next | with_reducible exact pu_yes
    | with_reducible apply pu_seq | with_reducible apply pu_ifS | with_reducible apply pu_ret | with_reducible apply pu_asg
    | with_reducible apply pu_and | with_reducible apply pu_or | with_reducible apply pu_not | with_reducible apply pu_test | with_reducible apply pu_b
    | with_reducible apply pu_andV | with_reducible apply pu_orV | with_reducible apply pu_notV | with_reducible apply pu_if
    | with_reducible apply pu_isi hC | with_reducible apply pu_cb (hr := pu_len) | with_reducible apply pu_cb (hr := pu_all) | with_reducible apply pu_cb (hr := pu_any) | with_reducible apply pu_cb (hr := pu_tupOf) | with_reducible apply pu_cb (hr := pu_lstOf)
    | with_reducible exact pu_dnil
    | with_reducible apply pu_disp1
    | with_reducible apply pu_disp2
    | with_reducible apply pu_conf hdv'
    | with_reducible apply pu_op (hr := pu_ixT) | with_reducible apply pu_op (hr := pu_ixL) | with_reducible apply pu_op (hr := pu_eqS) | with_reducible apply pu_op (hr := pu_neS) | with_reducible apply pu_op (hr := pu_in) | with_reducible apply pu_op (hr := pu_isNo) | with_reducible apply pu_op (hr := pu_notNo)
    | with_reducible apply pu_op (hr := pu_cm) | with_reducible apply pu_op (hr := pu_ar) | with_reducible apply pu_op (hr := pu_eqP) | with_reducible apply pu_op (hr := pu_neP) | with_reducible apply pu_op (hr := pu_catT) | with_reducible apply pu_op (hr := pu_catL)
    | with_reducible apply pu_chain pu_cm pu_cm | with_reducible apply pu_lcV | with_reducible apply pu_dcV | with_reducible apply pu_iTup | with_reducible apply pu_iLst
    | with_reducible apply pu_slT | with_reducible apply pu_slL | with_reducible exact pu_noPart | with_reducible exact pu_part _
    | exact pu_str _ ⟨by decide +kernel, by decide +kernel⟩ | with_reducible apply pu_call | with_reducible apply pu_tup | with_reducible apply pu_lst | with_reducible apply pu_cons | (with_reducible_and_instances rfl) | rfl)); done)
    | with_reducible apply nd_if | with_reducible apply nd_test | with_reducible apply nd_call | with_reducible apply nd_cons
    | with_reducible apply nd_op (hr := pu_ar) | with_reducible apply nd_op (hr := pu_cm) | with_reducible apply nd_op (hr := pu_eqS) | with_reducible apply nd_tup | with_reducible apply nd_lst)
  case hm => exact Nat.zero_le _
  case hf => exact ⟨_, rfl, rfl⟩
  case ji => decide
  case jl => decide
  rintro v4 d4 H3 B3 o3 rfl
  apply st_putV (kk := kk) (nO := o3) (Φ := fun o => o ∈ oddsL L)
  case hE => (repeat' first
    | with_reducible exact nd_next | with_reducible exact nd_nil
    | with_reducible apply nd_ret | with_reducible apply nd_seq | with_reducible apply nd_ifS | (with_reducible apply nd_asg (ij := by decide))
    | ((with_reducible apply nd_pu); ((repeat' first
    | with_reducible exact pu_var _ | with_reducible exact pu_non | with_reducible exact pu_bl _ | with_reducible exact pu_int _ | with_reducible exact pu_nil | with_reducible exact pu_next | with_reducible exact pu_yes
    | with_reducible apply pu_seq | with_reducible apply pu_ifS | with_reducible apply pu_ret | with_reducible apply pu_asg
    | with_reducible apply pu_and | with_reducible apply pu_or | with_reducible apply pu_not | with_reducible apply pu_test | with_reducible apply pu_b
    | with_reducible apply pu_andV | with_reducible apply pu_orV | with_reducible apply pu_notV | with_reducible apply pu_if
    | with_reducible apply pu_isi hC | with_reducible apply pu_cb (hr := pu_len) | with_reducible apply pu_cb (hr := pu_all) | with_reducible apply pu_cb (hr := pu_any) | with_reducible apply pu_cb (hr := pu_tupOf) | with_reducible apply pu_cb (hr := pu_lstOf)
    | with_reducible exact pu_dnil
    | with_reducible apply pu_disp1
    | with_reducible apply pu_disp2
    | with_reducible apply pu_conf hdv'
    | with_reducible apply pu_op (hr := pu_ixT) | with_reducible apply pu_op (hr := pu_ixL) | with_reducible apply pu_op (hr := pu_eqS) | with_reducible apply pu_op (hr := pu_neS) | with_reducible apply pu_op (hr := pu_in) | with_reducible apply pu_op (hr := pu_isNo) | with_reducible apply pu_op (hr := pu_notNo)
    | with_reducible apply pu_op (hr := pu_cm) | with_reducible apply pu_op (hr := pu_ar) | with_reducible apply pu_op (hr := pu_eqP) | with_reducible apply pu_op (hr := pu_neP) | with_reducible apply pu_op (hr := pu_catT) | with_reducible apply pu_op (hr := pu_catL)
    | with_reducible apply pu_chain pu_cm pu_cm | with_reducible apply pu_lcV | with_reducible apply pu_dcV | with_reducible apply pu_iTup | with_reducible apply pu_iLst
    | with_reducible apply pu_slT | with_reducible apply pu_slL | with_reducible exact pu_noPart | with_reducible exact pu_part _
    | exact pu_str _ ⟨by decide +kernel, by decide +kernel⟩ | with_reducible apply pu_call | with_reducible apply pu_tup | with_reducible apply pu_lst | with_reducible apply pu_cons | (with_reducible_and_instances rfl) | rfl)); done)
    | ((with_reducible apply nd_pt); ((repeat' first
    | with_reducible exact pu_var _ | with_reducible exact pu_non | with_reducible exact pu_bl _ | with_reducible exact pu_int _ | with_reducible exact pu_nil | with_reducible exact pu_next | with_reducible exact pu_yes
    | with_reducible apply pu_seq | with_reducible apply pu_ifS | with_reducible apply pu_ret | with_reducible apply pu_asg
    | with_reducible apply pu_and | with_reducible apply pu_or | with_reducible apply pu_not | with_reducible apply pu_test | with_reducible apply pu_b
    | with_reducible apply pu_andV | with_reducible apply pu_orV | with_reducible apply pu_notV | with_reducible apply pu_if
    | with_reducible apply pu_isi hC | with_reducible apply pu_cb (hr := pu_len) | with_reducible apply pu_cb (hr := pu_all) | with_reducible apply pu_cb (hr := pu_any) | with_reducible apply pu_cb (hr := pu_tupOf) | with_reducible apply pu_cb (hr := pu_lstOf)
    | with_reducible exact pu_dnil
    | with_reducible apply pu_disp1
    | with_reducible apply pu_disp2
    | with_reducible apply pu_conf hdv'
    | with_reducible apply pu_op (hr := pu_ixT) | with_reducible apply pu_op (hr := pu_ixL) | with_reducible apply pu_op (hr := pu_eqS) | with_reducible apply pu_op (hr := pu_neS) | with_reducible apply pu_op (hr := pu_in) | with_reducible apply pu_op (hr := pu_isNo) | with_reducible apply pu_op (hr := pu_notNo)
    | with_reducible apply pu_op (hr := pu_cm) | with_reducible apply pu_op (hr := pu_ar) | with_reducible apply pu_op (hr := pu_eqP) | with_reducible apply pu_op (hr := pu_neP) | with_reducible apply pu_op (hr := pu_catT) | with_reducible apply pu_op (hr := pu_catL)
    | with_reducible apply pu_chain pu_cm pu_cm | with_reducible apply pu_lcV | with_reducible apply pu_dcV | with_reducible apply pu_iTup | with_reducible apply pu_iLst
    | with_reducible apply pu_slT | with_reducible apply pu_slL | with_reducible exact pu_noPart | with_reducible exact pu_part _
    | exact pu_str _ ⟨by decide +kernel, by decide +kernel⟩ | with_reducible apply pu_call | with_reducible apply pu_tup | with_reducible apply pu_lst | with_reducible apply pu_cons | (with_reducible_and_instances rfl) | rfl)); done)
    | with_reducible apply nd_if | with_reducible apply nd_test | with_reducible apply nd_call | with_reducible apply nd_cons
    | with_reducible apply nd_op (hr := pu_ar) | with_reducible apply nd_op (hr := pu_cm) | with_reducible apply nd_op (hr := pu_eqS) | with_reducible apply nd_tup | with_reducible apply nd_lst)
  case hm => exact Nat.le_trans (by decide : _ ≤ 4) (by omega)
  case hf => exact ⟨_, rfl, (by decide : 0 < 14), fun d hd => hd⟩
  case ea => rfl
  case hk => exact hk
  intro d H4 B4 o4 hd
  have nd4 := o4.free (by rw [List.length_set]; omega) (fun b hb => (o4.nd.fr b hb).1) (nd1.fr L1 hL) nd1.nw rfl
  obtain ⟨v, sv, rv⟩ := nd4.get (j := 3) rfl
  exact ⟨v, sv, k v _ H4 (B1.trans (B4 H1 (B2.trans B3) hL)) (nd4.wl.le (by omega)) rv (hf kk hk d hd)⟩
end
end K15

namespace K15
open PySem L2 XR VT ET
variable [KC]
/-! the plain law: parts, what is told of them, what they are equal to -/
def toldE : E := .map [.inr "x", .inr "y"] [.tup [.str "say", .int 1], .tup [.str "tuple", .tup [.tup [.str "say", .str "a"]]]]
def turnE : E := .map [.inr "y", .inr "x"] [.tup [.str "tuple", .tup [.tup [.str "say", .str "a"]]], .tup [.str "say", .int 1]]
def netA : E := .tup [.str "net", .str "a"]
def cfgA (a : Addr) : E := .ins a flG [.tup [], .tup [], .tup [], .tup [], .tup [], .tup []]
def line (a : Addr) : Nat → List E
  | 0 => [.str "net", .str "a", toldE, .tup [.str "count", .tup [.str "say", .int 2]], .tup [.str "c"], .bl true, .bl false, .tup [.str "x"], .tup [.tup [.str "net", .str "b"]], .non]
  | 1 => [.str "net", .str "r", toldE, .tup [netA]]
  | 2 => [.str "c", cfgA a, toldE, .tup []]
  | _ => [netA, .tup [.str "net", .str "b", .int 1]]
def vars (a : Addr) (wy : Nat) : List (List E) := [line a wy, (line a wy).set 2 turnE]
def odds (a : Addr) : List E := [.non, .int 1, .bl true, .int 0, .bl false, .str "", .str "other", .tup [], .tup [.str "x"], .lst [.str "x"], .map [] [], .map [.inr "x"] [.int 1], .map [.inr "x"] [.bl true], cfgA a]
mutual
/-- the instances in it are of the class a -/
def cfD (a : Addr) : E → Bool
  | .tup l => cfL a l
  | .lst l => cfL a l
  | .map _ ds => cfL a ds
  | .ins C _ ds => decide (C = a) && cfL a ds
  | _ => true
def cfL (a : Addr) : List E → Bool
  | [] => true
  | d :: l => cfD a d && cfL a l
end
theorem cfL_mem {a : Addr} : ∀ {l : List E} {d : E}, cfL a l = true → d ∈ l → cfD a d = true
  | x :: l, d, h, hd => by
    obtain ⟨h1, h2⟩ := Bool.and_eq_true_iff.mp (show (cfD a x && cfL a l) = true from h)
    rcases List.mem_cons.mp hd with rfl | hd
    · exact h1
    · exact cfL_mem h2 hd
theorem cfL_of {a : Addr} : ∀ {l : List E}, (∀ d ∈ l, cfD a d = true) → cfL a l = true
  | [], _ => rfl
  | d :: l, h => Bool.and_eq_true_iff.mpr ⟨h d List.mem_cons_self, cfL_of fun e he => h e (List.mem_cons_of_mem _ he)⟩
theorem getE_mem {ks : List L2.Key} {ds : List E} {k : L2.Key} : getE ks ds k ∈ ds ∨ getE ks ds k = .non := by
  unfold getE
  split
  · rename_i p h
    have := List.mem_of_find?_eq_some h
    exact .inl (List.of_mem_zip this).2
  · exact .inr rfl
theorem cf_get {a : Addr} {ks : List L2.Key} {ds : List E} {k : L2.Key} (h : cfL a ds = true) : cfD a (getE ks ds k) = true := by
  rcases getE_mem (ks := ks) (ds := ds) (k := k) with m | e
  · exact cfL_mem h m
  · rw [e]
    rfl
def insH (q : E → E → Bool) : E → E → Bool
  | .ins _ _ ds, .ins _ _ ds' => q (.tup ds) (.tup ds')
  | _, _ => false
def eqH : Nat → E → E → Bool
  | 0, _, _ => false
  | n + 1, d, e => if insB d || insB e then insH (eqH n) d e else if lstB d || lstB e then lstEq (eqH n) d e else decide (sortE d = sortE e) && eqC (eqH n) d e
theorem all_congr' {α : Type} {l : List α} {p q : α → Bool} (h : ∀ x ∈ l, p x = q x) : l.all p = l.all q := by
  induction l with
  | nil => rfl
  | cons x l ih => rw [List.all_cons, List.all_cons, h x List.mem_cons_self, ih fun y hy => h y (List.mem_cons_of_mem _ hy)]
theorem eqGH {L : CL} : ∀ (n : Nat) (d e : E), cfD L.CG d = true → cfD L.CG e = true → eqG L n d e = eqH n d e
  | 0, _, _, _, _ => rfl
  | n + 1, d, e, hd, he => by
    have ih := eqGH (L := L) n
    have i1 : insEq L (eqG L n) d e = insH (eqH n) d e := by
      cases d with
      | ins C ns ds =>
        cases e with
        | ins C' ns' ds' =>
          obtain ⟨h1, h2⟩ := Bool.and_eq_true_iff.mp (show (decide (C = L.CG) && cfL L.CG ds) = true from hd)
          obtain ⟨h3, h4⟩ := Bool.and_eq_true_iff.mp (show (decide (C' = L.CG) && cfL L.CG ds') = true from he)
          have e1 := of_decide_eq_true h1
          have e2 := of_decide_eq_true h3
          subst e1
          rw [e2]
          show (decide (L.nm L.CG = L.nm L.CG) && eqG L n (.tup ds) (.tup ds')) = eqH n (.tup ds) (.tup ds')
          rw [decide_eq_true rfl, Bool.true_and]
          exact ih _ _ h2 h4
        | _ => rfl
      | _ => rfl
    have i2 : lstEq (eqG L n) d e = lstEq (eqH n) d e := by
      cases d with
      | lst l =>
        cases e with
        | lst m => exact ih (.tup l) (.tup m) hd he
        | _ => rfl
      | _ => rfl
    have i3 : eqC (eqG L n) d e = eqC (eqH n) d e := by
      cases d with
      | map ks ds =>
        cases e with
        | map ks' ds' =>
          show (_ && (_ && _)) = (_ && (_ && _))
          congr 2
          exact all_congr' fun p hp => ih _ _ (cfL_mem hd (List.of_mem_zip hp).2) (cf_get he)
        | _ => rfl
      | tup l =>
        cases e with
        | tup m =>
          show (_ && _) = (_ && _)
          congr 1
          exact all_congr' fun p hp => ih _ _ (cfL_mem hd (List.of_mem_zip hp).1) (cfL_mem he (List.of_mem_zip hp).2)
        | _ => rfl
      | _ => rfl
    show (if (insB d || insB e) = true then insEq L (eqG L n) d e else if (lstB d || lstB e) = true then lstEq (eqG L n) d e else decide (sortE d = sortE e) && eqC (eqG L n) d e) = _
    rw [i1, i2, i3]
    rfl
/-- the text, Config's apart -/
def txH : Nat → E → Option E
  | 0, _ => none
  | n + 1, .map ks ds => (((sortM [.map ks ds]).bind fun z => (unL z).bind fun l => mapO (fun x => (rep1E [x]).bind fun a => ((getM (.map ks ds) x).bind (txH n)).bind fun b => addS a b) l).bind fun r => joinE (.str ",") (.lst r)).bind fun t => (addS (.str "map(") t).bind fun u => addS u (.str ")")
  | n + 1, .lst l => (((seqE (.lst l)).bind (mapO (txH n))).bind fun r => joinE (.str ",") (.lst r)).bind fun t => (addS (.str "list(") t).bind fun u => addS u (.str ")")
  | n + 1, .tup l => (((seqE (.tup l)).bind (mapO (txH n))).bind fun r => joinE (.str ",") (.lst r)).bind fun t => (addS (.str "tuple(") t).bind fun u => addS u (.str ")")
  | _ + 1, .ins _ _ _ => some (.str "config")
  | _ + 1, d => rep1E [d]
theorem mapO_congr {f g : E → Option E} : ∀ {l : List E}, (∀ x ∈ l, f x = g x) → mapO f l = mapO g l
  | [], _ => rfl
  | x :: l, h => by rw [mapO, mapO, h x List.mem_cons_self, mapO_congr fun y hy => h y (List.mem_cons_of_mem _ hy)]
theorem seq_le {l : List E} {f g : E → Option E} (h : ∀ x ∈ l, f x = g x) : (if l.length ≤ 900 then some l else none).bind (mapO f) = (if l.length ≤ 900 then some l else none).bind (mapO g) := by
  split
  · exact mapO_congr h
  · rfl
theorem txGH {a : Addr} : ∀ (n : Nat) (d : E), cfD a d = true → txG a n d = txH n d
  | 0, _, _ => rfl
  | n + 1, d, hd => by
    have ih := txGH (a := a) n
    cases d with
    | map ks ds =>
      have hx : ∀ x, ((getM (.map ks ds) x).bind (txG a n)) = ((getM (.map ks ds) x).bind (txH n)) := fun x => by
        cases x with
        | str y =>
          show (if hasK ks (Sum.inr y) = true then some (getE ks ds (Sum.inr y)) else none).bind _ = (if hasK ks (Sum.inr y) = true then some (getE ks ds (Sum.inr y)) else none).bind _
          split
          · exact ih _ (cf_get hd)
          · rfl
        | _ => rfl
      have e : (fun x => (rep1E [x]).bind fun c => ((getM (.map ks ds) x).bind (txG a n)).bind fun b => addS c b) = fun x => (rep1E [x]).bind fun c => ((getM (.map ks ds) x).bind (txH n)).bind fun b => addS c b := funext fun x => by rw [hx x]
      show (((sortM [.map ks ds]).bind fun z => (unL z).bind fun l => mapO (fun x => (rep1E [x]).bind fun c => ((getM (.map ks ds) x).bind (txG a n)).bind fun b => addS c b) l).bind _).bind _ = _
      rw [e]
      rfl
    | lst l =>
      have e : (seqE (.lst l)).bind (mapO (txG a n)) = (seqE (.lst l)).bind (mapO (txH n)) := seq_le fun x hx => ih x (cfL_mem hd hx)
      show (((seqE (.lst l)).bind (mapO (txG a n))).bind _).bind _ = _
      rw [e]
      rfl
    | tup l =>
      have e : (seqE (.tup l)).bind (mapO (txG a n)) = (seqE (.tup l)).bind (mapO (txH n)) := seq_le fun x hx => ih x (cfL_mem hd hx)
      show (((seqE (.tup l)).bind (mapO (txG a n))).bind _).bind _ = _
      rw [e]
      rfl
    | ins C ns l =>
      have h := of_decide_eq_true (Bool.and_eq_true_iff.mp (show (decide (C = a) && cfL a l) = true from hd)).1
      exact if_pos h
    | _ => rfl
mutual
def qH : E → Bool
  | .tup l => tagD (.tup l) && qHL l
  | .lst l => tagD (.tup l) && decide (l.length ≤ 900) && qHL l
  | .map ks ds => ks.all keyB && ds.all vq
  | .ins _ ns ds => decide (ns = flG) && decide (ds.length = 6) && tagD (.tup ds) && qHL ds
  | _ => true
def qHL : List E → Bool
  | [] => true
  | d :: l => qH d && qHL l
end
mutual
theorem qgH {L : CL} (D : CLok L) : ∀ (d : E), cfD L.CG d = true → qH d = true → qg L d = true
  | .tup l, h, q => by
    obtain ⟨q1, q2⟩ := Bool.and_eq_true_iff.mp (show (tagD (.tup l) && qHL l) = true from q)
    exact Bool.and_eq_true_iff.mpr ⟨q1, qgHL D l h q2⟩
  | .lst l, h, q => by
    obtain ⟨q1, q2⟩ := Bool.and_eq_true_iff.mp (show (tagD (.tup l) && decide (l.length ≤ 900) && qHL l) = true from q)
    exact Bool.and_eq_true_iff.mpr ⟨q1, qgHL D l h q2⟩
  | .map ks ds, _, q => q
  | .ins C ns ds, h, q => by
    obtain ⟨h1, h2⟩ := Bool.and_eq_true_iff.mp (show (decide (C = L.CG) && cfL L.CG ds) = true from h)
    have h1' := of_decide_eq_true h1
    subst h1'
    have q : (decide (ns = flG) && decide (ds.length = 6) && tagD (.tup ds) && qHL ds) = true := q
    simp only [Bool.and_eq_true, decide_eq_true_eq] at q
    obtain ⟨⟨⟨q1, q2⟩, q3⟩, q4⟩ := q
    show (decide (L.CG ∈ L.all) && decide (ns = L.fl L.CG) && decide (ds.length = (L.fl L.CG).length) && tagD (.tup ds) && qgL L ds) = true
    rw [flG_ D, decide_eq_true inG, decide_eq_true q1, decide_eq_true (show ds.length = flG.length from q2), q3, qgHL D ds h2 q4]
    rfl
  | .non, _, _ => rfl
  | .bl _, _, _ => rfl
  | .int _, _, _ => rfl
  | .str _, _, _ => rfl
theorem qgHL {L : CL} (D : CLok L) : ∀ (l : List E), cfL L.CG l = true → qHL l = true → qgL L l = true
  | [], _, _ => rfl
  | d :: l, h, q => by
    obtain ⟨h1, h2⟩ := Bool.and_eq_true_iff.mp (show (cfD L.CG d && cfL L.CG l) = true from h)
    obtain ⟨q1, q2⟩ := Bool.and_eq_true_iff.mp (show (qH d && qHL l) = true from q)
    exact Bool.and_eq_true_iff.mpr ⟨qgH D d h1 q1, qgHL D l h2 q2⟩
end
def good (l : List E) : Bool := tagD (.tup l) && qHL l && decide (wtL l < 5)
def same (l m : List E) : Bool := match txH 7 (.lst l), txH 7 (.lst m) with
  | some (.str t), some (.str u) => (eqH 6 (.tup l) (.tup m) == decide (t = u)) && (eqH 6 (.tup m) (.tup l) == decide (t = u))
  | _, _ => false
def chkR (a : Addr) (wy v : Nat) : Bool := match (vars a wy)[v]? with
  | some l => good l && eqH 6 (.tup (line a wy)) (.tup l) && decide (l.length = (line a wy).length)
  | none => true
def chkK (a : Addr) (wy v kk : Nat) : Bool := match (vars a wy)[v]? with
  | some l => (odds a).all fun o => good (l.set kk o) && same l (l.set kk o)
  | none => true
theorem cr0_0 (a : Addr) : chkR a 0 0 = true := by kernel_rfl
theorem cr0_1 (a : Addr) : chkR a 0 1 = true := by kernel_rfl
theorem cr1_0 (a : Addr) : chkR a 1 0 = true := by kernel_rfl
theorem cr1_1 (a : Addr) : chkR a 1 1 = true := by kernel_rfl
theorem cr2_0 (a : Addr) : chkR a 2 0 = true := by kernel_rfl
theorem cr2_1 (a : Addr) : chkR a 2 1 = true := by kernel_rfl
theorem cr3_0 (a : Addr) : chkR a 3 0 = true := by kernel_rfl
theorem cr3_1 (a : Addr) : chkR a 3 1 = true := by kernel_rfl
end K15

namespace K15
open PySem L2 XR VT ET
variable [KC]

def oddP (a : Addr) : List (E × Str) := [(.non, ⟨#[78, 111, 110, 101]⟩), (.int 1, ⟨#[49]⟩), (.bl true, ⟨#[84, 114, 117, 101]⟩), (.int 0, ⟨#[48]⟩), (.bl false, ⟨#[70, 97, 108, 115, 101]⟩), (.str "", ⟨#[39, 39]⟩), (.str "other", ⟨#[39, 111, 116, 104, 101, 114, 39]⟩), (.tup [], ⟨#[116, 117, 112, 108, 101, 40, 41]⟩), (.tup [.str "x"], ⟨#[116, 117, 112, 108, 101, 40, 39, 120, 39, 41]⟩), (.lst [.str "x"], ⟨#[108, 105, 115, 116, 40, 39, 120, 39, 41]⟩), (.map [] [], ⟨#[109, 97, 112, 40, 41]⟩), (.map [.inr "x"] [.int 1], ⟨#[109, 97, 112, 40, 39, 120, 39, 49, 41]⟩), (.map [.inr "x"] [.bl true], ⟨#[109, 97, 112, 40, 39, 120, 39, 84, 114, 117, 101, 41]⟩), (cfgA a, ⟨#[99, 111, 110, 102, 105, 103]⟩)]
theorem oddP_fst (a : Addr) : (oddP a).map (·.1) = odds a := rfl
/-- d's text is t -/
structure Tx (d : E) (t : Str) : Prop where
  tx : txH 6 d = some (.str t)
  ok : PyData.strOk t = true
  le : t.length ≤ 70
def cross (a : Addr) (d : E) (t : Str) : Bool := (oddP a).all fun o => (eqH 5 d o.1 == decide (t = o.2)) && (eqH 5 o.1 d == decide (t = o.2))
structure Pt (a : Addr) (q : E × Str) : Prop where
  tx : Tx q.1 q.2
  rf : eqH 5 q.1 q.1 = true
  cr : cross a q.1 q.2 = true
def p_net (a : Addr) : E × Str := (.str "net", ⟨#[39, 110, 101, 116, 39]⟩)
theorem pt_net (a : Addr) : Pt a (p_net a) := ⟨⟨by kernel_rfl, by kernel_rfl, (show 5 ≤ 70 by decide)⟩, by kernel_rfl, by kernel_rfl⟩
def p_a (a : Addr) : E × Str := (.str "a", ⟨#[39, 97, 39]⟩)
theorem pt_a (a : Addr) : Pt a (p_a a) := ⟨⟨by kernel_rfl, by kernel_rfl, (show 3 ≤ 70 by decide)⟩, by kernel_rfl, by kernel_rfl⟩
def p_told (a : Addr) : E × Str := (toldE, ⟨#[109, 97, 112, 40, 39, 120, 39, 116, 117, 112, 108, 101, 40, 39, 115, 97, 121, 39, 44, 49, 41, 44, 39, 121, 39, 116, 117, 112, 108, 101, 40, 39, 116, 117, 112, 108, 101, 39, 44, 116, 117, 112, 108, 101, 40, 116, 117, 112, 108, 101, 40, 39, 115, 97, 121, 39, 44, 39, 97, 39, 41, 41, 41, 41]⟩)
theorem pt_told (a : Addr) : Pt a (p_told a) := ⟨⟨by kernel_rfl, by kernel_rfl, (show 64 ≤ 70 by decide)⟩, by kernel_rfl, by kernel_rfl⟩
def p_count (a : Addr) : E × Str := (.tup [.str "count", .tup [.str "say", .int 2]], ⟨#[116, 117, 112, 108, 101, 40, 39, 99, 111, 117, 110, 116, 39, 44, 116, 117, 112, 108, 101, 40, 39, 115, 97, 121, 39, 44, 50, 41, 41]⟩)
theorem pt_count (a : Addr) : Pt a (p_count a) := ⟨⟨by kernel_rfl, by kernel_rfl, (show 29 ≤ 70 by decide)⟩, by kernel_rfl, by kernel_rfl⟩
def p_ct (a : Addr) : E × Str := (.tup [.str "c"], ⟨#[116, 117, 112, 108, 101, 40, 39, 99, 39, 41]⟩)
theorem pt_ct (a : Addr) : Pt a (p_ct a) := ⟨⟨by kernel_rfl, by kernel_rfl, (show 10 ≤ 70 by decide)⟩, by kernel_rfl, by kernel_rfl⟩
def p_tt (a : Addr) : E × Str := (.bl true, ⟨#[84, 114, 117, 101]⟩)
theorem pt_tt (a : Addr) : Pt a (p_tt a) := ⟨⟨by kernel_rfl, by kernel_rfl, (show 4 ≤ 70 by decide)⟩, by kernel_rfl, by kernel_rfl⟩
def p_ff (a : Addr) : E × Str := (.bl false, ⟨#[70, 97, 108, 115, 101]⟩)
theorem pt_ff (a : Addr) : Pt a (p_ff a) := ⟨⟨by kernel_rfl, by kernel_rfl, (show 5 ≤ 70 by decide)⟩, by kernel_rfl, by kernel_rfl⟩
def p_xt (a : Addr) : E × Str := (.tup [.str "x"], ⟨#[116, 117, 112, 108, 101, 40, 39, 120, 39, 41]⟩)
theorem pt_xt (a : Addr) : Pt a (p_xt a) := ⟨⟨by kernel_rfl, by kernel_rfl, (show 10 ≤ 70 by decide)⟩, by kernel_rfl, by kernel_rfl⟩
def p_nb (a : Addr) : E × Str := (.tup [.tup [.str "net", .str "b"]], ⟨#[116, 117, 112, 108, 101, 40, 116, 117, 112, 108, 101, 40, 39, 110, 101, 116, 39, 44, 39, 98, 39, 41, 41]⟩)
theorem pt_nb (a : Addr) : Pt a (p_nb a) := ⟨⟨by kernel_rfl, by kernel_rfl, (show 23 ≤ 70 by decide)⟩, by kernel_rfl, by kernel_rfl⟩
def p_no (a : Addr) : E × Str := (.non, ⟨#[78, 111, 110, 101]⟩)
theorem pt_no (a : Addr) : Pt a (p_no a) := ⟨⟨by kernel_rfl, by kernel_rfl, (show 4 ≤ 70 by decide)⟩, by kernel_rfl, by kernel_rfl⟩
def p_r (a : Addr) : E × Str := (.str "r", ⟨#[39, 114, 39]⟩)
theorem pt_r (a : Addr) : Pt a (p_r a) := ⟨⟨by kernel_rfl, by kernel_rfl, (show 3 ≤ 70 by decide)⟩, by kernel_rfl, by kernel_rfl⟩
def p_na1 (a : Addr) : E × Str := (.tup [netA], ⟨#[116, 117, 112, 108, 101, 40, 116, 117, 112, 108, 101, 40, 39, 110, 101, 116, 39, 44, 39, 97, 39, 41, 41]⟩)
theorem pt_na1 (a : Addr) : Pt a (p_na1 a) := ⟨⟨by kernel_rfl, by kernel_rfl, (show 23 ≤ 70 by decide)⟩, by kernel_rfl, by kernel_rfl⟩
def p_c (a : Addr) : E × Str := (.str "c", ⟨#[39, 99, 39]⟩)
theorem pt_c (a : Addr) : Pt a (p_c a) := ⟨⟨by kernel_rfl, by kernel_rfl, (show 3 ≤ 70 by decide)⟩, by kernel_rfl, by kernel_rfl⟩
def p_cfg (a : Addr) : E × Str := (cfgA a, ⟨#[99, 111, 110, 102, 105, 103]⟩)
theorem pt_cfg (a : Addr) : Pt a (p_cfg a) := ⟨⟨by kernel_rfl, by kernel_rfl, (show 6 ≤ 70 by decide)⟩, by kernel_rfl, by kernel_rfl⟩
def p_nil (a : Addr) : E × Str := (.tup [], ⟨#[116, 117, 112, 108, 101, 40, 41]⟩)
theorem pt_nil (a : Addr) : Pt a (p_nil a) := ⟨⟨by kernel_rfl, by kernel_rfl, (show 7 ≤ 70 by decide)⟩, by kernel_rfl, by kernel_rfl⟩
def p_netA (a : Addr) : E × Str := (netA, ⟨#[116, 117, 112, 108, 101, 40, 39, 110, 101, 116, 39, 44, 39, 97, 39, 41]⟩)
theorem pt_netA (a : Addr) : Pt a (p_netA a) := ⟨⟨by kernel_rfl, by kernel_rfl, (show 16 ≤ 70 by decide)⟩, by kernel_rfl, by kernel_rfl⟩
def p_nb1 (a : Addr) : E × Str := (.tup [.str "net", .str "b", .int 1], ⟨#[116, 117, 112, 108, 101, 40, 39, 110, 101, 116, 39, 44, 39, 98, 39, 44, 49, 41]⟩)
theorem pt_nb1 (a : Addr) : Pt a (p_nb1 a) := ⟨⟨by kernel_rfl, by kernel_rfl, (show 18 ≤ 70 by decide)⟩, by kernel_rfl, by kernel_rfl⟩
def p_turn (a : Addr) : E × Str := (turnE, ⟨#[109, 97, 112, 40, 39, 120, 39, 116, 117, 112, 108, 101, 40, 39, 115, 97, 121, 39, 44, 49, 41, 44, 39, 121, 39, 116, 117, 112, 108, 101, 40, 39, 116, 117, 112, 108, 101, 39, 44, 116, 117, 112, 108, 101, 40, 116, 117, 112, 108, 101, 40, 39, 115, 97, 121, 39, 44, 39, 97, 39, 41, 41, 41, 41]⟩)
theorem pt_turn (a : Addr) : Pt a (p_turn a) := ⟨⟨by kernel_rfl, by kernel_rfl, (show 64 ≤ 70 by decide)⟩, by kernel_rfl, by kernel_rfl⟩
theorem ot_0 (a : Addr) : Tx (.non) ⟨#[78, 111, 110, 101]⟩ := ⟨by kernel_rfl, by kernel_rfl, (show 4 ≤ 70 by decide)⟩
theorem ot_1 (a : Addr) : Tx (.int 1) ⟨#[49]⟩ := ⟨by kernel_rfl, by kernel_rfl, (show 1 ≤ 70 by decide)⟩
theorem ot_2 (a : Addr) : Tx (.bl true) ⟨#[84, 114, 117, 101]⟩ := ⟨by kernel_rfl, by kernel_rfl, (show 4 ≤ 70 by decide)⟩
theorem ot_3 (a : Addr) : Tx (.int 0) ⟨#[48]⟩ := ⟨by kernel_rfl, by kernel_rfl, (show 1 ≤ 70 by decide)⟩
theorem ot_4 (a : Addr) : Tx (.bl false) ⟨#[70, 97, 108, 115, 101]⟩ := ⟨by kernel_rfl, by kernel_rfl, (show 5 ≤ 70 by decide)⟩
theorem ot_5 (a : Addr) : Tx (.str "") ⟨#[39, 39]⟩ := ⟨by kernel_rfl, by kernel_rfl, (show 2 ≤ 70 by decide)⟩
theorem ot_6 (a : Addr) : Tx (.str "other") ⟨#[39, 111, 116, 104, 101, 114, 39]⟩ := ⟨by kernel_rfl, by kernel_rfl, (show 7 ≤ 70 by decide)⟩
theorem ot_7 (a : Addr) : Tx (.tup []) ⟨#[116, 117, 112, 108, 101, 40, 41]⟩ := ⟨by kernel_rfl, by kernel_rfl, (show 7 ≤ 70 by decide)⟩
theorem ot_8 (a : Addr) : Tx (.tup [.str "x"]) ⟨#[116, 117, 112, 108, 101, 40, 39, 120, 39, 41]⟩ := ⟨by kernel_rfl, by kernel_rfl, (show 10 ≤ 70 by decide)⟩
theorem ot_9 (a : Addr) : Tx (.lst [.str "x"]) ⟨#[108, 105, 115, 116, 40, 39, 120, 39, 41]⟩ := ⟨by kernel_rfl, by kernel_rfl, (show 9 ≤ 70 by decide)⟩
theorem ot_10 (a : Addr) : Tx (.map [] []) ⟨#[109, 97, 112, 40, 41]⟩ := ⟨by kernel_rfl, by kernel_rfl, (show 5 ≤ 70 by decide)⟩
theorem ot_11 (a : Addr) : Tx (.map [.inr "x"] [.int 1]) ⟨#[109, 97, 112, 40, 39, 120, 39, 49, 41]⟩ := ⟨by kernel_rfl, by kernel_rfl, (show 9 ≤ 70 by decide)⟩
theorem ot_12 (a : Addr) : Tx (.map [.inr "x"] [.bl true]) ⟨#[109, 97, 112, 40, 39, 120, 39, 84, 114, 117, 101, 41]⟩ := ⟨by kernel_rfl, by kernel_rfl, (show 12 ≤ 70 by decide)⟩
theorem ot_13 (a : Addr) : Tx (cfgA a) ⟨#[99, 111, 110, 102, 105, 103]⟩ := ⟨by kernel_rfl, by kernel_rfl, (show 6 ≤ 70 by decide)⟩
theorem odd_tx (a : Addr) : ∀ q ∈ oddP a, Tx q.1 q.2 := List.forall_mem_cons.mpr ⟨ot_0 a, List.forall_mem_cons.mpr ⟨ot_1 a, List.forall_mem_cons.mpr ⟨ot_2 a, List.forall_mem_cons.mpr ⟨ot_3 a, List.forall_mem_cons.mpr ⟨ot_4 a, List.forall_mem_cons.mpr ⟨ot_5 a, List.forall_mem_cons.mpr ⟨ot_6 a, List.forall_mem_cons.mpr ⟨ot_7 a, List.forall_mem_cons.mpr ⟨ot_8 a, List.forall_mem_cons.mpr ⟨ot_9 a, List.forall_mem_cons.mpr ⟨ot_10 a, List.forall_mem_cons.mpr ⟨ot_11 a, List.forall_mem_cons.mpr ⟨ot_12 a, List.forall_mem_cons.mpr ⟨ot_13 a, fun _ h => nomatch h⟩⟩⟩⟩⟩⟩⟩⟩⟩⟩⟩⟩⟩⟩
def row00 (a : Addr) : List (E × Str) := [p_net a, p_a a, p_told a, p_count a, p_ct a, p_tt a, p_ff a, p_xt a, p_nb a, p_no a]
theorem row00_ok (a : Addr) : ∀ q ∈ row00 a, Pt a q := List.forall_mem_cons.mpr ⟨pt_net a, List.forall_mem_cons.mpr ⟨pt_a a, List.forall_mem_cons.mpr ⟨pt_told a, List.forall_mem_cons.mpr ⟨pt_count a, List.forall_mem_cons.mpr ⟨pt_ct a, List.forall_mem_cons.mpr ⟨pt_tt a, List.forall_mem_cons.mpr ⟨pt_ff a, List.forall_mem_cons.mpr ⟨pt_xt a, List.forall_mem_cons.mpr ⟨pt_nb a, List.forall_mem_cons.mpr ⟨pt_no a, fun _ h => nomatch h⟩⟩⟩⟩⟩⟩⟩⟩⟩⟩
theorem row00_fst (a : Addr) : (vars a 0)[0]? = some ((row00 a).map (·.1)) := rfl
def row01 (a : Addr) : List (E × Str) := [p_net a, p_a a, p_turn a, p_count a, p_ct a, p_tt a, p_ff a, p_xt a, p_nb a, p_no a]
theorem row01_ok (a : Addr) : ∀ q ∈ row01 a, Pt a q := List.forall_mem_cons.mpr ⟨pt_net a, List.forall_mem_cons.mpr ⟨pt_a a, List.forall_mem_cons.mpr ⟨pt_turn a, List.forall_mem_cons.mpr ⟨pt_count a, List.forall_mem_cons.mpr ⟨pt_ct a, List.forall_mem_cons.mpr ⟨pt_tt a, List.forall_mem_cons.mpr ⟨pt_ff a, List.forall_mem_cons.mpr ⟨pt_xt a, List.forall_mem_cons.mpr ⟨pt_nb a, List.forall_mem_cons.mpr ⟨pt_no a, fun _ h => nomatch h⟩⟩⟩⟩⟩⟩⟩⟩⟩⟩
theorem row01_fst (a : Addr) : (vars a 0)[1]? = some ((row01 a).map (·.1)) := rfl
def row10 (a : Addr) : List (E × Str) := [p_net a, p_r a, p_told a, p_na1 a]
theorem row10_ok (a : Addr) : ∀ q ∈ row10 a, Pt a q := List.forall_mem_cons.mpr ⟨pt_net a, List.forall_mem_cons.mpr ⟨pt_r a, List.forall_mem_cons.mpr ⟨pt_told a, List.forall_mem_cons.mpr ⟨pt_na1 a, fun _ h => nomatch h⟩⟩⟩⟩
theorem row10_fst (a : Addr) : (vars a 1)[0]? = some ((row10 a).map (·.1)) := rfl
def row11 (a : Addr) : List (E × Str) := [p_net a, p_r a, p_turn a, p_na1 a]
theorem row11_ok (a : Addr) : ∀ q ∈ row11 a, Pt a q := List.forall_mem_cons.mpr ⟨pt_net a, List.forall_mem_cons.mpr ⟨pt_r a, List.forall_mem_cons.mpr ⟨pt_turn a, List.forall_mem_cons.mpr ⟨pt_na1 a, fun _ h => nomatch h⟩⟩⟩⟩
theorem row11_fst (a : Addr) : (vars a 1)[1]? = some ((row11 a).map (·.1)) := rfl
def row20 (a : Addr) : List (E × Str) := [p_c a, p_cfg a, p_told a, p_nil a]
theorem row20_ok (a : Addr) : ∀ q ∈ row20 a, Pt a q := List.forall_mem_cons.mpr ⟨pt_c a, List.forall_mem_cons.mpr ⟨pt_cfg a, List.forall_mem_cons.mpr ⟨pt_told a, List.forall_mem_cons.mpr ⟨pt_nil a, fun _ h => nomatch h⟩⟩⟩⟩
theorem row20_fst (a : Addr) : (vars a 2)[0]? = some ((row20 a).map (·.1)) := rfl
def row21 (a : Addr) : List (E × Str) := [p_c a, p_cfg a, p_turn a, p_nil a]
theorem row21_ok (a : Addr) : ∀ q ∈ row21 a, Pt a q := List.forall_mem_cons.mpr ⟨pt_c a, List.forall_mem_cons.mpr ⟨pt_cfg a, List.forall_mem_cons.mpr ⟨pt_turn a, List.forall_mem_cons.mpr ⟨pt_nil a, fun _ h => nomatch h⟩⟩⟩⟩
theorem row21_fst (a : Addr) : (vars a 2)[1]? = some ((row21 a).map (·.1)) := rfl
def row30 (a : Addr) : List (E × Str) := [p_netA a, p_nb1 a]
theorem row30_ok (a : Addr) : ∀ q ∈ row30 a, Pt a q := List.forall_mem_cons.mpr ⟨pt_netA a, List.forall_mem_cons.mpr ⟨pt_nb1 a, fun _ h => nomatch h⟩⟩
theorem row30_fst (a : Addr) : (vars a 3)[0]? = some ((row30 a).map (·.1)) := rfl
def row31 (a : Addr) : List (E × Str) := [p_netA a, p_nb1 a]
theorem row31_ok (a : Addr) : ∀ q ∈ row31 a, Pt a q := List.forall_mem_cons.mpr ⟨pt_netA a, List.forall_mem_cons.mpr ⟨pt_nb1 a, fun _ h => nomatch h⟩⟩
theorem row31_fst (a : Addr) : (vars a 3)[1]? = some ((row31 a).map (·.1)) := rfl
end K15

namespace K15
open PySem L2 XR VT ET
variable [KC]
/-! texts of lists of parts -/
theorem joinL_cons {S p : List Nat} : ∀ {l : List (List Nat)}, l ≠ [] → TL.joinL S (p :: l) = p ++ (S ++ TL.joinL S l)
  | [], h => absurd rfl h
  | _ :: _, _ => rfl
theorem joinL_cancel {S : List Nat} : ∀ (l : List (List Nat)) (k : Nat) (y z : List Nat), k < l.length → TL.joinL S (l.set k y) = TL.joinL S (l.set k z) → y = z
  | [p], 0, y, z, _, h => h
  | [p], k + 1, y, z, hk, h => absurd hk (by simp)
  | p :: q :: r, 0, y, z, _, h => by
    have h : y ++ (S ++ TL.joinL S (q :: r)) = z ++ (S ++ TL.joinL S (q :: r)) := h
    exact List.append_cancel_right h
  | p :: q :: r, k + 1, y, z, hk, h => by
    have ne : ∀ w, (q :: r).set k w ≠ [] := fun w e => by
      have := congrArg List.length e
      rw [List.length_set] at this
      cases this
    have h : TL.joinL S (p :: (q :: r).set k y) = TL.joinL S (p :: (q :: r).set k z) := h
    rw [joinL_cons (ne y), joinL_cons (ne z)] at h
    exact joinL_cancel (q :: r) k y z (Nat.lt_of_succ_lt_succ hk) (List.append_cancel_left (List.append_cancel_left h))
theorem joinL_len {S : List Nat} {n m : Nat} (hS : S.length = m) : ∀ (l : List (List Nat)), (∀ x ∈ l, x.length ≤ n) → (TL.joinL S l).length ≤ l.length * (n + m)
  | [], _ => Nat.zero_le _
  | [p], h => by
    have := h p List.mem_cons_self
    show p.length ≤ 1 * (n + m)
    omega
  | p :: q :: r, h => by
    have h1 := h p List.mem_cons_self
    have h2 := joinL_len hS (q :: r) fun x hx => h x (List.mem_cons_of_mem _ hx)
    show (p ++ (S ++ TL.joinL S (q :: r))).length ≤ _
    rw [List.length_append, List.length_append, hS, List.length_cons, Nat.add_mul]
    omega
theorem joinL_all {S : List Nat} {Pn : Nat → Prop} (hS : ∀ c ∈ S, Pn c) : ∀ (l : List (List Nat)), (∀ x ∈ l, ∀ c ∈ x, Pn c) → ∀ c ∈ TL.joinL S l, Pn c
  | [], _, c, h => nomatch h
  | [p], hp, c, h => hp p List.mem_cons_self c h
  | p :: q :: r, hp, c, h => by
    have h : c ∈ p ++ (S ++ TL.joinL S (q :: r)) := h
    rcases List.mem_append.mp h with h | h
    · exact hp p List.mem_cons_self c h
    · rcases List.mem_append.mp h with h | h
      · exact hS c h
      · exact joinL_all hS (q :: r) (fun x hx => hp x (List.mem_cons_of_mem _ hx)) c h
theorem tl_len (x : Str) : (TL.tl x).length = x.length := by
  show x.cps.toList.length = x.cps.size
  exact Array.length_toList
theorem strOk_iff {x : Str} : PyData.strOk x = true ↔ ∀ c ∈ TL.tl x, c < 0x110000 := by
  show x.cps.all (· < 0x110000) = true ↔ ∀ c ∈ x.cps.toList, c < 0x110000
  rw [← Array.all_toList, List.all_eq_true]
  exact ⟨fun h c hc => of_decide_eq_true (h c hc), fun h c hc => decide_eq_true (h c hc)⟩
theorem strOk_app {x y : Str} (h1 : PyData.strOk x = true) (h2 : PyData.strOk y = true) : PyData.strOk (x ++ y) = true := by
  rw [strOk_iff] at h1 h2 ⊢
  rw [TL.tl_append]
  intro c hc
  rcases List.mem_append.mp hc with h | h
  · exact h1 c h
  · exact h2 c h
theorem len_app (x y : Str) : (x ++ y).length = x.length + y.length := by
  rw [← tl_len, TL.tl_append, List.length_append, tl_len, tl_len]
theorem tl_jn (S : Str) (ts : List Str) : TL.tl (Txt.join S ts) = TL.joinL (TL.tl S) (ts.map TL.tl) := by
  rw [TL.join_eq]
  exact TL.tl_join S ts
theorem strOk_join {S : Str} {ts : List Str} (hS : PyData.strOk S = true) (h : ∀ t ∈ ts, PyData.strOk t = true) : PyData.strOk (Txt.join S ts) = true := by
  rw [strOk_iff, tl_jn]
  refine joinL_all (strOk_iff.mp hS) _ fun x hx c hc => ?_
  obtain ⟨t, ht, rfl⟩ := List.mem_map.mp hx
  exact strOk_iff.mp (h t ht) c hc
theorem len_join {S : Str} {ts : List Str} {n m : Nat} (hS : S.length = m) (h : ∀ t ∈ ts, t.length ≤ n) : (Txt.join S ts).length ≤ ts.length * (n + m) := by
  rw [← tl_len, tl_jn]
  have := joinL_len (n := n) (m := m) (S := TL.tl S) (by rw [tl_len, hS]) (ts.map TL.tl) fun x hx => by
    obtain ⟨t, ht, rfl⟩ := List.mem_map.mp hx
    rw [tl_len]
    exact h t ht
  rwa [List.length_map] at this
def lS : Str := "list("
def rS : Str := ")"
def cS : Str := ","
theorem lS_len : lS.length = 5 := by kernel_rfl
theorem rS_len : rS.length = 1 := by kernel_rfl
theorem cS_len : cS.length = 1 := by kernel_rfl
theorem lS_ok : PyData.strOk lS = true := by kernel_rfl
theorem rS_ok : PyData.strOk rS = true := by kernel_rfl
theorem cS_ok : PyData.strOk cS = true := by kernel_rfl
def txL (ts : List Str) : Str := (lS ++ Txt.join cS ts) ++ rS
theorem txL_cancel {ts : List Str} {k : Nat} {y z : Str} (hk : k < ts.length) (h : txL (ts.set k y) = txL (ts.set k z)) : y = z := by
  have e := congrArg TL.tl h
  unfold txL at e
  rw [TL.tl_append, TL.tl_append, TL.tl_append, TL.tl_append] at e
  have e := List.append_cancel_left (List.append_cancel_right e)
  rw [tl_jn, tl_jn, List.map_set, List.map_set] at e
  exact TL.ext_tl (joinL_cancel _ k _ _ (by rw [List.length_map]; exact hk) e)
theorem strs_map : ∀ ts : List Str, strsE (ts.map E.str) = some ts
  | [] => rfl
  | t :: ts => by
    show (strsE (ts.map E.str)).map (t :: ·) = _
    rw [strs_map ts]
    rfl
theorem mapO_tx {n : Nat} : ∀ {l : List (E × Str)}, (∀ q ∈ l, txH n q.1 = some (.str q.2)) → mapO (txH n) (l.map (·.1)) = some ((l.map (·.2)).map E.str)
  | [], _ => rfl
  | q :: l, h => by
    show (txH n q.1).bind (fun d => (mapO (txH n) (l.map (·.1))).map (d :: ·)) = _
    rw [h q List.mem_cons_self, mapO_tx fun x hx => h x (List.mem_cons_of_mem _ hx)]
    rfl
theorem sum_le {n : Nat} : ∀ (l : List Nat), (∀ x ∈ l, x ≤ n) → l.sum ≤ l.length * n
  | [], _ => Nat.zero_le _
  | x :: l, h => by
    have h1 := h x List.mem_cons_self
    have h2 := sum_le l fun y hy => h y (List.mem_cons_of_mem _ hy)
    rw [List.sum_cons, List.length_cons, Nat.add_mul]
    omega
theorem list_tx {l : List (E × Str)} (h : ∀ q ∈ l, Tx q.1 q.2) (hl : l.length ≤ 10) : txH 7 (.lst (l.map (·.1))) = some (.str (txL (l.map (·.2)))) := by
  have ht : ∀ t ∈ l.map (·.2), PyData.strOk t = true ∧ t.length ≤ 70 := fun t ht => by
    obtain ⟨q, hq, rfl⟩ := List.mem_map.mp ht
    exact ⟨(h q hq).ok, (h q hq).le⟩
  have hll : (l.map (·.2)).length ≤ 10 := by rw [List.length_map]; exact hl
  generalize hts : l.map (·.2) = ts at ht hll
  have jl : (Txt.join cS ts).length ≤ ts.length * (70 + 1) := len_join cS_len fun t hh => (ht t hh).2
  have jl2 : (Txt.join cS ts).length ≤ 710 := by omega
  have jo : PyData.strOk (Txt.join cS ts) = true := strOk_join cS_ok fun t hh => (ht t hh).1
  have sm : (ts.map (·.length)).sum ≤ (ts.map (·.length)).length * 70 := sum_le _ fun x hx => by
    obtain ⟨t, hh, rfl⟩ := List.mem_map.mp hx
    exact (ht t hh).2
  rw [List.length_map] at sm
  have e1 : (seqE (.lst (l.map (·.1)))).bind (mapO (txH 6)) = some (ts.map E.str) := by
    show (if (l.map (·.1)).length ≤ 900 then some (l.map (·.1)) else none).bind _ = _
    rw [if_pos (by rw [List.length_map]; omega), Option.bind_some, mapO_tx fun q hq => (h q hq).tx, hts]
  have e2 : joinE (.str cS) (.lst (ts.map E.str)) = some (.str (Txt.join cS ts)) := by
    show (strsE (ts.map E.str)).bind _ = _
    rw [strs_map, Option.bind_some, if_pos]
    refine ⟨by rw [cS_len]; omega, ?_⟩
    unfold txB
    rw [jo, decide_eq_true (show (Txt.join cS ts).length ≤ 2000000 by omega)]
    rfl
  have add : ∀ x y : Str, PyData.strOk x = true → PyData.strOk y = true → x.length + y.length ≤ 900 → addS (.str x) (.str y) = some (.str (x ++ y)) := fun x y h1 h2 h3 => by
    refine if_pos ⟨?_, h3⟩
    unfold txT
    rw [strOk_app h1 h2, decide_eq_true (show (x ++ y).length ≤ 2000000 by rw [len_app]; omega)]
    rfl
  show (((seqE (.lst (l.map (·.1)))).bind (mapO (txH 6))).bind fun r => joinE (.str cS) (.lst r)).bind (fun t => (addS (.str lS) t).bind fun u => addS u (.str rS)) = _
  rw [e1, Option.bind_some, e2, Option.bind_some, add lS _ lS_ok jo (by rw [lS_len]; omega), Option.bind_some, add _ rS (strOk_app lS_ok jo) rS_ok (by rw [len_app, lS_len, rS_len]; omega)]
  rfl
theorem tag_no : ∀ {l : List E}, l.length ≠ 3 → sortE (.tup l) = "tuple" ∧ tagD (.tup l) = true
  | [], _ => ⟨rfl, rfl⟩
  | [x0], _ => ⟨by cases x0 <;> rfl, rfl⟩
  | [x0, y0], _ => ⟨by cases x0 <;> first | rfl | (cases y0 <;> rfl), rfl⟩
  | [_, _, _], h => absurd rfl h
  | x :: y :: z :: u :: r, _ => by
    refine ⟨?_, rfl⟩
    show (if tagL (x :: y :: z :: u :: r) = true then ("tag" : Str) else "tuple") = "tuple"
    have e : tagL (x :: y :: z :: u :: r) = false := by
      cases x <;> first | rfl | (cases y <;> first | rfl | (cases z <;> rfl))
    rw [e]
    rfl
theorem zip_set {q : E → E → Bool} : ∀ {l : List E} {k : Nat} {d o : E}, (∀ x ∈ l, q x x = true) → l[k]? = some d → (l.zip (l.set k o)).all (fun p => q p.1 p.2) = q d o ∧ ((l.set k o).zip l).all (fun p => q p.1 p.2) = q o d
  | [], _, _, _, _, h => by cases h
  | x :: l, 0, d, o, hr, h => by
    cases h
    have hz : (l.zip l).all (fun p => q p.1 p.2) = true := List.all_eq_true.mpr fun p hp => by
      obtain ⟨i, hi⟩ := List.getElem?_of_mem hp
      obtain ⟨h1, h2⟩ := List.getElem?_zip_eq_some.mp hi
      rw [h1] at h2
      have e : p.1 = p.2 := Option.some.inj h2
      rw [← e]
      exact hr _ (List.mem_cons_of_mem _ (List.mem_of_getElem? h1))
    constructor
    · show (q x o && (l.zip l).all (fun p => q p.1 p.2)) = q x o
      rw [hz, Bool.and_true]
    · show (q o x && (l.zip l).all (fun p => q p.1 p.2)) = q o x
      rw [hz, Bool.and_true]
  | x :: l, k + 1, d, o, hr, h => by
    obtain ⟨e1, e2⟩ := zip_set (q := q) (l := l) (k := k) (d := d) (o := o) (fun y hy => hr y (List.mem_cons_of_mem _ hy)) h
    constructor
    · show (q x x && (l.zip (l.set k o)).all (fun p => q p.1 p.2)) = _
      rw [hr x List.mem_cons_self, Bool.true_and, e1]
    · show (q x x && ((l.set k o).zip l).all (fun p => q p.1 p.2)) = _
      rw [hr x List.mem_cons_self, Bool.true_and, e2]
theorem eqH_tup {n : Nat} {l m : List E} (h1 : l.length ≠ 3) (h2 : m.length = l.length) : eqH (n + 1) (.tup l) (.tup m) = (l.zip m).all fun p => eqH n p.1 p.2 := by
  show (decide (sortE (.tup l) = sortE (.tup m)) && (decide (l.length = m.length) && (l.zip m).all fun p => eqH n p.1 p.2)) = _
  rw [(tag_no h1).1, (tag_no (l := m) (by rw [h2]; exact h1)).1, decide_eq_true rfl, decide_eq_true h2.symm]
  rfl
theorem row_fact {a : Addr} {l : List (E × Str)} (h : ∀ q ∈ l, Pt a q) (hl : l.length ≤ 10) (h3 : l.length ≠ 3) {kk : Nat} (hk : kk < l.length) {o : E} (ho : o ∈ odds a) :
    ∃ t u, txH 7 (.lst (l.map (·.1))) = some (.str t) ∧ txH 7 (.lst ((l.map (·.1)).set kk o)) = some (.str u) ∧ eqH 6 (.tup (l.map (·.1))) (.tup ((l.map (·.1)).set kk o)) = decide (t = u) ∧ eqH 6 (.tup ((l.map (·.1)).set kk o)) (.tup (l.map (·.1))) = decide (t = u) := by
  rw [← oddP_fst] at ho
  obtain ⟨q, hq, rfl⟩ := List.mem_map.mp ho
  have ek : l[kk]? = some l[kk] := List.getElem?_eq_getElem hk
  have hp := h _ (List.getElem_mem hk)
  have hc := List.all_eq_true.mp hp.cr q hq
  obtain ⟨c1, c2⟩ := Bool.and_eq_true_iff.mp hc
  have c1 := eq_of_beq c1
  have c2 := eq_of_beq c2
  have em : (l.map (·.1)).set kk q.1 = (l.set kk q).map (·.1) := (List.map_set ..).symm
  have es : (l.set kk q).map (·.2) = (l.map (·.2)).set kk q.2 := List.map_set ..
  have el : l.map (·.2) = (l.map (·.2)).set kk l[kk].2 := by
    rw [← List.map_set]
    congr 1
    exact (List.set_getElem_self hk).symm
  have t1 := list_tx (fun q hq => (h q hq).tx) hl
  have t2 := list_tx (l := l.set kk q) (fun p hp => by
    rcases List.mem_or_eq_of_mem_set hp with hp | rfl
    · exact (h p hp).tx
    · exact odd_tx a p hq) (by rw [List.length_set]; exact hl)
  rw [← em, es] at t2
  have ed : decide (txL (l.map (·.2)) = txL ((l.map (·.2)).set kk q.2)) = decide (l[kk].2 = q.2) := by
    refine decide_eq_decide.mpr ⟨fun e => ?_, fun e => ?_⟩
    · rw [el] at e
      rw [List.set_set] at e
      exact txL_cancel (by rw [List.length_map]; exact hk) e
    · rw [← e, ← el]
  have rf : ∀ x ∈ l.map (·.1), eqH 5 x x = true := fun x hx => by
    obtain ⟨p, hp, rfl⟩ := List.mem_map.mp hx
    exact (h p hp).rf
  obtain ⟨z1, z2⟩ := zip_set (q := eqH 5) (k := kk) (d := l[kk].1) (o := q.1) rf (by rw [List.getElem?_map, ek]; rfl)
  refine ⟨_, _, t1, t2, ?_, ?_⟩
  · rw [ed, eqH_tup (by rw [List.length_map]; exact h3) (by rw [List.length_set]), z1, c1]
  · rw [ed, eqH_tup (by rw [List.length_set, List.length_map]; exact h3) (by rw [List.length_set]), z2, c2]
theorem vars_row {a : Addr} {wy : Nat} (hw : wy < 4) {l : List E} (hl : l ∈ vars a wy) : ∃ r : List (E × Str), l = r.map (·.1) ∧ (∀ q ∈ r, Pt a q) ∧ r.length ≤ 10 ∧ r.length ≠ 3 := by
  have hl : l = line a wy ∨ l = (line a wy).set 2 turnE := by
    rcases List.mem_cons.mp hl with h | h
    · exact .inl h
    · exact .inr (List.mem_singleton.mp h)
  match wy, hw with
  | 0, _ =>
    rcases hl with rfl | rfl
    · exact ⟨row00 a, rfl, row00_ok a, (show 10 ≤ 10 by decide), (show 10 ≠ 3 by decide)⟩
    · exact ⟨row01 a, rfl, row01_ok a, (show 10 ≤ 10 by decide), (show 10 ≠ 3 by decide)⟩
  | 1, _ =>
    rcases hl with rfl | rfl
    · exact ⟨row10 a, rfl, row10_ok a, (show 4 ≤ 10 by decide), (show 4 ≠ 3 by decide)⟩
    · exact ⟨row11 a, rfl, row11_ok a, (show 4 ≤ 10 by decide), (show 4 ≠ 3 by decide)⟩
  | 2, _ =>
    rcases hl with rfl | rfl
    · exact ⟨row20 a, rfl, row20_ok a, (show 4 ≤ 10 by decide), (show 4 ≠ 3 by decide)⟩
    · exact ⟨row21 a, rfl, row21_ok a, (show 4 ≤ 10 by decide), (show 4 ≠ 3 by decide)⟩
  | 3, _ =>
    rcases hl with rfl | rfl
    · exact ⟨row30 a, rfl, row30_ok a, (show 2 ≤ 10 by decide), (show 2 ≠ 3 by decide)⟩
    · exact ⟨row31 a, rfl, row31_ok a, (show 2 ≤ 10 by decide), (show 2 ≠ 3 by decide)⟩
end K15

namespace K15
open PySem L2 XR VT ET
variable [KC]
/-! what the law asks, answered -/
def clsW (L : CL) : Nat → Addr
  | 0 => L.CB
  | 1 => L.CR
  | 2 => L.CC
  | _ => L.CM
def flW : Nat → List Str
  | 0 => flB
  | 1 => flR
  | 2 => flC
  | _ => flM
def lenW : Nat → Nat
  | 0 => 10
  | 1 => 4
  | 2 => 4
  | _ => 2
structure Okl (L : CL) (wy : Nat) (l : List E) : Prop where
  cf : cfL L.CG l = true
  q : qHL l = true
  t : tagD (.tup l) = true
  w : wtL l < 5
  len : l.length = lenW wy
theorem cf_cfg {a : Addr} : cfD a (cfgA a) = true := by
  show (decide (a = a) && _) = true
  rw [decide_eq_true rfl]
  rfl
theorem cf_odds {a : Addr} : ∀ o ∈ odds a, cfD a o = true := allc rfl (allc rfl (allc rfl (allc rfl (allc rfl (allc rfl (allc rfl (allc rfl (allc rfl (allc rfl (allc rfl (allc rfl (allc rfl (allc cf_cfg alln)))))))))))))
theorem q_odds {a : Addr} : ((odds a).all fun o => qH o && decide (wt o < 5)) = true := by kernel_rfl
theorem cf_line {a : Addr} {wy : Nat} (hw : wy < 4) {l : List E} (hl : l ∈ vars a wy) : cfL a l = true := by
  have hl : l = line a wy ∨ l = (line a wy).set 2 turnE := by
    rcases List.mem_cons.mp hl with h | h
    · exact .inl h
    · exact .inr (List.mem_singleton.mp h)
  match wy, hw with
  | 0, _ => rcases hl with rfl | rfl <;> rfl
  | 1, _ => rcases hl with rfl | rfl <;> rfl
  | 2, _ =>
    rcases hl with rfl | rfl
    · show (cfD a (.str "c") && (cfD a (cfgA a) && _)) = true
      rw [cf_cfg]
      rfl
    · show (cfD a (.str "c") && (cfD a (cfgA a) && _)) = true
      rw [cf_cfg]
      rfl
  | 3, _ => rcases hl with rfl | rfl <;> rfl
theorem lenW_eq {a : Addr} : ∀ {wy : Nat}, wy < 4 → (line a wy).length = lenW wy
  | 0, _ => rfl
  | 1, _ => rfl
  | 2, _ => rfl
  | 3, _ => rfl
theorem chkR_all {a : Addr} {wy : Nat} (hw : wy < 4) {l : List E} (hl : l ∈ vars a wy) : (good l && eqH 6 (.tup (line a wy)) (.tup l) && decide (l.length = (line a wy).length)) = true := by
  have hl : l = line a wy ∨ l = (line a wy).set 2 turnE := by
    rcases List.mem_cons.mp hl with h | h
    · exact .inl h
    · exact .inr (List.mem_singleton.mp h)
  match wy, hw with
  | 0, _ =>
    rcases hl with rfl | rfl
    · exact cr0_0 a
    · exact cr0_1 a
  | 1, _ =>
    rcases hl with rfl | rfl
    · exact cr1_0 a
    · exact cr1_1 a
  | 2, _ =>
    rcases hl with rfl | rfl
    · exact cr2_0 a
    · exact cr2_1 a
  | 3, _ =>
    rcases hl with rfl | rfl
    · exact cr3_0 a
    · exact cr3_1 a
theorem okl_row {L : CL} {wy : Nat} (hw : wy < 4) {l : List E} (hl : l ∈ vars L.CG wy) : Okl L wy l ∧ eqH 6 (.tup (line L.CG wy)) (.tup l) = true := by
  have h := chkR_all hw hl
  unfold good at h
  simp only [Bool.and_eq_true, decide_eq_true_eq] at h
  obtain ⟨⟨⟨⟨h1, h2⟩, h3⟩, h4⟩, h5⟩ := h
  exact ⟨⟨cf_line hw hl, h2, h1, h3, h5.trans (lenW_eq hw)⟩, h4⟩
theorem qHL_mem : ∀ {l : List E} {d : E}, qHL l = true → d ∈ l → qH d = true
  | x :: l, d, h, hd => by
    obtain ⟨h1, h2⟩ := Bool.and_eq_true_iff.mp (show (qH x && qHL l) = true from h)
    rcases List.mem_cons.mp hd with rfl | hd
    · exact h1
    · exact qHL_mem h2 hd
theorem qHL_of : ∀ {l : List E}, (∀ d ∈ l, qH d = true) → qHL l = true
  | [], _ => rfl
  | d :: l, h => Bool.and_eq_true_iff.mpr ⟨h d List.mem_cons_self, qHL_of fun e he => h e (List.mem_cons_of_mem _ he)⟩
theorem wtL_of {n : Nat} (hn : 0 < n) : ∀ {l : List E}, (∀ d ∈ l, wt d < n) → wtL l < n
  | [], _ => hn
  | d :: l, h => Nat.max_lt.mpr ⟨h d List.mem_cons_self, wtL_of hn fun e he => h e (List.mem_cons_of_mem _ he)⟩
theorem len3 {wy : Nat} : lenW wy ≠ 3 := by
  match wy with
  | 0 => decide
  | 1 => decide
  | 2 => decide
  | _ + 3 => exact (by decide : (2 : Nat) ≠ 3)
theorem okl_set {L : CL} {wy kk : Nat} {l : List E} (h : Okl L wy l) {o : E} (ho : o ∈ odds L.CG) : Okl L wy (l.set kk o) := by
  obtain ⟨q1, q2⟩ := Bool.and_eq_true_iff.mp (List.all_eq_true.mp (q_odds (a := L.CG)) o ho)
  refine ⟨cfL_of fun d hd => ?_, qHL_of fun d hd => ?_, ?_, wtL_of (by decide) fun d hd => ?_, by rw [List.length_set, h.len]⟩
  · rcases List.mem_or_eq_of_mem_set hd with hd | rfl
    · exact cfL_mem h.cf hd
    · exact cf_odds _ ho
  · rcases List.mem_or_eq_of_mem_set hd with hd | rfl
    · exact qHL_mem h.q hd
    · exact q1
  · exact (tag_no (by rw [List.length_set, h.len]; exact len3)).2
  · rcases List.mem_or_eq_of_mem_set hd with hd | rfl
    · exact Nat.lt_of_le_of_lt (wt_mem hd) h.w
    · exact of_decide_eq_true q2
theorem clsW_in {L : CL} : ∀ wy, clsW L wy ∈ L.all
  | 0 => inB
  | 1 => inR
  | 2 => inC
  | _ + 3 => inM
theorem flW_eq {L : CL} (D : CLok L) : ∀ wy, L.fl (clsW L wy) = flW wy
  | 0 => flB_ D
  | 1 => flR_ D
  | 2 => flC_ D
  | _ + 3 => flM_ D
theorem flW_len : ∀ wy, (flW wy).length = lenW wy
  | 0 => rfl
  | 1 => rfl
  | 2 => rfl
  | _ + 3 => rfl
section
variable {L : CL} {wy : Nat} {l m : List E} (D : CLok L)
include D
theorem Okl.qg (h : Okl L wy l) : qg L (.ins (clsW L wy) (flW wy) l) = true := by
  show (decide (clsW L wy ∈ L.all) && decide (flW wy = L.fl (clsW L wy)) && decide (l.length = (L.fl (clsW L wy)).length) && tagD (.tup l) && qgL L l) = true
  rw [flW_eq D, decide_eq_true (clsW_in wy), decide_eq_true rfl, decide_eq_true (show l.length = (flW wy).length by rw [flW_len, h.len]), h.t, qgHL D l h.cf h.q]
  rfl
theorem okl_oth (h : Okl L wy l) : othOk L 6 (.ins (clsW L wy) (flW wy) l) = true := by
  show (K15.qg L (.ins (clsW L wy) (flW wy) l) && decide (wtL l + 1 < 6)) = true
  rw [h.qg D, decide_eq_true (show wtL l + 1 < 6 by have := h.w; omega)]
  rfl
theorem okl_insok (h : Okl L wy l) : insOk L.all (.ins (clsW L wy) (flW wy) l) = true := ins_ok rfl (h.qg D)
theorem eqU_any (h : Okl L wy l) {o : E} (hi : insOk L.all o = true) (ho : othOk L 6 o = true) : ET.eqU (clsW L wy) L.all (veqG L 6) (.ins (clsW L wy) (flW wy) l) o = some (.bl (insEq L (eqG L 6) (.ins (clsW L wy) (flW wy) l) o)) := by
  show (if clsW L wy = clsW L wy ∧ insOk L.all o = true then veqG L 6 [.ins (clsW L wy) (flW wy) l, o] else none) = _
  rw [if_pos ⟨rfl, hi⟩]
  show (if (K15.qg L (.ins (clsW L wy) (flW wy) l) && decide (wtL l + 1 < 6) && othOk L 6 o) = true then _ else _) = _
  rw [if_pos]
  rw [h.qg D, decide_eq_true (show wtL l + 1 < 6 by have := h.w; omega), ho]
  rfl
theorem eqU_two (h : Okl L wy l) (h' : Okl L wy m) : ET.eqU (clsW L wy) L.all (veqG L 6) (.ins (clsW L wy) (flW wy) l) (.ins (clsW L wy) (flW wy) m) = some (.bl (eqH 6 (.tup l) (.tup m))) := by
  rw [eqU_any D h (okl_insok D h') (okl_oth D h')]
  show some (E.bl (decide (L.nm (clsW L wy) = L.nm (clsW L wy)) && eqG L 6 (.tup l) (.tup m))) = _
  rw [decide_eq_true rfl, Bool.true_and, eqGH 6 (.tup l) (.tup m) h.cf h'.cf]
theorem eqU_lst (h : Okl L wy l) : ET.eqU (clsW L wy) L.all (veqG L 6) (.ins (clsW L wy) (flW wy) l) (.lst m) = some (.bl false) := by
  rw [eqU_any D h rfl rfl]
  rfl
theorem nmW : ∀ {x y : Nat}, x < 4 → y < 4 → x ≠ y → L.nm (clsW L x) ≠ L.nm (clsW L y) := fun {x y} hx hy ne => by
  have e : ∀ z, z < 4 → L.nm (clsW L z) = (match z with | 0 => "Block" | 1 => "Reading" | 2 => "Call" | _ => "Move") := fun z hz => by
    match z, hz with
    | 0, _ => exact nmB_ D
    | 1, _ => exact nmR_ D
    | 2, _ => exact nmC_ D
    | 3, _ => exact nmM_ D
  rw [e x hx, e y hy]
  match x, y, hx, hy with
  | 0, 0, _, _ | 1, 1, _, _ | 2, 2, _, _ | 3, 3, _, _ => exact absurd rfl ne
  | 0, 1, _, _ | 0, 2, _, _ | 0, 3, _, _ | 1, 0, _, _ | 1, 2, _, _ | 1, 3, _, _ | 2, 0, _, _ | 2, 1, _, _ | 2, 3, _, _ | 3, 0, _, _ | 3, 1, _, _ | 3, 2, _, _ => decide +kernel
theorem eqU_far {y : Nat} (hw : wy < 4) (hy : y < 4) (ne : wy ≠ y) (h : Okl L wy l) (h' : Okl L y m) : ET.eqU (clsW L wy) L.all (veqG L 6) (.ins (clsW L wy) (flW wy) l) (.ins (clsW L y) (flW y) m) = some (.bl false) := by
  rw [eqU_any D h (okl_insok D h') (okl_oth D h')]
  show some (E.bl (decide (L.nm (clsW L wy) = L.nm (clsW L y)) && _)) = _
  rw [decide_eq_false (nmW D hw hy ne)]
  rfl
end
/-- the far parts -/
theorem okl_far {L : CL} : ∀ {y : Nat}, y < 4 → Okl L y ((List.replicate 10 netA).take (lenW y))
  | 0, _ => ⟨rfl, by kernel_rfl, rfl, by decide, rfl⟩
  | 1, _ => ⟨rfl, by kernel_rfl, rfl, by decide, rfl⟩
  | 2, _ => ⟨rfl, by kernel_rfl, rfl, by decide, rfl⟩
  | 3, _ => ⟨rfl, by kernel_rfl, rfl, by decide, rfl⟩
theorem md_eq {L : CL} : ∀ {wy : Nat} {l : List E}, wy < 4 → lenW wy ≤ l.length → mdF L [.int (wy : Nat), .lst l] = some (.ins (clsW L wy) (flW wy) (l.take (lenW wy)))
  | 0, l, _, h => by
    show (if _ then _ else _) = _
    rw [if_pos ⟨h, rfl⟩]
    rfl
  | 1, l, _, h => by
    show (if 10 ≤ l.length ∧ ((1 : Nat) : Int) = 0 then _ else if _ then _ else _) = _
    rw [if_neg (fun z => absurd z.2 (by decide)), if_pos ⟨h, rfl⟩]
    rfl
  | 2, l, _, h => by
    show (if 10 ≤ l.length ∧ ((2 : Nat) : Int) = 0 then _ else if 4 ≤ l.length ∧ ((2 : Nat) : Int) = 1 then _ else if _ then _ else _) = _
    rw [if_neg (fun z => absurd z.2 (by decide)), if_neg (fun z => absurd z.2 (by decide)), if_pos ⟨h, rfl⟩]
    rfl
  | 3, l, _, h => by
    show (if 10 ≤ l.length ∧ ((3 : Nat) : Int) = 0 then _ else if 4 ≤ l.length ∧ ((3 : Nat) : Int) = 1 then _ else if 4 ≤ l.length ∧ ((3 : Nat) : Int) = 2 then _ else if _ then _ else _) = _
    rw [if_neg (fun z => absurd z.2 (by decide)), if_neg (fun z => absurd z.2 (by decide)), if_neg (fun z => absurd z.2 (by decide)), if_pos ⟨h, rfl⟩]
    rfl
theorem Okl.md {L : CL} {wy : Nat} {l : List E} (hw : wy < 4) (h : Okl L wy l) : mdF L [.int (wy : Nat), .lst l] = some (.ins (clsW L wy) (flW wy) l) := by
  rw [md_eq hw (by rw [h.len]; exact Nat.le_refl _), List.take_of_length_le (by rw [h.len]; exact Nat.le_refl _)]
theorem wf_of {L : CL} {wy : Nat} {l : List E} (hw : wy < 4) (h : l.length = lenW wy) : wfI L (.ins (clsW L wy) (flW wy) l) = true := by
  show ((decide (clsW L wy = L.CB) && decide (flW wy = flB) && decide (l.length = 10)) || (decide (clsW L wy = L.CR) && decide (flW wy = flR) && decide (l.length = 4)) || (decide (clsW L wy = L.CC) && decide (flW wy = flC) && decide (l.length = 4)) || (decide (clsW L wy = L.CM) && decide (flW wy = flM) && decide (l.length = 2))) = true
  simp only [Bool.or_eq_true, Bool.and_eq_true, decide_eq_true_eq]
  match wy, hw with
  | 0, _ => exact .inl (.inl (.inl ⟨⟨rfl, rfl⟩, h⟩))
  | 1, _ => exact .inl (.inl (.inr ⟨⟨rfl, rfl⟩, h⟩))
  | 2, _ => exact .inl (.inr ⟨⟨rfl, rfl⟩, h⟩)
  | 3, _ => exact .inr ⟨⟨rfl, rfl⟩, h⟩
theorem ke_eq {L : CL} {wy : Nat} {l : List E} (hw : wy < 4) (h : Okl L wy l) {t : Str} (ht : txH 7 (.lst l) = some (.str t)) : keF L 7 [.ins (clsW L wy) (flW wy) l, .lst l] = some (.bl true) := by
  show (if wfI L (.ins (clsW L wy) (flW wy) l) = true then (txG L.CG 7 (.lst l)).bind fun a => (txG L.CG 7 (.lst l)).bind fun b => eqS a b else none) = _
  rw [if_pos (wf_of hw h.len), txGH 7 (.lst l) h.cf, ht]
  show some (E.bl (decide (t = t))) = _
  rw [decide_eq_true rfl]
end K15

namespace K15
open PySem L2 XR VT ET
variable [KC]
abbrev sLaw : Stmt := top 56
def spLaw (K : PySem.W.Frag) : Sp := fun vs H Q _ => ∃ (a : Addr) (ns : List Int), vs = [.ref a] ∧ SqL K H a (ns.map V.int) ∧ ns.length ≤ 63 ∧ ∀ H', Q (.bl true) H'
def rEqI (K : PySem.W.Frag) (L : CL) (sp : Sp) : R2 := fun x y H Q => ∃ wy : Nat, wy < 4 ∧ rEqU K (clsW L wy) sp x y H Q
def rNeI (K : PySem.W.Frag) (L : CL) (sp : Sp) : R2 := fun x y H Q => ∃ wy : Nat, wy < 4 ∧ rNeU K (clsW L wy) sp x y H Q
section
variable {X : Cx} {K : PySem.W.Frag} [KcOk K] {L : CL} {g : Addr} {fd : FuncData} {ps : List Str} {n : Nat} {F0 : List E → Option E}
theorem op_eqI (h : X.K = K) (F : FnOk X.prog X.w K X.mg X.base CX0 n g fd ps (spP F0)) (hV : ∀ C ∈ L.all, PySem.W.findIn K (.ref C) "__eq__" = some (some (.ref g)) ∧ PySem.W.findIn K (.ref C) "__ne__" = some (some (.builtin "object.__ne__")) ∧ PySem.W.subIn K (.ref C) (.type "object") = some true) (hf : PySem.W.isFn K (.ref g) = true) (hb : Binds K fd ps []) (hr : Room (n + 1) X.A) : OpR X (compareOp .Eq) (rEqI K L (spP F0)) := fun pins s σ H x y v u Q I rx ry q => by
  obtain ⟨wy, hw, q⟩ := q
  exact op_eqUK h F (hV _ (clsW_in wy)).1 hf hb (hr.mono (Nat.le_succ _)) pins s σ H x y v u Q I rx ry q
theorem op_neI (h : X.K = K) (F : FnOk X.prog X.w K X.mg X.base CX0 n g fd ps (spP F0)) (hV : ∀ C ∈ L.all, PySem.W.findIn K (.ref C) "__eq__" = some (some (.ref g)) ∧ PySem.W.findIn K (.ref C) "__ne__" = some (some (.builtin "object.__ne__")) ∧ PySem.W.subIn K (.ref C) (.type "object") = some true) (hf : PySem.W.isFn K (.ref g) = true) (hb : Binds K fd ps []) (hr : Room (n + 1) X.A) : OpR X (compareOp .NotEq) (rNeI K L (spP F0)) := fun pins s σ H x y v u Q I rx ry q => by
  obtain ⟨wy, hw, q⟩ := q
  exact op_neUK h F (hV _ (clsW_in wy)).1 hf (hV _ (clsW_in wy)).2.1 (hV _ (clsW_in wy)).2.2 hb hr pins s σ H x y v u Q I rx ry q
end
section
variable {K : PySem.W.Frag} [KcOk K] {L : CL} {wy n : Nat}
theorem pu_eqI (hw : wy < 4) (hC : ∀ C ∈ L.all, CF K C) (hnT : ∀ C ∈ L.all, ∀ t ∈ ["NoneType", "bool", "int", "str", "tuple", "dict", "list"], PySem.W.notFirst K C (.type t) = true) (hnC : ∀ C ∈ L.all, ∀ D ∈ L.all, PySem.W.notFirst K C (.ref D) = true) : PuR (rEqI K L (spP (veqG L n))) (ET.eqU (clsW L wy) L.all (veqG L n)) := fun P x y H d e c Q rx ry hf h k =>
  ⟨wy, hw, pu_eqU hC (hnT _ (clsW_in wy)) (hnC _ (clsW_in wy)) veqG_bl P x y H d e c Q rx ry hf h k⟩
theorem pu_neI (hw : wy < 4) (hC : ∀ C ∈ L.all, CF K C) (hnT : ∀ C ∈ L.all, ∀ t ∈ ["NoneType", "bool", "int", "str", "tuple", "dict", "list"], PySem.W.notFirst K C (.type t) = true) (hnC : ∀ C ∈ L.all, ∀ D ∈ L.all, PySem.W.notFirst K C (.ref D) = true) : PuR (rNeI K L (spP (veqG L n))) (ET.neU (clsW L wy) L.all (veqG L n)) := fun P x y H d e c Q rx ry hf h k =>
  ⟨wy, hw, pu_neU hC (hnT _ (clsW_in wy)) (hnC _ (clsW_in wy)) P x y H d e c Q rx ry hf h k⟩
end
def alt (x y : E) : Prop := y = x ∨ (x = toldE ∧ y = turnE)
theorem alt_no {x y : E} (h : x ≠ toldE) (a : alt x y) : y = x := by
  rcases a with h' | ⟨h', _⟩
  · exact h'
  · exact absurd h' h
theorem al_no : ∀ {l r : List E}, (∀ x ∈ l, x ≠ toldE) → Al alt l r → r = l
  | _, _, _, .nil => rfl
  | _, _, h, .cons a t => by rw [alt_no (h _ List.mem_cons_self) a, al_no (fun x hx => h x (List.mem_cons_of_mem _ hx)) t]
theorem al_line {a : Addr} : ∀ {wy : Nat} {r : List E}, wy < 4 → Al alt (line a wy) r → r ∈ vars a wy
  | 0, _, _, .cons a1 (.cons a2 (.cons a3 t)) => by
    have e := al_no (allc (fun z => by cases z) (allc (fun z => by cases z) (allc (fun z => by cases z) (allc (fun z => by cases z) (allc (fun z => by cases z) (allc (fun z => by cases z) (allc (fun z => by cases z) alln))))))) t
    rw [e, alt_no (fun z => by cases z) a1, alt_no (fun z => by cases z) a2]
    rcases a3 with rfl | ⟨_, rfl⟩
    · exact List.mem_cons_self
    · exact List.mem_cons_of_mem _ List.mem_cons_self
  | 1, _, _, .cons a1 (.cons a2 (.cons a3 t)) => by
    have e := al_no (allc (fun z => by cases z) alln) t
    rw [e, alt_no (fun z => by cases z) a1, alt_no (fun z => by cases z) a2]
    rcases a3 with rfl | ⟨_, rfl⟩
    · exact List.mem_cons_self
    · exact List.mem_cons_of_mem _ List.mem_cons_self
  | 2, _, _, .cons a1 (.cons a2 (.cons a3 t)) => by
    have e := al_no (allc (fun z => by cases z) alln) t
    rw [e, alt_no (fun z => by cases z) a1, alt_no (fun z => by cases z) a2]
    rcases a3 with rfl | ⟨_, rfl⟩
    · exact List.mem_cons_self
    · exact List.mem_cons_of_mem _ List.mem_cons_self
  | 3, _, _, t => by
    have e := al_no (allc (fun z => by cases z) (allc (fun z => by cases z) alln)) t
    rw [e]
    exact List.mem_cons_self
theorem eqA_told {C : Addr} {CS : List Addr} {F : List E → Option E} : eqA C CS F toldE toldE = some (.bl true) := if_pos ⟨rfl, rfl, by kernel_rfl⟩
theorem cfg_okl {L : CL} (D : CLok L) : ET.eqU L.CG L.all (veqG L 6) (cfgA L.CG) toldE = some (.bl false) := by
  have q : qg L (cfgA L.CG) = true := qgH D _ cf_cfg (by kernel_rfl)
  show (if L.CG = L.CG ∧ insOk L.all toldE = true then veqG L 6 [cfgA L.CG, toldE] else none) = _
  rw [if_pos ⟨rfl, rfl⟩]
  show (if (qg L (cfgA L.CG) && decide (wtL [E.tup [], E.tup [], E.tup [], E.tup [], E.tup [], E.tup []] + 1 < 6) && true) = true then _ else _) = _
  rw [q, if_pos (by decide)]
  rfl
theorem eqA_line {L : CL} (D : CLok L) : ∀ {wy : Nat}, wy < 4 → ∀ x ∈ line L.CG wy, x = toldE ∨ eqA L.CG L.all (veqG L 6) x toldE = some (.bl false)
  | 0, _ => allc (.inr rfl) (allc (.inr rfl) (allc (.inl rfl) (allc (.inr rfl) (allc (.inr rfl) (allc (.inr rfl) (allc (.inr rfl) (allc (.inr rfl) (allc (.inr rfl) (allc (.inr rfl) alln)))))))))
  | 1, _ => allc (.inr rfl) (allc (.inr rfl) (allc (.inl rfl) (allc (.inr rfl) alln)))
  | 2, _ => allc (.inr rfl) (allc (.inr (cfg_okl D)) (allc (.inl rfl) (allc (.inr rfl) alln)))
  | 3, _ => allc (.inr rfl) (allc (.inr rfl) alln)
theorem line_len {a : Addr} {wy : Nat} (hw : wy < 4) : (line a wy).length ≤ 10 := by
  rw [lenW_eq hw]
  match wy, hw with
  | 0, _ => decide
  | 1, _ => decide
  | 2, _ => decide
  | 3, _ => decide
def linesE (a : Addr) : List E := [.lst (line a 0), .lst (line a 1), .lst (line a 2), .lst (line a 3)]
theorem lines_at {a : Addr} : ∀ {wy : Nat}, wy < 4 → ixL (.lst (linesE a)) (.int (wy : Nat)) = some (.lst (line a wy))
  | 0, _ => ixL_at rfl
  | 1, _ => ixL_at rfl
  | 2, _ => ixL_at rfl
  | 3, _ => ixL_at rfl
end K15

namespace K15
open PySem L2 XR VT ET
variable [KC]
section
variable {P : Program} {w : World} {K : PySem.W.Frag} {mg : Str → Option Value} {base : Heap} [KcOk K]
theorem lenW_pos : ∀ {wy : Nat}, 0 < lenW wy
  | 0 => by decide
  | 1 => by decide
  | 2 => by decide
  | _ + 3 => (by decide : 0 < 2)
theorem pu_iRng4 : PuI (iRng1 (tCons (tC (.int 4)) tNil)) (fun _ => some [.int 0, .int 1, .int 2, .int 3]) := pu_iRng (n := 4) (by decide)
def farB (wy : Nat) (x : E) : Bool := match x with
  | .int i => !decide (i = (wy : Nat))
  | _ => true
theorem others_eq : ∀ {wy : Nat}, wy < 4 → ∃ r : List Nat, 0 < r.length ∧ r.length ≤ 4 ∧ (∀ x ∈ r, x < 4 ∧ wy ≠ x) ∧ ([E.int 0, .int 1, .int 2, .int 3].filter (farB wy)).map id = r.map fun x => .int (x : Nat)
  | 0, _ => ⟨[1, 2, 3], by decide, by decide, by decide, rfl⟩
  | 1, _ => ⟨[0, 2, 3], by decide, by decide, by decide, rfl⟩
  | 2, _ => ⟨[0, 1, 3], by decide, by decide, by decide, rfl⟩
  | 3, _ => ⟨[0, 1, 2], by decide, by decide, by decide, rfl⟩
theorem st_wellS {c i : Nat} {z : Int} {rest : TS} {D : Ends} {σ : L2.St} {H : Hp} {E0 : XK} (h3 : σ[c]? = some (some (.int z))) (k : ∀ p a b H', Same H H' → H p = none → Well H' p a b 0 → rest D (σ.set i (some (.ref p))) H') : tSeq (tAsg (tCall spWell [] E0 (tCons (tVar c) tNil)) (gName i)) rest D σ H := ⟨_, h3, z, rfl, k⟩
theorem scLaw : FnScope ["_law_script", "_law_told", "_law_turned", "_law_block_here", "_law_lines", "_law_cell", "_law_well_here", "_law_way", "_law_some", "_law_part", "_law_other", "_law_one_here", "_law_two", "_law_three", "_law_is_one", "_law_others", "_law_k"] ["_law_script"] (defScope sLaw) := ⟨rfl, rfl, rfl, by decide +kernel, rfl, by decide +kernel, by decide +kernel⟩
theorem ok_law {L : CL} {f fWe fDr fOn fCh fMd fKe fTx fVE fIG : Addr} {fd dWe dDr dOn dCh dMd dKe dTx dVE dIG : FuncData} {dvs : List V} {vds : List Value} (F : Fun K "law" "law" sLaw f fd) (mR : mg "range" = none) (hC : ∀ C ∈ L.all, CF K C) (D0 : CLok L)
    (hnT : ∀ C ∈ L.all, ∀ t ∈ ["NoneType", "bool", "int", "str", "tuple", "dict", "list"], PySem.W.notFirst K C (.type t) = true) (hnC : ∀ C ∈ L.all, ∀ D ∈ L.all, PySem.W.notFirst K C (.ref D) = true)
    (GWe : FnOk P w K mg base CX0 1 fWe dWe ["_law_cell"] spWell) (gWe : mg "_law_well" = some (.ref fWe)) (kWe : PySem.W.keepIn K (.ref fWe) = true) (bWe : Binds K dWe ["_law_cell"] [])
    (GDr : FnOk P w K mg base CX0 1 fDr dDr ["_law_well_here", "_law_below"] (spN 1 drawN)) (gDr : mg "_law_draw" = some (.ref fDr)) (kDr : PySem.W.keepIn K (.ref fDr) = true) (bDr : Binds K dDr ["_law_well_here", "_law_below"] [])
    (GOn : FnOk P w K mg base CX0 2 fOn dOn ["_law_well_here", "_law_some"] (spN 1 oneN)) (gOn : mg "_law_one" = some (.ref fOn)) (kOn : PySem.W.keepIn K (.ref fOn) = true) (bOn : Binds K dOn ["_law_well_here", "_law_some"] [])
    (GCh : FnOk P w K mg base CX0 5 fCh dCh ["_law_well_here", "_law_some"] (spN 10 (chN L))) (gCh : mg "_law_changed" = some (.ref fCh)) (kCh : PySem.W.keepIn K (.ref fCh) = true) (bCh : Binds K dCh ["_law_well_here", "_law_some"] [])
    (GMd : FnOk P w K mg base CX0 4 fMd dMd ["_law_way", "_law_p"] (spP (mdF L))) (gMd : mg "_law_made" = some (.ref fMd)) (kMd : PySem.W.keepIn K (.ref fMd) = true) (bMd : Binds K dMd ["_law_way", "_law_p"] [])
    (GKe : FnOk P w K mg base CX0 8 fKe dKe ["_law_one_here", "_law_some"] (spP (keF L 7))) (gKe : mg "_law_kept" = some (.ref fKe)) (kKe : PySem.W.keepIn K (.ref fKe) = true) (bKe : Binds K dKe ["_law_one_here", "_law_some"] [])
    (GTx : FnOk P w K mg base CX0 7 fTx dTx ["_law_thing"] (spP (txF L.CG 7))) (gTx : mg "_law_sorted_text" = some (.ref fTx)) (kTx : PySem.W.keepIn K (.ref fTx) = true) (bTx : Binds K dTx ["_law_thing"] [])
    (GVE : FnOk P w K mg base CX0 16 fVE dVE ["self", "other"] (spP (veqG L 6))) (hV : ∀ C ∈ L.all, PySem.W.findIn K (.ref C) "__eq__" = some (some (.ref fVE)) ∧ PySem.W.findIn K (.ref C) "__ne__" = some (some (.builtin "object.__ne__")) ∧ PySem.W.subIn K (.ref C) (.type "object") = some true) (iVE : PySem.W.isFn K (.ref fVE) = true) (bVE : Binds K dVE ["self", "other"] [])
    (MG : Mk K L.CG fIG) (gCG : mg "Config" = some (.ref L.CG)) (GIG : FnOk P w K mg base CX0 3 fIG dIG ["self", "params", "blocks", "readings", "calls", "outputs", "moves"] (spG L.CG)) (bIG : Binds K dIG ["self", "params", "blocks", "readings", "calls", "outputs", "moves"] vds) (hdv : Vals dvs vds)
    (hdv' : ∀ H, RpL H dvs [.tup [], .tup [], .tup [], .tup [], .tup [], .tup []]) : FnOk P w K mg base CX0 18 f fd ["_law_script"] (spLaw K) := by
  refine F.ok scLaw (fun vs H Q E0 h => ?_) (fun cdv A outer s H vs Q E0 hr h => ?_)
  · obtain ⟨a, ns, rfl, _⟩ := h
    rfl
  have hrV : Room 17 _ := hr
  have hrTx : Room 7 _ := hr.mono (by decide)
  have hrKe : Room 8 _ := hr.mono (by decide)
  have hrMd : Room 4 _ := hr.mono (by decide)
  have hrM : Room 4 _ := hr.mono (by decide)
  have hrCh : Room 5 _ := hr.mono (by decide)
  have hrOn : Room 2 _ := hr.mono (by decide)
  have hrDr : Room 1 _ := hr.mono (by decide)
  have hrWe : Room 1 _ := hr.mono (by decide)
  have hu := hr.units
  have hw : (0 : Nat) < 4 := by decide
  refine ⟨_, (pss_cons (ps_set (i := 1) scLaw.nd rfl (Or.inr rfl) (pe_disp (pps_cons pe_str (pe_tup (pa_cons pe_str (pa_cons pe_int pa_nil))) (pps_cons pe_str (pe_tup (pa_cons pe_str (pa_cons (pe_tup (pa_cons (pe_tup (pa_cons pe_str (pa_cons pe_str pa_nil))) pa_nil)) pa_nil))) pps_nil)) (by rfl) (by rfl) (fun z => by cases z) (by decide)))
      (pss_cons (ps_set (i := 2) scLaw.nd rfl (Or.inr rfl) (pe_disp (pps_cons pe_str (pe_tup (pa_cons pe_str (pa_cons (pe_tup (pa_cons (pe_tup (pa_cons pe_str (pa_cons pe_str pa_nil))) pa_nil)) pa_nil))) (pps_cons pe_str (pe_tup (pa_cons pe_str (pa_cons pe_int pa_nil))) pps_nil)) (by rfl) (by rfl) (fun z => by cases z) (by decide)))
      (pss_cons (ps_set (i := 3) scLaw.nd rfl (Or.inl rfl) (pe_lst (pa_cons pe_str (pa_cons pe_str (pa_cons (pv 1) (pa_cons (pe_tup (pa_cons pe_str (pa_cons (pe_tup (pa_cons pe_str (pa_cons pe_int pa_nil))) pa_nil))) (pa_cons (pe_tup (pa_cons pe_str pa_nil)) (pa_cons (pe_cmpR op_eq pe_int pe_int (nomark _)) (pa_cons (pe_cmpR op_eq pe_int pe_int (nomark _)) (pa_cons (pe_tup (pa_cons pe_str pa_nil)) (pa_cons (pe_tup (pa_cons (pe_tup (pa_cons pe_str (pa_cons pe_str pa_nil))) pa_nil)) (pa_cons pe_non pa_nil))))))))))))
      (pss_cons (ps_set (i := 4) scLaw.nd rfl (Or.inl rfl) (pe_lst (pa_cons (pv 3) (pa_cons (pe_lst (pa_cons pe_str (pa_cons pe_str (pa_cons (pv 1) (pa_cons (pe_tup (pa_cons (pe_tup (pa_cons pe_str (pa_cons pe_str pa_nil))) pa_nil)) pa_nil))))) (pa_cons (pe_lst (pa_cons pe_str (pa_cons (pe_make0 MG GIG hrM rfl gCG bIG hdv pass0) (pa_cons (pv 1) (pa_cons (pe_tup pa_nil) pa_nil))))) (pa_cons (pe_lst (pa_cons (pe_tup (pa_cons pe_str (pa_cons pe_str pa_nil))) (pa_cons (pe_tup (pa_cons pe_str (pa_cons pe_str (pa_cons pe_int pa_nil)))) pa_nil))) pa_nil))))))
      (pss_cons (ps_for PassesOwn.never rfl (pi_lstK (K := K) rfl (pe_op op_cat (pe_slice (sl_lstK (K := K) rfl) (pv 0) po_none (po_some pe_int)) (pe_lst (pa_cons pe_int pa_nil)))) (pg_name (i := 5) scLaw.nd rfl (Or.inl rfl))
        (pss_cons (ps_set (i := 6) scLaw.nd rfl (Or.inr rfl) (pe_call GWe hrWe rfl gWe kWe bWe .nil pass0 (pa_cons (pv 5) pa_nil)))
        (pss_one (ps_for PassesOwn.never rfl (pi_range1 (by rfl) mR (pa_cons pe_int pa_nil)) (pg_name (i := 7) scLaw.nd rfl (Or.inr rfl))
          (pss_cons (ps_setLc (i := 8) (own := [("_law_part", 9)]) (g := gName 9) (tt := tYes) rfl scLaw.nd rfl rfl (sw_true rfl rfl rfl (by decide +kernel)) (pi_lstK (K := K) rfl (pe_ix (ix_lstK (K := K) rfl) (pv 4) (pv 7) (fun _ _ => rfl))) (blkOk_by (own := [("_law_part", 9)]) (N := ["_law_script", "_law_told", "_law_turned", "_law_block_here", "_law_lines", "_law_cell", "_law_well_here", "_law_way", "_law_some", "_law_part", "_law_other", "_law_one_here", "_law_two", "_law_three", "_law_is_one", "_law_others", "_law_k"]) (sc := (defScope sLaw)) (by decide +kernel)) (fun _ _ _ _ _ => pg_name (i := 9) scLaw.nd rfl (Or.inl rfl)) (fun _ _ _ _ _ => pts_nil) (fun _ _ _ _ _ => (pe_ifExp (PW.pt (pw_and (pt_cmpR (op_eqA (K := K) rfl hu (op_eqUK (K := K) (C := L.CG) rfl GVE (hV _ inG).1 iVE bVE (hrV.mono (by decide)))) (pv 9) (pv 1) (nomark _)) (pw_and1 (pt_cmpR op_eq (pe_call GDr hrDr rfl gDr kDr bDr .nil pass0 (pa_cons (pv 6) (pa_cons pe_int pa_nil))) pe_int (nomark _))))) (pv 2) (pv 9))))
          (pss_cons (ps_set (i := 10) scLaw.nd rfl (Or.inl rfl) (pe_call GCh hrCh rfl gCh kCh bCh .nil pass0 (pa_cons (pv 6) (pa_cons (pv 8) pa_nil))))
          (pss_cons (ps_par3 (i := 11) (j := 12) (l := 13) (by rfl) scLaw.nd rfl rfl rfl (by decide) (by decide) (by decide) rfl rfl rfl (pa_cons (pe_call GMd hrMd rfl gMd kMd bMd .nil pass0 (pa_cons (pv 7) (pa_cons (pe_ix (ix_lstK (K := K) rfl) (pv 4) (pv 7) (fun _ _ => rfl)) pa_nil))) (pa_cons (pe_call GMd hrMd rfl gMd kMd bMd .nil pass0 (pa_cons (pv 7) (pa_cons (pv 8) pa_nil))) (pa_cons (pe_call GMd hrMd rfl gMd kMd bMd .nil pass0 (pa_cons (pv 7) (pa_cons (pv 10) pa_nil))) pa_nil))) (by rfl))
          (pss_cons (ps_if (PW.pt (pw_or (pt_not (pt_cmpR (op_eqI (K := K) rfl GVE hV iVE bVE hrV) (pv 11) (pv 12) (nomark _))) (pw_or (pt_cmpR (op_neI (K := K) rfl GVE hV iVE bVE hrV) (pv 11) (pv 12) (nomark _)) (pw_or (pt_not (pt_val (pe_call GKe hrKe rfl gKe kKe bKe .nil pass0 (pa_cons (pv 12) (pa_cons (pv 8) pa_nil))))) (pw_or1 (pt_not (pt_val (pe_call GKe hrKe rfl gKe kKe bKe .nil pass0 (pa_cons (pv 13) (pa_cons (pv 10) pa_nil)))))))))) (pss_one (ps_ret pe_bl)) pss_nil)
          (pss_cons (ps_set (i := 14) scLaw.nd rfl (Or.inl rfl) (pe_cmpR op_eq (pe_call GTx hrTx rfl gTx kTx bTx .nil pass0 (pa_cons (pv 8) pa_nil)) (pe_call GTx hrTx rfl gTx kTx bTx .nil pass0 (pa_cons (pv 10) pa_nil)) (nomark _)))
          (pss_cons (ps_if (PW.pt (pw_or (pt_cmpR op_ne (pe_cmpR (op_eqI (K := K) rfl GVE hV iVE bVE hrV) (pv 12) (pv 13) (nomark _)) (pv 14) (nomark _)) (pw_or (pt_cmpR op_ne (pe_cmpR (op_eqI (K := K) rfl GVE hV iVE bVE hrV) (pv 13) (pv 12) (nomark _)) (pv 14) (nomark _)) (pw_or1 (pt_cmpR op_eq (pe_cmpR (op_neI (K := K) rfl GVE hV iVE bVE hrV) (pv 12) (pv 13) (nomark _)) (pv 14) (nomark _)))))) (pss_one (ps_ret pe_bl)) pss_nil)
          (pss_cons (ps_setLc (i := 15) (own := [("_law_k", 16)]) (g := gName 16) rfl scLaw.nd rfl rfl (sw_true rfl rfl rfl (by decide +kernel)) (pi_range1 (by rfl) mR (pa_cons pe_int pa_nil)) (blkOk_by (own := [("_law_k", 16)]) (N := ["_law_script", "_law_told", "_law_turned", "_law_block_here", "_law_lines", "_law_cell", "_law_well_here", "_law_way", "_law_some", "_law_part", "_law_other", "_law_one_here", "_law_two", "_law_three", "_law_is_one", "_law_others", "_law_k"]) (sc := (defScope sLaw)) (by decide +kernel)) (fun _ _ _ _ _ => pg_name (i := 16) scLaw.nd rfl (Or.inl rfl)) (fun _ _ _ _ _ => pts_one (pt_cmpR op_ne (pv 16) (pv 7) (nomark _))) (fun _ _ _ _ _ => (pv 16)))
          (pss_one (ps_if (PW.pt (pw_or (pt_cmpR (op_eqI (K := K) rfl GVE hV iVE bVE hrV) (pv 11) (pe_call GMd hrMd rfl gMd kMd bMd .nil pass0 (pa_cons (pe_call GOn hrOn rfl gOn kOn bOn .nil pass0 (pa_cons (pv 6) (pa_cons (pv 15) pa_nil))) (pa_cons (pe_op op_rep (pe_lst (pa_cons (pe_tup (pa_cons pe_str (pa_cons pe_str pa_nil))) pa_nil)) pe_int) pa_nil))) (nomark _)) (pw_or1 (pt_cmpR (op_eqI (K := K) rfl GVE hV iVE bVE hrV) (pv 11) (pv 8) (nomark _))))) (pss_one (ps_ret pe_bl)) pss_nil)))))))))))))
      (pss_one (ps_ret pe_bl))))))), ?_⟩
  obtain ⟨a, ns, rfl, hS, hlen, k⟩ := h
  have en0 : En (keepH (fun _ => True) H) (L2.start ["_law_script", "_law_told", "_law_turned", "_law_block_here", "_law_lines", "_law_cell", "_law_well_here", "_law_way", "_law_some", "_law_part", "_law_other", "_law_one_here", "_law_two", "_law_three", "_law_is_one", "_law_others", "_law_k"] [.ref a]) (List.replicate 17 none) := en_none (n := 17) rfl
  have hσ0 : (L2.start ["_law_script", "_law_told", "_law_turned", "_law_block_here", "_law_lines", "_law_cell", "_law_well_here", "_law_way", "_law_some", "_law_part", "_law_other", "_law_one_here", "_law_two", "_law_three", "_law_is_one", "_law_others", "_law_k"] [.ref a])[0]? = some (some (.ref a)) := rfl
  generalize L2.start ["_law_script", "_law_told", "_law_turned", "_law_block_here", "_law_lines", "_law_cell", "_law_well_here", "_law_way", "_law_some", "_law_part", "_law_other", "_law_one_here", "_law_two", "_law_three", "_law_is_one", "_law_others", "_law_k"] [.ref a] = σ0 at en0 hσ0 ⊢
  have fr0 : ∀ H' : Hp, Fr (fun _ => True) H' := fun _ _ _ => trivial
  apply st_pu (he := en0) (hf := fr0 H) (d := toldE)
  case pu => (repeat' first
    | with_reducible exact pu_var _ | with_reducible exact pu_non | with_reducible exact pu_bl _ | with_reducible exact pu_int _ | with_reducible exact pu_nil | with_reducible exact pu_next | with_reducible exact pu_yes
    | with_reducible apply pu_seq | with_reducible apply pu_ifS | with_reducible apply pu_ret | with_reducible apply pu_asg
    | with_reducible apply pu_and | with_reducible apply pu_or | with_reducible apply pu_not | with_reducible apply pu_test | with_reducible apply pu_b
    | with_reducible apply pu_andV | with_reducible apply pu_orV | with_reducible apply pu_notV | with_reducible apply pu_if
    | with_reducible apply pu_isi hC | with_reducible apply pu_cb (hr := pu_len) | with_reducible apply pu_cb (hr := pu_all) | with_reducible apply pu_cb (hr := pu_any) | with_reducible apply pu_cb (hr := pu_tupOf) | with_reducible apply pu_cb (hr := pu_lstOf)
    | with_reducible exact pu_dnil
    | with_reducible apply pu_disp1
    | with_reducible apply pu_disp2 (hxy := by decide +kernel)
    | with_reducible apply pu_conf hdv'
    | with_reducible apply pu_op (hr := pu_eqI hw hC hnT hnC)
    | with_reducible apply pu_op (hr := pu_neI hw hC hnT hnC)
    | with_reducible exact pu_iRng4
    | with_reducible apply pu_op (hr := pu_rep)
    | with_reducible apply pu_op (hr := pu_ixT) | with_reducible apply pu_op (hr := pu_ixL) | with_reducible apply pu_op (hr := pu_eqS) | with_reducible apply pu_op (hr := pu_neS) | with_reducible apply pu_op (hr := pu_in) | with_reducible apply pu_op (hr := pu_isNo) | with_reducible apply pu_op (hr := pu_notNo)
    | with_reducible apply pu_op (hr := pu_cm) | with_reducible apply pu_op (hr := pu_ar) | with_reducible apply pu_op (hr := pu_eqP) | with_reducible apply pu_op (hr := pu_neP) | with_reducible apply pu_op (hr := pu_catT) | with_reducible apply pu_op (hr := pu_catL)
    | with_reducible apply pu_chain pu_cm pu_cm | with_reducible apply pu_lcV | with_reducible apply pu_dcV | with_reducible apply pu_iTup | with_reducible apply pu_iLst
    | with_reducible apply pu_slT | with_reducible apply pu_slL | with_reducible exact pu_noPart | with_reducible exact pu_part _
    | exact pu_str _ ⟨by decide +kernel, by decide +kernel⟩ | with_reducible apply pu_call | with_reducible apply pu_tup | with_reducible apply pu_lst | with_reducible apply pu_cons | (with_reducible_and_instances rfl) | rfl)
  case e => rfl
  intro v1 H1 m1 en1 r1
  have hσ1 : (σ0.set 1 (some v1))[0]? = some (some (.ref a)) := by rw [List.getElem?_set_ne (by decide)]; exact hσ0
  generalize σ0.set 1 (some v1) = σ1 at en1 hσ1 ⊢
  apply st_pu (he := en1) (hf := fr0 H1) (d := turnE)
  case pu => (repeat' first
    | with_reducible exact pu_var _ | with_reducible exact pu_non | with_reducible exact pu_bl _ | with_reducible exact pu_int _ | with_reducible exact pu_nil | with_reducible exact pu_next | with_reducible exact pu_yes
    | with_reducible apply pu_seq | with_reducible apply pu_ifS | with_reducible apply pu_ret | with_reducible apply pu_asg
    | with_reducible apply pu_and | with_reducible apply pu_or | with_reducible apply pu_not | with_reducible apply pu_test | with_reducible apply pu_b
    | with_reducible apply pu_andV | with_reducible apply pu_orV | with_reducible apply pu_notV | with_reducible apply pu_if
    | with_reducible apply pu_isi hC | with_reducible apply pu_cb (hr := pu_len) | with_reducible apply pu_cb (hr := pu_all) | with_reducible apply pu_cb (hr := pu_any) | with_reducible apply pu_cb (hr := pu_tupOf) | with_reducible apply pu_cb (hr := pu_lstOf)
    | with_reducible exact pu_dnil
    | with_reducible apply pu_disp1
    | with_reducible apply pu_disp2 (hxy := by decide +kernel)
    | with_reducible apply pu_conf hdv'
    | with_reducible apply pu_op (hr := pu_eqI hw hC hnT hnC)
    | with_reducible apply pu_op (hr := pu_neI hw hC hnT hnC)
    | with_reducible exact pu_iRng4
    | with_reducible apply pu_op (hr := pu_rep)
    | with_reducible apply pu_op (hr := pu_ixT) | with_reducible apply pu_op (hr := pu_ixL) | with_reducible apply pu_op (hr := pu_eqS) | with_reducible apply pu_op (hr := pu_neS) | with_reducible apply pu_op (hr := pu_in) | with_reducible apply pu_op (hr := pu_isNo) | with_reducible apply pu_op (hr := pu_notNo)
    | with_reducible apply pu_op (hr := pu_cm) | with_reducible apply pu_op (hr := pu_ar) | with_reducible apply pu_op (hr := pu_eqP) | with_reducible apply pu_op (hr := pu_neP) | with_reducible apply pu_op (hr := pu_catT) | with_reducible apply pu_op (hr := pu_catL)
    | with_reducible apply pu_chain pu_cm pu_cm | with_reducible apply pu_lcV | with_reducible apply pu_dcV | with_reducible apply pu_iTup | with_reducible apply pu_iLst
    | with_reducible apply pu_slT | with_reducible apply pu_slL | with_reducible exact pu_noPart | with_reducible exact pu_part _
    | exact pu_str _ ⟨by decide +kernel, by decide +kernel⟩ | with_reducible apply pu_call | with_reducible apply pu_tup | with_reducible apply pu_lst | with_reducible apply pu_cons | (with_reducible_and_instances rfl) | rfl)
  case e => rfl
  intro v2 H2 m2 en2 r2
  have hσ2 : (σ1.set 2 (some v2))[0]? = some (some (.ref a)) := by rw [List.getElem?_set_ne (by decide)]; exact hσ1
  generalize σ1.set 2 (some v2) = σ2 at en2 hσ2 ⊢
  apply st_pu (he := en2) (hf := fr0 H2) (d := .lst (line L.CG 0))
  case pu => (repeat' first
    | with_reducible exact pu_var _ | with_reducible exact pu_non | with_reducible exact pu_bl _ | with_reducible exact pu_int _ | with_reducible exact pu_nil | with_reducible exact pu_next | with_reducible exact pu_yes
    | with_reducible apply pu_seq | with_reducible apply pu_ifS | with_reducible apply pu_ret | with_reducible apply pu_asg
    | with_reducible apply pu_and | with_reducible apply pu_or | with_reducible apply pu_not | with_reducible apply pu_test | with_reducible apply pu_b
    | with_reducible apply pu_andV | with_reducible apply pu_orV | with_reducible apply pu_notV | with_reducible apply pu_if
    | with_reducible apply pu_isi hC | with_reducible apply pu_cb (hr := pu_len) | with_reducible apply pu_cb (hr := pu_all) | with_reducible apply pu_cb (hr := pu_any) | with_reducible apply pu_cb (hr := pu_tupOf) | with_reducible apply pu_cb (hr := pu_lstOf)
    | with_reducible exact pu_dnil
    | with_reducible apply pu_disp1
    | with_reducible apply pu_disp2 (hxy := by decide +kernel)
    | with_reducible apply pu_conf hdv'
    | with_reducible apply pu_op (hr := pu_eqI hw hC hnT hnC)
    | with_reducible apply pu_op (hr := pu_neI hw hC hnT hnC)
    | with_reducible exact pu_iRng4
    | with_reducible apply pu_op (hr := pu_rep)
    | with_reducible apply pu_op (hr := pu_ixT) | with_reducible apply pu_op (hr := pu_ixL) | with_reducible apply pu_op (hr := pu_eqS) | with_reducible apply pu_op (hr := pu_neS) | with_reducible apply pu_op (hr := pu_in) | with_reducible apply pu_op (hr := pu_isNo) | with_reducible apply pu_op (hr := pu_notNo)
    | with_reducible apply pu_op (hr := pu_cm) | with_reducible apply pu_op (hr := pu_ar) | with_reducible apply pu_op (hr := pu_eqP) | with_reducible apply pu_op (hr := pu_neP) | with_reducible apply pu_op (hr := pu_catT) | with_reducible apply pu_op (hr := pu_catL)
    | with_reducible apply pu_chain pu_cm pu_cm | with_reducible apply pu_lcV | with_reducible apply pu_dcV | with_reducible apply pu_iTup | with_reducible apply pu_iLst
    | with_reducible apply pu_slT | with_reducible apply pu_slL | with_reducible exact pu_noPart | with_reducible exact pu_part _
    | exact pu_str _ ⟨by decide +kernel, by decide +kernel⟩ | with_reducible apply pu_call | with_reducible apply pu_tup | with_reducible apply pu_lst | with_reducible apply pu_cons | (with_reducible_and_instances rfl) | rfl)
  case e => rfl
  intro v3 H3 m3 en3 r3
  have hσ3 : (σ2.set 3 (some v3))[0]? = some (some (.ref a)) := by rw [List.getElem?_set_ne (by decide)]; exact hσ2
  generalize σ2.set 3 (some v3) = σ3 at en3 hσ3 ⊢
  apply st_pu (he := en3) (hf := fr0 H3) (d := .lst (linesE L.CG))
  case pu => (repeat' first
    | with_reducible exact pu_var _ | with_reducible exact pu_non | with_reducible exact pu_bl _ | with_reducible exact pu_int _ | with_reducible exact pu_nil | with_reducible exact pu_next | with_reducible exact pu_yes
    | with_reducible apply pu_seq | with_reducible apply pu_ifS | with_reducible apply pu_ret | with_reducible apply pu_asg
    | with_reducible apply pu_and | with_reducible apply pu_or | with_reducible apply pu_not | with_reducible apply pu_test | with_reducible apply pu_b
    | with_reducible apply pu_andV | with_reducible apply pu_orV | with_reducible apply pu_notV | with_reducible apply pu_if
    | with_reducible apply pu_isi hC | with_reducible apply pu_cb (hr := pu_len) | with_reducible apply pu_cb (hr := pu_all) | with_reducible apply pu_cb (hr := pu_any) | with_reducible apply pu_cb (hr := pu_tupOf) | with_reducible apply pu_cb (hr := pu_lstOf)
    | with_reducible exact pu_dnil
    | with_reducible apply pu_disp1
    | with_reducible apply pu_disp2 (hxy := by decide +kernel)
    | with_reducible apply pu_conf hdv'
    | with_reducible apply pu_op (hr := pu_eqI hw hC hnT hnC)
    | with_reducible apply pu_op (hr := pu_neI hw hC hnT hnC)
    | with_reducible exact pu_iRng4
    | with_reducible apply pu_op (hr := pu_rep)
    | with_reducible apply pu_op (hr := pu_ixT) | with_reducible apply pu_op (hr := pu_ixL) | with_reducible apply pu_op (hr := pu_eqS) | with_reducible apply pu_op (hr := pu_neS) | with_reducible apply pu_op (hr := pu_in) | with_reducible apply pu_op (hr := pu_isNo) | with_reducible apply pu_op (hr := pu_notNo)
    | with_reducible apply pu_op (hr := pu_cm) | with_reducible apply pu_op (hr := pu_ar) | with_reducible apply pu_op (hr := pu_eqP) | with_reducible apply pu_op (hr := pu_neP) | with_reducible apply pu_op (hr := pu_catT) | with_reducible apply pu_op (hr := pu_catL)
    | with_reducible apply pu_chain pu_cm pu_cm | with_reducible apply pu_lcV | with_reducible apply pu_dcV | with_reducible apply pu_iTup | with_reducible apply pu_iLst
    | with_reducible apply pu_slT | with_reducible apply pu_slL | with_reducible exact pu_noPart | with_reducible exact pu_part _
    | exact pu_str _ ⟨by decide +kernel, by decide +kernel⟩ | with_reducible apply pu_call | with_reducible apply pu_tup | with_reducible apply pu_lst | with_reducible apply pu_cons | (with_reducible_and_instances rfl) | rfl)
  case e => rfl
  intro v4 H4 m4 en4 r4
  have hσ4 : (σ3.set 4 (some v4))[0]? = some (some (.ref a)) := by rw [List.getElem?_set_ne (by decide)]; exact hσ3
  generalize σ3.set 4 (some v4) = σ4 at en4 hσ4 ⊢
  have hS4 := (m1.trans (m2.trans (m3.trans m4))).seq hS
  clear en0 en1 en2 en3 hσ0 hσ1 hσ2 hσ3 r1 r2 r3 r4
  refine ⟨_, hσ4, 10, rfl, a, _, rfl, hS4, fun q0 hq0 => ?_⟩
  have n0 := same_new (o := .lst (cutV (ns.map V.int) none (some 10))) hq0
  refine ⟨(by show 1 ≤ sizeLine; decide), fun q1 hq1 => ?_⟩
  have n1 := same_new (o := .lst [.int 0]) hq1
  have lc := cutV_length (ns.map V.int) none (some 10)
  rw [List.length_map] at lc
  refine ⟨q0, q1, _, _, rfl, rfl, n1 _ _ upd_same, upd_same, ?_, fun q2 hq2 => ?_⟩
  · rw [sizeLine_eq]
    show _ + 1 ≤ _
    omega
  have hints : ∀ y ∈ cutV (ns.map V.int) none (some 10) ++ [.int 0], ∃ z, y = V.int z := fun y hy => by
    rcases List.mem_append.mp hy with h | h
    · exact cut_ints h
    · exact ⟨0, by simpa using h⟩
  generalize hLs : cutV (ns.map V.int) none (some 10) ++ [.int 0] = Ls at hints ⊢
  have f2 : (upd _ q2 (.lst Ls)) q2 = _ := at_new hq2
  have n2 := (n0.trans n1).trans (same_new (o := .lst Ls) hq2)
  generalize (upd _ q2 (.lst Ls)) = G2 at f2 n2 ⊢
  have en5 : En (keepH (fun _ => True) G2) σ4 [none, some toldE, some turnE, some (.lst (line L.CG 0)), some (.lst (linesE L.CG)), none, none, none, none, none, none, none, none, none, none, none, none] := en4.keepS n2
  clear n0 n1 lc en4
  refine ⟨q2, rfl, ⟨_, SqL.of f2⟩, for_list (K := K) (a := q2) (xs := Ls)
    (fun i σ H' => H' q2 = some (.lst Ls) ∧ En (keepH (fun _ => True) H') σ [none, some toldE, some turnE, some (.lst (line L.CG 0)), some (.lst (linesE L.CG)), none, none, none, none, none, none, none, none, none, none, none, none])
    ⟨f2, en5⟩ (fun i σ H' _ m => SqL.of m.1) ?_ ?_⟩
  rotate_left
  · rintro σ H5 _
    exact k H5
  rintro i y σ H5 hi ⟨q5, en5⟩
  obtain ⟨z, rfl⟩ := hints y (List.mem_of_getElem? hi)
  clear hS hS4 hσ4 f2 n2
  have en6 := en5.set (i := 5) (Rp.int (H := keepH (fun _ => True) H5) z)
  show tSeq (tAsg _ (gName 6)) _ _ (σ.set 5 (some (V.int z))) H5
  generalize σ.set 5 (some (V.int z)) = σ6 at en6 ⊢
  obtain ⟨v5, hσ6, r5⟩ := en6.2 5 (.int z) rfl
  cases r5
  refine st_wellS hσ6 fun p a' b' H6 m6 hp W6 => ?_
  have nd6 : Nd p 6 1000000000000000 (fun b => b ≠ p) (σ6.set 6 (some (.ref p))) H6 [none, some toldE, some turnE, some (.lst (line L.CG 0)), some (.lst (linesE L.CG)), none, none, none, none, none, none, none, none, none, none, none, none] := by
    refine ⟨en_skip (j := 6) (en_sub (en6.mono fun b o e => ?_) (by show _ ∧ _ ∧ _ ∧ _ ∧ True; exact ⟨rfl, rfl, rfl, rfl, trivial⟩)) rfl, fun b hb => ?_, fun z => z rfl, ⟨a', b', 0, W6, by decide⟩, ?_⟩
    · have e' := (keep_some e).2
      rw [keep_at (P := fun b => b ≠ p) (show b ≠ p from ne_of_none e' hp)]
      exact m6 _ _ e'
    · intro z
      rw [z, W6.at_] at hb
      cases hb
    · rw [List.getElem?_set_self (by rw [en6.1]; show 6 < 17; decide)]
  generalize σ6.set 6 (some (V.ref p)) = σ7 at nd6 ⊢
  refine ⟨4, rfl, by decide, by decide, for_range (lo := 0) (n := 4) (fun i σ' H' => But p H6 H' ∧ Nd p 6 (1000000000000000 - 10000 * i) (fun b => b ≠ p) σ' H' [none, some toldE, some turnE, some (.lst (line L.CG 0)), some (.lst (linesE L.CG)), none, none, none, none, none, none, none, none, none, none, none, none]) ⟨But.of fun _ _ z => z, nd6.le (by decide)⟩ ?_ ?_⟩
  rotate_left
  · rintro σ' H' ⟨B, nd⟩
    exact ⟨B _ _ (m6 _ _ q5) (ne_of_none q5 hp), en_sub (nd.en.mono fun b o e => by rw [keep_at trivial]; exact (keep_some e).2) (by show _ ∧ _ ∧ _ ∧ _ ∧ True; exact ⟨rfl, rfl, rfl, rfl, trivial⟩)⟩
  clear nd6 hw
  rintro wy σ8 H8 hw ⟨B8, nd8⟩
  obtain ⟨M, hM⟩ : ∃ M, M = 1000000000000000 - 10000 * wy := ⟨_, rfl⟩
  rw [← hM] at nd8
  have hM1 : 1000000 ≤ M := by omega
  have hM2 : 1000000000000000 - 10000 * (wy + 1) ≤ M - 10000 := by omega
  clear hM
  have nd9 := nd8.set (j := 7) (by decide) (Rp.int (H := keepH (fun b => b ≠ p) H8) (0 + (wy : Nat)))
  show tSeq (tAsg _ (gName 8)) _ _ (σ8.set 7 (some (V.int (0 + (wy : Nat))))) H8
  generalize σ8.set 7 (some (V.int (0 + (wy : Nat)))) = σ9 at nd9 ⊢
  rw [Int.zero_add] at nd9
  have nd9 : Nd p 6 M (fun b => b ≠ p) σ9 H8 [none, some toldE, some turnE, some (.lst (line L.CG 0)), some (.lst (linesE L.CG)), none, none, some (.int (wy : Nat)), none, none, none, none, none, none, none, none, none] := nd9
  -- some
  apply st_set (nd := nd9) (Φ := fun d => ∃ r ∈ vars L.CG wy, d = .lst r)
  case hE =>
    apply nd_lcL (M := 10) (ji := by decide) (hM := by decide)
    case ha => (repeat' first
    | with_reducible exact pu_var _ | with_reducible exact pu_non | with_reducible exact pu_bl _ | with_reducible exact pu_int _ | with_reducible exact pu_nil | with_reducible exact pu_next | with_reducible exact pu_yes
    | with_reducible apply pu_seq | with_reducible apply pu_ifS | with_reducible apply pu_ret | with_reducible apply pu_asg
    | with_reducible apply pu_and | with_reducible apply pu_or | with_reducible apply pu_not | with_reducible apply pu_test | with_reducible apply pu_b
    | with_reducible apply pu_andV | with_reducible apply pu_orV | with_reducible apply pu_notV | with_reducible apply pu_if
    | with_reducible apply pu_isi hC | with_reducible apply pu_cb (hr := pu_len) | with_reducible apply pu_cb (hr := pu_all) | with_reducible apply pu_cb (hr := pu_any) | with_reducible apply pu_cb (hr := pu_tupOf) | with_reducible apply pu_cb (hr := pu_lstOf)
    | with_reducible exact pu_dnil
    | with_reducible apply pu_disp1
    | with_reducible apply pu_disp2 (hxy := by decide +kernel)
    | with_reducible apply pu_conf hdv'
    | with_reducible apply pu_op (hr := pu_eqI hw hC hnT hnC)
    | with_reducible apply pu_op (hr := pu_neI hw hC hnT hnC)
    | with_reducible exact pu_iRng4
    | with_reducible apply pu_op (hr := pu_rep)
    | with_reducible apply pu_op (hr := pu_eqA hC (hnT _ inG) (hnC _ inG) veqG_bl)
    | with_reducible apply pu_op (hr := pu_ixT) | with_reducible apply pu_op (hr := pu_ixL) | with_reducible apply pu_op (hr := pu_eqS) | with_reducible apply pu_op (hr := pu_neS) | with_reducible apply pu_op (hr := pu_in) | with_reducible apply pu_op (hr := pu_isNo) | with_reducible apply pu_op (hr := pu_notNo)
    | with_reducible apply pu_op (hr := pu_cm) | with_reducible apply pu_op (hr := pu_ar) | with_reducible apply pu_op (hr := pu_eqP) | with_reducible apply pu_op (hr := pu_neP) | with_reducible apply pu_op (hr := pu_catT) | with_reducible apply pu_op (hr := pu_catL)
    | with_reducible apply pu_chain pu_cm pu_cm | with_reducible apply pu_lcV | with_reducible apply pu_dcV | with_reducible apply pu_iTup | with_reducible apply pu_iLst
    | with_reducible apply pu_slT | with_reducible apply pu_slL | with_reducible exact pu_noPart | with_reducible exact pu_part _
    | exact pu_str _ ⟨by decide +kernel, by decide +kernel⟩ | with_reducible apply pu_call | with_reducible apply pu_tup | with_reducible apply pu_lst | with_reducible apply pu_cons | (with_reducible_and_instances rfl) | rfl)
    case ht => exact nd_pt pu_yes
    case hE => (repeat' first
    | with_reducible exact nd_next | with_reducible exact nd_nil
    | with_reducible apply nd_ret | with_reducible apply nd_seq | with_reducible apply nd_ifS | (with_reducible apply nd_asg (ij := by decide))
    | ((with_reducible apply nd_pu); ((repeat' first
    | with_reducible exact pu_var _ | with_reducible exact pu_non | with_reducible exact pu_bl _ | with_reducible exact pu_int _ | with_reducible exact pu_nil | with_reducible exact pu_next | with_reducible exact pu_yes
    | with_reducible apply pu_seq | with_reducible apply pu_ifS | with_reducible apply pu_ret | with_reducible apply pu_asg
    | with_reducible apply pu_and | with_reducible apply pu_or | with_reducible apply pu_not | with_reducible apply pu_test | with_reducible apply pu_b
    | with_reducible apply pu_andV | with_reducible apply pu_orV | with_reducible apply pu_notV | with_reducible apply pu_if
    | with_reducible apply pu_isi hC | with_reducible apply pu_cb (hr := pu_len) | with_reducible apply pu_cb (hr := pu_all) | with_reducible apply pu_cb (hr := pu_any) | with_reducible apply pu_cb (hr := pu_tupOf) | with_reducible apply pu_cb (hr := pu_lstOf)
    | with_reducible exact pu_dnil
    | with_reducible apply pu_disp1
    | with_reducible apply pu_disp2 (hxy := by decide +kernel)
    | with_reducible apply pu_conf hdv'
    | with_reducible apply pu_op (hr := pu_eqI hw hC hnT hnC)
    | with_reducible apply pu_op (hr := pu_neI hw hC hnT hnC)
    | with_reducible exact pu_iRng4
    | with_reducible apply pu_op (hr := pu_rep)
    | with_reducible apply pu_op (hr := pu_eqA hC (hnT _ inG) (hnC _ inG) veqG_bl)
    | with_reducible apply pu_op (hr := pu_ixT) | with_reducible apply pu_op (hr := pu_ixL) | with_reducible apply pu_op (hr := pu_eqS) | with_reducible apply pu_op (hr := pu_neS) | with_reducible apply pu_op (hr := pu_in) | with_reducible apply pu_op (hr := pu_isNo) | with_reducible apply pu_op (hr := pu_notNo)
    | with_reducible apply pu_op (hr := pu_cm) | with_reducible apply pu_op (hr := pu_ar) | with_reducible apply pu_op (hr := pu_eqP) | with_reducible apply pu_op (hr := pu_neP) | with_reducible apply pu_op (hr := pu_catT) | with_reducible apply pu_op (hr := pu_catL)
    | with_reducible apply pu_chain pu_cm pu_cm | with_reducible apply pu_lcV | with_reducible apply pu_dcV | with_reducible apply pu_iTup | with_reducible apply pu_iLst
    | with_reducible apply pu_slT | with_reducible apply pu_slL | with_reducible exact pu_noPart | with_reducible exact pu_part _
    | exact pu_str _ ⟨by decide +kernel, by decide +kernel⟩ | with_reducible apply pu_call | with_reducible apply pu_tup | with_reducible apply pu_lst | with_reducible apply pu_cons | (with_reducible_and_instances rfl) | rfl)); done)
    | ((with_reducible apply nd_pt); ((repeat' first
    | with_reducible exact pu_var _ | with_reducible exact pu_non | with_reducible exact pu_bl _ | with_reducible exact pu_int _ | with_reducible exact pu_nil | with_reducible exact pu_next | with_reducible exact pu_yes
    | with_reducible apply pu_seq | with_reducible apply pu_ifS | with_reducible apply pu_ret | with_reducible apply pu_asg
    | with_reducible apply pu_and | with_reducible apply pu_or | with_reducible apply pu_not | with_reducible apply pu_test | with_reducible apply pu_b
    | with_reducible apply pu_andV | with_reducible apply pu_orV | with_reducible apply pu_notV | with_reducible apply pu_if
    | with_reducible apply pu_isi hC | with_reducible apply pu_cb (hr := pu_len) | with_reducible apply pu_cb (hr := pu_all) | with_reducible apply pu_cb (hr := pu_any) | with_reducible apply pu_cb (hr := pu_tupOf) | with_reducible apply pu_cb (hr := pu_lstOf)
    | with_reducible exact pu_dnil
    | with_reducible apply pu_disp1
    | with_reducible apply pu_disp2 (hxy := by decide +kernel)
    | with_reducible apply pu_conf hdv'
    | with_reducible apply pu_op (hr := pu_eqI hw hC hnT hnC)
    | with_reducible apply pu_op (hr := pu_neI hw hC hnT hnC)
    | with_reducible exact pu_iRng4
    | with_reducible apply pu_op (hr := pu_rep)
    | with_reducible apply pu_op (hr := pu_eqA hC (hnT _ inG) (hnC _ inG) veqG_bl)
    | with_reducible apply pu_op (hr := pu_ixT) | with_reducible apply pu_op (hr := pu_ixL) | with_reducible apply pu_op (hr := pu_eqS) | with_reducible apply pu_op (hr := pu_neS) | with_reducible apply pu_op (hr := pu_in) | with_reducible apply pu_op (hr := pu_isNo) | with_reducible apply pu_op (hr := pu_notNo)
    | with_reducible apply pu_op (hr := pu_cm) | with_reducible apply pu_op (hr := pu_ar) | with_reducible apply pu_op (hr := pu_eqP) | with_reducible apply pu_op (hr := pu_neP) | with_reducible apply pu_op (hr := pu_catT) | with_reducible apply pu_op (hr := pu_catL)
    | with_reducible apply pu_chain pu_cm pu_cm | with_reducible apply pu_lcV | with_reducible apply pu_dcV | with_reducible apply pu_iTup | with_reducible apply pu_iLst
    | with_reducible apply pu_slT | with_reducible apply pu_slL | with_reducible exact pu_noPart | with_reducible exact pu_part _
    | exact pu_str _ ⟨by decide +kernel, by decide +kernel⟩ | with_reducible apply pu_call | with_reducible apply pu_tup | with_reducible apply pu_lst | with_reducible apply pu_cons | (with_reducible_and_instances rfl) | rfl)); done)
    | with_reducible apply nd_and | with_reducible apply nd_or | with_reducible apply nd_b | with_reducible apply nd_callP | with_reducible apply nd_op (hr := pu_eqI hw hC hnT hnC) | with_reducible apply nd_if | with_reducible apply nd_test | with_reducible apply nd_call | with_reducible apply nd_cons
    | with_reducible apply nd_op (hr := pu_ar) | with_reducible apply nd_op (hr := pu_cm) | with_reducible apply nd_op (hr := pu_eqS) | with_reducible apply nd_tup | with_reducible apply nd_lst)
  case hm => exact Nat.le_trans (by decide : _ ≤ 100) (by omega)
  case hf =>
    refine ⟨line L.CG wy, bnd _ rfl (bnd _ rfl (lines_at hw)), line_len hw, lcN_opt (alt := alt) (fun x hx φ h => ⟨_, rfl, h⟩) (fun x hx φ h => ?_) fun r hr => ⟨r, al_line hw hr, rfl⟩⟩
    rcases eqA_line D0 hw x hx with rfl | e
    · refine ⟨true, bnd _ (bnd _ rfl (bnd _ rfl eqA_told)) rfl, ?_⟩
      exact iteT ⟨_, rfl, by decide, by decide, fun d d0 d1 => ⟨_, rfl, _, rfl, _, rfl, itd (fun _ => ⟨_, rfl, h _ (.inr ⟨rfl, rfl⟩)⟩) (fun _ => ⟨_, rfl, h _ (.inl rfl)⟩)⟩⟩
    · refine ⟨false, bnd _ (bnd _ rfl (bnd _ rfl e)) rfl, ?_⟩
      exact iteF (iteF ⟨_, rfl, h _ (.inl rfl)⟩)
  case ji => decide
  rintro v8 _ H9 B9 nd10 ⟨l, hl, rfl⟩
  obtain ⟨ol, eq0⟩ := okl_row hw hl
  generalize σ9.set 8 (some v8) = σ10 at nd10 ⊢
  have nd10 : Nd p 6 (M - 1000) (fun b => b ≠ p) σ10 H9 [none, some toldE, some turnE, some (.lst (line L.CG 0)), some (.lst (linesE L.CG)), none, none, some (.int (wy : Nat)), some (.lst l), none, none, none, none, none, none, none, none] := nd10.le (Nat.sub_le_sub_left (by decide) M)
  have ll : l.length ≤ 10 := by rw [ol.len, ← lenW_eq (a := L.CG) hw]; exact line_len hw
  have l0 : 0 < l.length := by rw [ol.len]; exact lenW_pos
  -- other
  apply st_set (nd := nd10) (Φ := fun d => ∃ (kk : Nat) (o : E), kk < l.length ∧ o ∈ odds L.CG ∧ d = .lst (l.set kk o))
  case hE => (repeat' first
    | with_reducible exact nd_next | with_reducible exact nd_nil
    | with_reducible apply nd_ret | with_reducible apply nd_seq | with_reducible apply nd_ifS | (with_reducible apply nd_asg (ij := by decide))
    | ((with_reducible apply nd_pu); ((repeat' first
    | with_reducible exact pu_var _ | with_reducible exact pu_non | with_reducible exact pu_bl _ | with_reducible exact pu_int _ | with_reducible exact pu_nil | with_reducible exact pu_next | with_reducible exact pu_yes
    | with_reducible apply pu_seq | with_reducible apply pu_ifS | with_reducible apply pu_ret | with_reducible apply pu_asg
    | with_reducible apply pu_and | with_reducible apply pu_or | with_reducible apply pu_not | with_reducible apply pu_test | with_reducible apply pu_b
    | with_reducible apply pu_andV | with_reducible apply pu_orV | with_reducible apply pu_notV | with_reducible apply pu_if
    | with_reducible apply pu_isi hC | with_reducible apply pu_cb (hr := pu_len) | with_reducible apply pu_cb (hr := pu_all) | with_reducible apply pu_cb (hr := pu_any) | with_reducible apply pu_cb (hr := pu_tupOf) | with_reducible apply pu_cb (hr := pu_lstOf)
    | with_reducible exact pu_dnil
    | with_reducible apply pu_disp1
    | with_reducible apply pu_disp2 (hxy := by decide +kernel)
    | with_reducible apply pu_conf hdv'
    | with_reducible apply pu_op (hr := pu_eqI hw hC hnT hnC)
    | with_reducible apply pu_op (hr := pu_neI hw hC hnT hnC)
    | with_reducible exact pu_iRng4
    | with_reducible apply pu_op (hr := pu_rep)
    | with_reducible apply pu_op (hr := pu_eqA hC (hnT _ inG) (hnC _ inG) veqG_bl)
    | with_reducible apply pu_op (hr := pu_ixT) | with_reducible apply pu_op (hr := pu_ixL) | with_reducible apply pu_op (hr := pu_eqS) | with_reducible apply pu_op (hr := pu_neS) | with_reducible apply pu_op (hr := pu_in) | with_reducible apply pu_op (hr := pu_isNo) | with_reducible apply pu_op (hr := pu_notNo)
    | with_reducible apply pu_op (hr := pu_cm) | with_reducible apply pu_op (hr := pu_ar) | with_reducible apply pu_op (hr := pu_eqP) | with_reducible apply pu_op (hr := pu_neP) | with_reducible apply pu_op (hr := pu_catT) | with_reducible apply pu_op (hr := pu_catL)
    | with_reducible apply pu_chain pu_cm pu_cm | with_reducible apply pu_lcV | with_reducible apply pu_dcV | with_reducible apply pu_iTup | with_reducible apply pu_iLst
    | with_reducible apply pu_slT | with_reducible apply pu_slL | with_reducible exact pu_noPart | with_reducible exact pu_part _
    | exact pu_str _ ⟨by decide +kernel, by decide +kernel⟩ | with_reducible apply pu_call | with_reducible apply pu_tup | with_reducible apply pu_lst | with_reducible apply pu_cons | (with_reducible_and_instances rfl) | rfl)); done)
    | ((with_reducible apply nd_pt); ((repeat' first
    | with_reducible exact pu_var _ | with_reducible exact pu_non | with_reducible exact pu_bl _ | with_reducible exact pu_int _ | with_reducible exact pu_nil | with_reducible exact pu_next | with_reducible exact pu_yes
    | with_reducible apply pu_seq | with_reducible apply pu_ifS | with_reducible apply pu_ret | with_reducible apply pu_asg
    | with_reducible apply pu_and | with_reducible apply pu_or | with_reducible apply pu_not | with_reducible apply pu_test | with_reducible apply pu_b
    | with_reducible apply pu_andV | with_reducible apply pu_orV | with_reducible apply pu_notV | with_reducible apply pu_if
    | with_reducible apply pu_isi hC | with_reducible apply pu_cb (hr := pu_len) | with_reducible apply pu_cb (hr := pu_all) | with_reducible apply pu_cb (hr := pu_any) | with_reducible apply pu_cb (hr := pu_tupOf) | with_reducible apply pu_cb (hr := pu_lstOf)
    | with_reducible exact pu_dnil
    | with_reducible apply pu_disp1
    | with_reducible apply pu_disp2 (hxy := by decide +kernel)
    | with_reducible apply pu_conf hdv'
    | with_reducible apply pu_op (hr := pu_eqI hw hC hnT hnC)
    | with_reducible apply pu_op (hr := pu_neI hw hC hnT hnC)
    | with_reducible exact pu_iRng4
    | with_reducible apply pu_op (hr := pu_rep)
    | with_reducible apply pu_op (hr := pu_eqA hC (hnT _ inG) (hnC _ inG) veqG_bl)
    | with_reducible apply pu_op (hr := pu_ixT) | with_reducible apply pu_op (hr := pu_ixL) | with_reducible apply pu_op (hr := pu_eqS) | with_reducible apply pu_op (hr := pu_neS) | with_reducible apply pu_op (hr := pu_in) | with_reducible apply pu_op (hr := pu_isNo) | with_reducible apply pu_op (hr := pu_notNo)
    | with_reducible apply pu_op (hr := pu_cm) | with_reducible apply pu_op (hr := pu_ar) | with_reducible apply pu_op (hr := pu_eqP) | with_reducible apply pu_op (hr := pu_neP) | with_reducible apply pu_op (hr := pu_catT) | with_reducible apply pu_op (hr := pu_catL)
    | with_reducible apply pu_chain pu_cm pu_cm | with_reducible apply pu_lcV | with_reducible apply pu_dcV | with_reducible apply pu_iTup | with_reducible apply pu_iLst
    | with_reducible apply pu_slT | with_reducible apply pu_slL | with_reducible exact pu_noPart | with_reducible exact pu_part _
    | exact pu_str _ ⟨by decide +kernel, by decide +kernel⟩ | with_reducible apply pu_call | with_reducible apply pu_tup | with_reducible apply pu_lst | with_reducible apply pu_cons | (with_reducible_and_instances rfl) | rfl)); done)
    | with_reducible apply nd_and | with_reducible apply nd_or | with_reducible apply nd_b | with_reducible apply nd_callP | with_reducible apply nd_op (hr := pu_eqI hw hC hnT hnC) | with_reducible apply nd_if | with_reducible apply nd_test | with_reducible apply nd_call | with_reducible apply nd_cons
    | with_reducible apply nd_op (hr := pu_ar) | with_reducible apply nd_op (hr := pu_cm) | with_reducible apply nd_op (hr := pu_eqS) | with_reducible apply nd_tup | with_reducible apply nd_lst)
  case hm => exact Nat.le_trans (by decide : _ ≤ 100) (by omega)
  case hf => exact ⟨_, rfl, l0, by omega, fun kk hk o ho => ⟨kk, o, hk, ho, rfl⟩⟩
  case ji => decide
  rintro v10 _ H10 B10 nd11 ⟨kk, o, hk, ho, rfl⟩
  have oo := okl_set (kk := kk) ol ho
  obtain ⟨r0, hr0, hr1, hr2, hr3⟩ := vars_row hw hl
  obtain ⟨t, u, tx1, tx2, eq1, eq2⟩ := (by
    have := row_fact hr1 hr2 hr3 (kk := kk) (by rw [hr0, List.length_map] at hk; exact hk) ho
    rw [← hr0] at this
    exact this : ∃ t u, txH 7 (.lst l) = some (.str t) ∧ txH 7 (.lst (l.set kk o)) = some (.str u) ∧ eqH 6 (.tup l) (.tup (l.set kk o)) = decide (t = u) ∧ eqH 6 (.tup (l.set kk o)) (.tup l) = decide (t = u))
  generalize σ10.set 10 (some v10) = σ11 at nd11 ⊢
  have nd11 : Nd p 6 (M - 2000) (fun b => b ≠ p) σ11 H10 [none, some toldE, some turnE, some (.lst (line L.CG 0)), some (.lst (linesE L.CG)), none, none, some (.int (wy : Nat)), some (.lst l), none, some (.lst (l.set kk o)), none, none, none, none, none, none] := nd11.le (by rw [Nat.sub_sub]; exact Nat.sub_le_sub_left (by decide) M)
  -- one, two, three
  have ol0 := (okl_row (L := L) hw (l := line L.CG wy) List.mem_cons_self).1
  apply st_tup3 (nd := nd11) (d1 := .ins (clsW L wy) (flW wy) (line L.CG wy)) (d2 := .ins (clsW L wy) (flW wy) l) (d3 := .ins (clsW L wy) (flW wy) (l.set kk o))
  case ha => (repeat' first
    | with_reducible exact pu_var _ | with_reducible exact pu_non | with_reducible exact pu_bl _ | with_reducible exact pu_int _ | with_reducible exact pu_nil | with_reducible exact pu_next | with_reducible exact pu_yes
    | with_reducible apply pu_seq | with_reducible apply pu_ifS | with_reducible apply pu_ret | with_reducible apply pu_asg
    | with_reducible apply pu_and | with_reducible apply pu_or | with_reducible apply pu_not | with_reducible apply pu_test | with_reducible apply pu_b
    | with_reducible apply pu_andV | with_reducible apply pu_orV | with_reducible apply pu_notV | with_reducible apply pu_if
    | with_reducible apply pu_isi hC | with_reducible apply pu_cb (hr := pu_len) | with_reducible apply pu_cb (hr := pu_all) | with_reducible apply pu_cb (hr := pu_any) | with_reducible apply pu_cb (hr := pu_tupOf) | with_reducible apply pu_cb (hr := pu_lstOf)
    | with_reducible exact pu_dnil
    | with_reducible apply pu_disp1
    | with_reducible apply pu_disp2 (hxy := by decide +kernel)
    | with_reducible apply pu_conf hdv'
    | with_reducible apply pu_op (hr := pu_eqI hw hC hnT hnC)
    | with_reducible apply pu_op (hr := pu_neI hw hC hnT hnC)
    | with_reducible exact pu_iRng4
    | with_reducible apply pu_op (hr := pu_rep)
    | with_reducible apply pu_op (hr := pu_ixT) | with_reducible apply pu_op (hr := pu_ixL) | with_reducible apply pu_op (hr := pu_eqS) | with_reducible apply pu_op (hr := pu_neS) | with_reducible apply pu_op (hr := pu_in) | with_reducible apply pu_op (hr := pu_isNo) | with_reducible apply pu_op (hr := pu_notNo)
    | with_reducible apply pu_op (hr := pu_cm) | with_reducible apply pu_op (hr := pu_ar) | with_reducible apply pu_op (hr := pu_eqP) | with_reducible apply pu_op (hr := pu_neP) | with_reducible apply pu_op (hr := pu_catT) | with_reducible apply pu_op (hr := pu_catL)
    | with_reducible apply pu_chain pu_cm pu_cm | with_reducible apply pu_lcV | with_reducible apply pu_dcV | with_reducible apply pu_iTup | with_reducible apply pu_iLst
    | with_reducible apply pu_slT | with_reducible apply pu_slL | with_reducible exact pu_noPart | with_reducible exact pu_part _
    | exact pu_str _ ⟨by decide +kernel, by decide +kernel⟩ | with_reducible apply pu_call | with_reducible apply pu_tup | with_reducible apply pu_lst | with_reducible apply pu_cons | (with_reducible_and_instances rfl) | rfl)
  case e => exact bnd _ (bnd ([.int (wy : Nat), .lst (line L.CG wy)] : List E) (bnd _ rfl (mp ([.lst (line L.CG wy)] : List E) (bnd (E.lst (line L.CG wy)) (bnd _ rfl (bnd _ rfl (lines_at hw))) rfl))) (ol0.md hw)) (mp ([.ins (clsW L wy) (flW wy) l, .ins (clsW L wy) (flW wy) (l.set kk o)] : List E) (bnd _ (bnd ([.int (wy : Nat), .lst l] : List E) rfl (ol.md hw)) (mp ([.ins (clsW L wy) (flW wy) (l.set kk o)] : List E) (bnd _ (bnd ([.int (wy : Nat), .lst (l.set kk o)] : List E) rfl (oo.md hw)) rfl))))
  case ai => decide
  case bi => decide
  case ci => decide
  intro v11 v12 v13 H11 B11 nd12
  generalize (((σ11.set 11 (some v11)).set 12 (some v12)).set 13 (some v13)) = σ12 at nd12 ⊢
  have nd12 : Nd p 6 (M - 2000) (fun b => b ≠ p) σ12 H11 [none, some toldE, some turnE, some (.lst (line L.CG 0)), some (.lst (linesE L.CG)), none, none, some (.int (wy : Nat)), some (.lst l), none, some (.lst (l.set kk o)), some (.ins (clsW L wy) (flW wy) (line L.CG wy)), some (.ins (clsW L wy) (flW wy) l), some (.ins (clsW L wy) (flW wy) (l.set kk o)), none, none, none] := nd12
  have e12 := eqU_two D0 ol0 ol
  rw [eq0] at e12
  have e23 := eqU_two D0 ol oo
  rw [eq1] at e23
  have e32 := eqU_two D0 oo ol
  rw [eq2] at e32
  have n12 : ET.neU (clsW L wy) L.all (veqG L 6) (.ins (clsW L wy) (flW wy) (line L.CG wy)) (.ins (clsW L wy) (flW wy) l) = some (.bl false) := mp true (bnd _ e12 rfl)
  have n23 : ET.neU (clsW L wy) L.all (veqG L 6) (.ins (clsW L wy) (flW wy) l) (.ins (clsW L wy) (flW wy) (l.set kk o)) = some (.bl (!decide (t = u))) := mp _ (bnd _ e23 rfl)
  apply st_ifN (nd := nd12)
  case pu => (repeat' first
    | with_reducible exact pu_var _ | with_reducible exact pu_non | with_reducible exact pu_bl _ | with_reducible exact pu_int _ | with_reducible exact pu_nil | with_reducible exact pu_next | with_reducible exact pu_yes
    | with_reducible apply pu_seq | with_reducible apply pu_ifS | with_reducible apply pu_ret | with_reducible apply pu_asg
    | with_reducible apply pu_and | with_reducible apply pu_or | with_reducible apply pu_not | with_reducible apply pu_test | with_reducible apply pu_b
    | with_reducible apply pu_andV | with_reducible apply pu_orV | with_reducible apply pu_notV | with_reducible apply pu_if
    | with_reducible apply pu_isi hC | with_reducible apply pu_cb (hr := pu_len) | with_reducible apply pu_cb (hr := pu_all) | with_reducible apply pu_cb (hr := pu_any) | with_reducible apply pu_cb (hr := pu_tupOf) | with_reducible apply pu_cb (hr := pu_lstOf)
    | with_reducible exact pu_dnil
    | with_reducible apply pu_disp1
    | with_reducible apply pu_disp2 (hxy := by decide +kernel)
    | with_reducible apply pu_conf hdv'
    | with_reducible apply pu_op (hr := pu_eqI hw hC hnT hnC)
    | with_reducible apply pu_op (hr := pu_neI hw hC hnT hnC)
    | with_reducible exact pu_iRng4
    | with_reducible apply pu_op (hr := pu_rep)
    | with_reducible apply pu_op (hr := pu_ixT) | with_reducible apply pu_op (hr := pu_ixL) | with_reducible apply pu_op (hr := pu_eqS) | with_reducible apply pu_op (hr := pu_neS) | with_reducible apply pu_op (hr := pu_in) | with_reducible apply pu_op (hr := pu_isNo) | with_reducible apply pu_op (hr := pu_notNo)
    | with_reducible apply pu_op (hr := pu_cm) | with_reducible apply pu_op (hr := pu_ar) | with_reducible apply pu_op (hr := pu_eqP) | with_reducible apply pu_op (hr := pu_neP) | with_reducible apply pu_op (hr := pu_catT) | with_reducible apply pu_op (hr := pu_catL)
    | with_reducible apply pu_chain pu_cm pu_cm | with_reducible apply pu_lcV | with_reducible apply pu_dcV | with_reducible apply pu_iTup | with_reducible apply pu_iLst
    | with_reducible apply pu_slT | with_reducible apply pu_slL | with_reducible exact pu_noPart | with_reducible exact pu_part _
    | exact pu_str _ ⟨by decide +kernel, by decide +kernel⟩ | with_reducible apply pu_call | with_reducible apply pu_tup | with_reducible apply pu_lst | with_reducible apply pu_cons | (with_reducible_and_instances rfl) | rfl)
  case e => exact bF (mp true (bnd (.bl true) (bnd _ rfl (bnd _ rfl e12)) rfl)) (bF (bnd (.bl false) (bnd _ rfl (bnd _ rfl n12)) rfl) (bF (mp true (bnd (.bl true) (bnd _ rfl (ke_eq hw ol tx1)) rfl)) (mp true (bnd (.bl true) (bnd _ rfl (ke_eq hw oo tx2)) rfl))))
  intro H12 B12 nd13
  -- is one
  apply st_set (nd := nd13) (Φ := fun d => d = .bl (decide (t = u)))
  case hE => (repeat' first
    | with_reducible exact nd_next | with_reducible exact nd_nil
    | with_reducible apply nd_ret | with_reducible apply nd_seq | with_reducible apply nd_ifS | (with_reducible apply nd_asg (ij := by decide))
    | ((with_reducible apply nd_pu); ((repeat' first
    | with_reducible exact pu_var _ | with_reducible exact pu_non | with_reducible exact pu_bl _ | with_reducible exact pu_int _ | with_reducible exact pu_nil | with_reducible exact pu_next | with_reducible exact pu_yes
    | with_reducible apply pu_seq | with_reducible apply pu_ifS | with_reducible apply pu_ret | with_reducible apply pu_asg
    | with_reducible apply pu_and | with_reducible apply pu_or | with_reducible apply pu_not | with_reducible apply pu_test | with_reducible apply pu_b
    | with_reducible apply pu_andV | with_reducible apply pu_orV | with_reducible apply pu_notV | with_reducible apply pu_if
    | with_reducible apply pu_isi hC | with_reducible apply pu_cb (hr := pu_len) | with_reducible apply pu_cb (hr := pu_all) | with_reducible apply pu_cb (hr := pu_any) | with_reducible apply pu_cb (hr := pu_tupOf) | with_reducible apply pu_cb (hr := pu_lstOf)
    | with_reducible exact pu_dnil
    | with_reducible apply pu_disp1
    | with_reducible apply pu_disp2 (hxy := by decide +kernel)
    | with_reducible apply pu_conf hdv'
    | with_reducible apply pu_op (hr := pu_eqI hw hC hnT hnC)
    | with_reducible apply pu_op (hr := pu_neI hw hC hnT hnC)
    | with_reducible exact pu_iRng4
    | with_reducible apply pu_op (hr := pu_rep)
    | with_reducible apply pu_op (hr := pu_eqA hC (hnT _ inG) (hnC _ inG) veqG_bl)
    | with_reducible apply pu_op (hr := pu_ixT) | with_reducible apply pu_op (hr := pu_ixL) | with_reducible apply pu_op (hr := pu_eqS) | with_reducible apply pu_op (hr := pu_neS) | with_reducible apply pu_op (hr := pu_in) | with_reducible apply pu_op (hr := pu_isNo) | with_reducible apply pu_op (hr := pu_notNo)
    | with_reducible apply pu_op (hr := pu_cm) | with_reducible apply pu_op (hr := pu_ar) | with_reducible apply pu_op (hr := pu_eqP) | with_reducible apply pu_op (hr := pu_neP) | with_reducible apply pu_op (hr := pu_catT) | with_reducible apply pu_op (hr := pu_catL)
    | with_reducible apply pu_chain pu_cm pu_cm | with_reducible apply pu_lcV | with_reducible apply pu_dcV | with_reducible apply pu_iTup | with_reducible apply pu_iLst
    | with_reducible apply pu_slT | with_reducible apply pu_slL | with_reducible exact pu_noPart | with_reducible exact pu_part _
    | exact pu_str _ ⟨by decide +kernel, by decide +kernel⟩ | with_reducible apply pu_call | with_reducible apply pu_tup | with_reducible apply pu_lst | with_reducible apply pu_cons | (with_reducible_and_instances rfl) | rfl)); done)
    | ((with_reducible apply nd_pt); ((repeat' first
    | with_reducible exact pu_var _ | with_reducible exact pu_non | with_reducible exact pu_bl _ | with_reducible exact pu_int _ | with_reducible exact pu_nil | with_reducible exact pu_next | with_reducible exact pu_yes
    | with_reducible apply pu_seq | with_reducible apply pu_ifS | with_reducible apply pu_ret | with_reducible apply pu_asg
    | with_reducible apply pu_and | with_reducible apply pu_or | with_reducible apply pu_not | with_reducible apply pu_test | with_reducible apply pu_b
    | with_reducible apply pu_andV | with_reducible apply pu_orV | with_reducible apply pu_notV | with_reducible apply pu_if
    | with_reducible apply pu_isi hC | with_reducible apply pu_cb (hr := pu_len) | with_reducible apply pu_cb (hr := pu_all) | with_reducible apply pu_cb (hr := pu_any) | with_reducible apply pu_cb (hr := pu_tupOf) | with_reducible apply pu_cb (hr := pu_lstOf)
    | with_reducible exact pu_dnil
    | with_reducible apply pu_disp1
    | with_reducible apply pu_disp2 (hxy := by decide +kernel)
    | with_reducible apply pu_conf hdv'
    | with_reducible apply pu_op (hr := pu_eqI hw hC hnT hnC)
    | with_reducible apply pu_op (hr := pu_neI hw hC hnT hnC)
    | with_reducible exact pu_iRng4
    | with_reducible apply pu_op (hr := pu_rep)
    | with_reducible apply pu_op (hr := pu_eqA hC (hnT _ inG) (hnC _ inG) veqG_bl)
    | with_reducible apply pu_op (hr := pu_ixT) | with_reducible apply pu_op (hr := pu_ixL) | with_reducible apply pu_op (hr := pu_eqS) | with_reducible apply pu_op (hr := pu_neS) | with_reducible apply pu_op (hr := pu_in) | with_reducible apply pu_op (hr := pu_isNo) | with_reducible apply pu_op (hr := pu_notNo)
    | with_reducible apply pu_op (hr := pu_cm) | with_reducible apply pu_op (hr := pu_ar) | with_reducible apply pu_op (hr := pu_eqP) | with_reducible apply pu_op (hr := pu_neP) | with_reducible apply pu_op (hr := pu_catT) | with_reducible apply pu_op (hr := pu_catL)
    | with_reducible apply pu_chain pu_cm pu_cm | with_reducible apply pu_lcV | with_reducible apply pu_dcV | with_reducible apply pu_iTup | with_reducible apply pu_iLst
    | with_reducible apply pu_slT | with_reducible apply pu_slL | with_reducible exact pu_noPart | with_reducible exact pu_part _
    | exact pu_str _ ⟨by decide +kernel, by decide +kernel⟩ | with_reducible apply pu_call | with_reducible apply pu_tup | with_reducible apply pu_lst | with_reducible apply pu_cons | (with_reducible_and_instances rfl) | rfl)); done)
    | with_reducible apply nd_and | with_reducible apply nd_or | with_reducible apply nd_b | with_reducible apply nd_callP | with_reducible apply nd_op (hr := pu_eqI hw hC hnT hnC) | with_reducible apply nd_if | with_reducible apply nd_test | with_reducible apply nd_call | with_reducible apply nd_cons
    | with_reducible apply nd_op (hr := pu_ar) | with_reducible apply nd_op (hr := pu_cm) | with_reducible apply nd_op (hr := pu_eqS) | with_reducible apply nd_tup | with_reducible apply nd_lst)
  case hm => exact Nat.zero_le _
  case hf => exact ⟨_, bnd (.str t) (bnd ([.lst l] : List E) rfl ((txGH 7 (.lst l) ol.cf).trans tx1)) (bnd (.str u) (bnd ([.lst (l.set kk o)] : List E) rfl ((txGH 7 (.lst (l.set kk o)) oo.cf).trans tx2)) rfl), rfl⟩
  case ji => decide
  rintro v14 _ H13 B13 nd14 rfl
  generalize σ12.set 14 (some v14) = σ13 at nd14 ⊢
  have nd14 : Nd p 6 (M - 2000) (fun b => b ≠ p) σ13 H13 [none, some toldE, some turnE, some (.lst (line L.CG 0)), some (.lst (linesE L.CG)), none, none, some (.int (wy : Nat)), some (.lst l), none, some (.lst (l.set kk o)), some (.ins (clsW L wy) (flW wy) (line L.CG wy)), some (.ins (clsW L wy) (flW wy) l), some (.ins (clsW L wy) (flW wy) (l.set kk o)), some (.bl (decide (t = u))), none, none] := nd14
  have nn : ∀ b : Bool, neS (.bl b) (.bl b) = some (.bl false) := fun b => by cases b <;> rfl
  have ee : ∀ b : Bool, eqS (.bl (!b)) (.bl b) = some (.bl false) := fun b => by cases b <;> rfl
  apply st_ifN (nd := nd14)
  case pu => (repeat' first
    | with_reducible exact pu_var _ | with_reducible exact pu_non | with_reducible exact pu_bl _ | with_reducible exact pu_int _ | with_reducible exact pu_nil | with_reducible exact pu_next | with_reducible exact pu_yes
    | with_reducible apply pu_seq | with_reducible apply pu_ifS | with_reducible apply pu_ret | with_reducible apply pu_asg
    | with_reducible apply pu_and | with_reducible apply pu_or | with_reducible apply pu_not | with_reducible apply pu_test | with_reducible apply pu_b
    | with_reducible apply pu_andV | with_reducible apply pu_orV | with_reducible apply pu_notV | with_reducible apply pu_if
    | with_reducible apply pu_isi hC | with_reducible apply pu_cb (hr := pu_len) | with_reducible apply pu_cb (hr := pu_all) | with_reducible apply pu_cb (hr := pu_any) | with_reducible apply pu_cb (hr := pu_tupOf) | with_reducible apply pu_cb (hr := pu_lstOf)
    | with_reducible exact pu_dnil
    | with_reducible apply pu_disp1
    | with_reducible apply pu_disp2 (hxy := by decide +kernel)
    | with_reducible apply pu_conf hdv'
    | with_reducible apply pu_op (hr := pu_eqI hw hC hnT hnC)
    | with_reducible apply pu_op (hr := pu_neI hw hC hnT hnC)
    | with_reducible exact pu_iRng4
    | with_reducible apply pu_op (hr := pu_rep)
    | with_reducible apply pu_op (hr := pu_ixT) | with_reducible apply pu_op (hr := pu_ixL) | with_reducible apply pu_op (hr := pu_eqS) | with_reducible apply pu_op (hr := pu_neS) | with_reducible apply pu_op (hr := pu_in) | with_reducible apply pu_op (hr := pu_isNo) | with_reducible apply pu_op (hr := pu_notNo)
    | with_reducible apply pu_op (hr := pu_cm) | with_reducible apply pu_op (hr := pu_ar) | with_reducible apply pu_op (hr := pu_eqP) | with_reducible apply pu_op (hr := pu_neP) | with_reducible apply pu_op (hr := pu_catT) | with_reducible apply pu_op (hr := pu_catL)
    | with_reducible apply pu_chain pu_cm pu_cm | with_reducible apply pu_lcV | with_reducible apply pu_dcV | with_reducible apply pu_iTup | with_reducible apply pu_iLst
    | with_reducible apply pu_slT | with_reducible apply pu_slL | with_reducible exact pu_noPart | with_reducible exact pu_part _
    | exact pu_str _ ⟨by decide +kernel, by decide +kernel⟩ | with_reducible apply pu_call | with_reducible apply pu_tup | with_reducible apply pu_lst | with_reducible apply pu_cons | (with_reducible_and_instances rfl) | rfl)
  case e => exact bF (bnd (.bl false) (bnd _ (bnd _ rfl (bnd _ rfl e23)) (bnd _ rfl (nn _))) rfl) (bF (bnd (.bl false) (bnd _ (bnd _ rfl (bnd _ rfl e32)) (bnd _ rfl (nn _))) rfl) (bnd (.bl false) (bnd _ (bnd _ rfl (bnd _ rfl n23)) (bnd _ rfl (ee _))) rfl))
  intro H14 B14 nd15
  -- others
  apply st_set (nd := nd15) (Φ := fun d => ∃ r : List Nat, 0 < r.length ∧ r.length ≤ 4 ∧ (∀ x ∈ r, x < 4 ∧ wy ≠ x) ∧ d = .lst (r.map fun x => .int (x : Nat)))
  case hE =>
    apply nd_pu
    (repeat' first
    | with_reducible exact pu_var _ | with_reducible exact pu_non | with_reducible exact pu_bl _ | with_reducible exact pu_int _ | with_reducible exact pu_nil | with_reducible exact pu_next | with_reducible exact pu_yes
    | with_reducible apply pu_seq | with_reducible apply pu_ifS | with_reducible apply pu_ret | with_reducible apply pu_asg
    | with_reducible apply pu_and | with_reducible apply pu_or | with_reducible apply pu_not | with_reducible apply pu_test | with_reducible apply pu_b
    | with_reducible apply pu_andV | with_reducible apply pu_orV | with_reducible apply pu_notV | with_reducible apply pu_if
    | with_reducible apply pu_isi hC | with_reducible apply pu_cb (hr := pu_len) | with_reducible apply pu_cb (hr := pu_all) | with_reducible apply pu_cb (hr := pu_any) | with_reducible apply pu_cb (hr := pu_tupOf) | with_reducible apply pu_cb (hr := pu_lstOf)
    | with_reducible exact pu_dnil
    | with_reducible apply pu_disp1
    | with_reducible apply pu_disp2 (hxy := by decide +kernel)
    | with_reducible apply pu_conf hdv'
    | with_reducible apply pu_op (hr := pu_eqI hw hC hnT hnC)
    | with_reducible apply pu_op (hr := pu_neI hw hC hnT hnC)
    | with_reducible exact pu_iRng4
    | with_reducible apply pu_op (hr := pu_rep)
    | with_reducible apply pu_op (hr := pu_ixT) | with_reducible apply pu_op (hr := pu_ixL) | with_reducible apply pu_op (hr := pu_eqS) | with_reducible apply pu_op (hr := pu_neS) | with_reducible apply pu_op (hr := pu_in) | with_reducible apply pu_op (hr := pu_isNo) | with_reducible apply pu_op (hr := pu_notNo)
    | with_reducible apply pu_op (hr := pu_cm) | with_reducible apply pu_op (hr := pu_ar) | with_reducible apply pu_op (hr := pu_eqP) | with_reducible apply pu_op (hr := pu_neP) | with_reducible apply pu_op (hr := pu_catT) | with_reducible apply pu_op (hr := pu_catL)
    | with_reducible apply pu_chain pu_cm pu_cm | with_reducible apply pu_lcV | with_reducible apply pu_dcV | with_reducible apply pu_iTup | with_reducible apply pu_iLst
    | with_reducible apply pu_slT | with_reducible apply pu_slL | with_reducible exact pu_noPart | with_reducible exact pu_part _
    | exact pu_str _ ⟨by decide +kernel, by decide +kernel⟩ | with_reducible apply pu_call | with_reducible apply pu_tup | with_reducible apply pu_lst | with_reducible apply pu_cons | (with_reducible_and_instances rfl) | rfl)
  case hm => exact Nat.zero_le _
  case hf =>
    obtain ⟨r, h1, h2, h3, h4⟩ := others_eq hw
    exact ⟨_, bnd ([.int 0, .int 1, .int 2, .int 3] : List E) rfl (mp _ (lcE_filter (farB wy) id _ (allc rfl (allc rfl (allc rfl (allc rfl alln)))) fun x hx _ => rfl)), r, h1, h2, h3, by rw [h4]⟩
  case ji => decide
  rintro v15 _ H15 B15 nd16 ⟨rs, rs0, rs4, hrs, rfl⟩
  generalize σ13.set 15 (some v15) = σ14 at nd16 ⊢
  have nd16 : Nd p 6 (M - 2000) (fun b => b ≠ p) σ14 H15 [none, some toldE, some turnE, some (.lst (line L.CG 0)), some (.lst (linesE L.CG)), none, none, some (.int (wy : Nat)), some (.lst l), none, some (.lst (l.set kk o)), some (.ins (clsW L wy) (flW wy) (line L.CG wy)), some (.ins (clsW L wy) (flW wy) l), some (.ins (clsW L wy) (flW wy) (l.set kk o)), some (.bl (decide (t = u))), some (.lst (rs.map fun x => .int (x : Nat))), none] := nd16
  apply st_ifNd1 (nd := nd16)
  case hx => (repeat' first
    | with_reducible exact nd_next | with_reducible exact nd_nil
    | with_reducible apply nd_ret | with_reducible apply nd_seq | with_reducible apply nd_ifS | (with_reducible apply nd_asg (ij := by decide))
    | ((with_reducible apply nd_pu); ((repeat' first
    | with_reducible exact pu_var _ | with_reducible exact pu_non | with_reducible exact pu_bl _ | with_reducible exact pu_int _ | with_reducible exact pu_nil | with_reducible exact pu_next | with_reducible exact pu_yes
    | with_reducible apply pu_seq | with_reducible apply pu_ifS | with_reducible apply pu_ret | with_reducible apply pu_asg
    | with_reducible apply pu_and | with_reducible apply pu_or | with_reducible apply pu_not | with_reducible apply pu_test | with_reducible apply pu_b
    | with_reducible apply pu_andV | with_reducible apply pu_orV | with_reducible apply pu_notV | with_reducible apply pu_if
    | with_reducible apply pu_isi hC | with_reducible apply pu_cb (hr := pu_len) | with_reducible apply pu_cb (hr := pu_all) | with_reducible apply pu_cb (hr := pu_any) | with_reducible apply pu_cb (hr := pu_tupOf) | with_reducible apply pu_cb (hr := pu_lstOf)
    | with_reducible exact pu_dnil
    | with_reducible apply pu_disp1
    | with_reducible apply pu_disp2 (hxy := by decide +kernel)
    | with_reducible apply pu_conf hdv'
    | with_reducible apply pu_op (hr := pu_eqI hw hC hnT hnC)
    | with_reducible apply pu_op (hr := pu_neI hw hC hnT hnC)
    | with_reducible exact pu_iRng4
    | with_reducible apply pu_op (hr := pu_rep)
    | with_reducible apply pu_op (hr := pu_eqA hC (hnT _ inG) (hnC _ inG) veqG_bl)
    | with_reducible apply pu_op (hr := pu_ixT) | with_reducible apply pu_op (hr := pu_ixL) | with_reducible apply pu_op (hr := pu_eqS) | with_reducible apply pu_op (hr := pu_neS) | with_reducible apply pu_op (hr := pu_in) | with_reducible apply pu_op (hr := pu_isNo) | with_reducible apply pu_op (hr := pu_notNo)
    | with_reducible apply pu_op (hr := pu_cm) | with_reducible apply pu_op (hr := pu_ar) | with_reducible apply pu_op (hr := pu_eqP) | with_reducible apply pu_op (hr := pu_neP) | with_reducible apply pu_op (hr := pu_catT) | with_reducible apply pu_op (hr := pu_catL)
    | with_reducible apply pu_chain pu_cm pu_cm | with_reducible apply pu_lcV | with_reducible apply pu_dcV | with_reducible apply pu_iTup | with_reducible apply pu_iLst
    | with_reducible apply pu_slT | with_reducible apply pu_slL | with_reducible exact pu_noPart | with_reducible exact pu_part _
    | exact pu_str _ ⟨by decide +kernel, by decide +kernel⟩ | with_reducible apply pu_call | with_reducible apply pu_tup | with_reducible apply pu_lst | with_reducible apply pu_cons | (with_reducible_and_instances rfl) | rfl)); done)
    | ((with_reducible apply nd_pt); ((repeat' first
    | with_reducible exact pu_var _ | with_reducible exact pu_non | with_reducible exact pu_bl _ | with_reducible exact pu_int _ | with_reducible exact pu_nil | with_reducible exact pu_next | with_reducible exact pu_yes
    | with_reducible apply pu_seq | with_reducible apply pu_ifS | with_reducible apply pu_ret | with_reducible apply pu_asg
    | with_reducible apply pu_and | with_reducible apply pu_or | with_reducible apply pu_not | with_reducible apply pu_test | with_reducible apply pu_b
    | with_reducible apply pu_andV | with_reducible apply pu_orV | with_reducible apply pu_notV | with_reducible apply pu_if
    | with_reducible apply pu_isi hC | with_reducible apply pu_cb (hr := pu_len) | with_reducible apply pu_cb (hr := pu_all) | with_reducible apply pu_cb (hr := pu_any) | with_reducible apply pu_cb (hr := pu_tupOf) | with_reducible apply pu_cb (hr := pu_lstOf)
    | with_reducible exact pu_dnil
    | with_reducible apply pu_disp1
    | with_reducible apply pu_disp2 (hxy := by decide +kernel)
    | with_reducible apply pu_conf hdv'
    | with_reducible apply pu_op (hr := pu_eqI hw hC hnT hnC)
    | with_reducible apply pu_op (hr := pu_neI hw hC hnT hnC)
    | with_reducible exact pu_iRng4
    | with_reducible apply pu_op (hr := pu_rep)
    | with_reducible apply pu_op (hr := pu_eqA hC (hnT _ inG) (hnC _ inG) veqG_bl)
    | with_reducible apply pu_op (hr := pu_ixT) | with_reducible apply pu_op (hr := pu_ixL) | with_reducible apply pu_op (hr := pu_eqS) | with_reducible apply pu_op (hr := pu_neS) | with_reducible apply pu_op (hr := pu_in) | with_reducible apply pu_op (hr := pu_isNo) | with_reducible apply pu_op (hr := pu_notNo)
    | with_reducible apply pu_op (hr := pu_cm) | with_reducible apply pu_op (hr := pu_ar) | with_reducible apply pu_op (hr := pu_eqP) | with_reducible apply pu_op (hr := pu_neP) | with_reducible apply pu_op (hr := pu_catT) | with_reducible apply pu_op (hr := pu_catL)
    | with_reducible apply pu_chain pu_cm pu_cm | with_reducible apply pu_lcV | with_reducible apply pu_dcV | with_reducible apply pu_iTup | with_reducible apply pu_iLst
    | with_reducible apply pu_slT | with_reducible apply pu_slL | with_reducible exact pu_noPart | with_reducible exact pu_part _
    | exact pu_str _ ⟨by decide +kernel, by decide +kernel⟩ | with_reducible apply pu_call | with_reducible apply pu_tup | with_reducible apply pu_lst | with_reducible apply pu_cons | (with_reducible_and_instances rfl) | rfl)); done)
    | with_reducible apply nd_and | with_reducible apply nd_or | with_reducible apply nd_b | with_reducible apply nd_callP | with_reducible apply nd_op (hr := pu_eqI hw hC hnT hnC) | with_reducible apply nd_if | with_reducible apply nd_test | with_reducible apply nd_call | with_reducible apply nd_cons
    | with_reducible apply nd_op (hr := pu_ar) | with_reducible apply nd_op (hr := pu_cm) | with_reducible apply nd_op (hr := pu_eqS) | with_reducible apply nd_tup | with_reducible apply nd_lst)
  case hm => exact Nat.le_trans (by decide : _ ≤ 100) (by omega)
  case hf =>
    refine ⟨_, rfl, ⟨_, rfl, (by rw [List.length_map]; exact rs0), fun d hd => ?_⟩⟩
    obtain ⟨x, hx, rfl⟩ := List.mem_map.mp hd
    obtain ⟨x4, xne⟩ := hrs x hx
    have fr := eqU_far D0 hw x4 xne ol0 (okl_far x4)
    have hm := md_eq (L := L) (l := List.replicate 10 netA) x4 (by match x, x4 with | 0, _ => decide | 1, _ => decide | 2, _ => decide | 3, _ => decide)
    have es := eqU_lst (m := l) D0 ol0
    exact ⟨.lst (List.replicate 10 netA), bnd (E.lst [netA]) rfl (bnd (E.int 10) rfl rfl), _, hm, _, fr, _, rfl, iteF ⟨false, bnd (.bl false) (bnd _ rfl (bnd _ rfl es)) rfl, rfl⟩⟩
  intro H16 B16 nd17
  exact ⟨((((((B8.trans B9).trans B10).trans B11).trans B12).trans B13).trans B14).trans (B15.trans B16), nd17.sub (by show _ ∧ _ ∧ _ ∧ _ ∧ True; exact ⟨rfl, rfl, rfl, rfl, trivial⟩) (Nat.le_trans hM2 (by rw [Nat.sub_sub]; exact Nat.sub_le_sub_left (by decide) M))⟩
end
end K15

namespace K15
open PySem L2 XR VT ET
theorem isC {K : PySem.W.Frag} {C : Addr} (i : PySem.W.isClsIn K C = true) (ty : PySem.W.typeIn K (.ref C) = some (.type "type")) : ((PySem.W.clsIn K C).isSome && PySem.W.typeIn K (.ref C) == some (.type "type")) = true := by
  have i2 : (PySem.W.clsIn K C).isSome = true := i
  rw [i2, ty]
  rfl
theorem kit_tyC {K : PySem.W.Frag} {C : Addr} {t : String} {b : Bool} (i : PySem.W.isClsIn K C = true) (ty : PySem.W.typeIn K (.ref C) = some (.type "type")) (h : (PySem.W.subIn K (.type t) (.ref C)) = some b) : PySem.W.kitOne K (.type t) (.ref C) = some b := by
  show (if (Value.type t == Value.ref C) = true then some true else if ((PySem.W.clsIn K C).isSome && PySem.W.typeIn K (.ref C) == some (.type "type")) = true then PySem.W.subIn K (.type t) (.ref C) else none) = _
  rw [if_neg (by intro z; exact Value.noConfusion (beq_iff_eq.mp z)), if_pos (isC i ty), h]
theorem kit_self {K : PySem.W.Frag} {C : Addr} : PySem.W.kitOne K (.ref C) (.ref C) = some true := by
  show (if (Value.ref C == Value.ref C) = true then some true else if ((PySem.W.clsIn K C).isSome && PySem.W.typeIn K (.ref C) == some (.type "type")) = true then PySem.W.mroIn K C (.ref C) else none) = _
  rw [if_pos (beq_self_eq_true _)]
theorem kit_CT {K : PySem.W.Frag} {C : Addr} {t : String} {b : Bool} (m : PySem.W.kitMeta t = true) (h : PySem.W.mroIn K C (.type t) = some b) : PySem.W.kitOne K (.ref C) (.type t) = some b := by
  show (if (Value.ref C == Value.type t) = true then some true else if PySem.W.kitMeta t = true then PySem.W.mroIn K C (.type t) else none) = _
  rw [if_neg (by intro z; exact Value.noConfusion (beq_iff_eq.mp z)), if_pos m, h]
theorem kit_CC {K : PySem.W.Frag} {C D : Addr} {b : Bool} (ne : C ≠ D) (i : PySem.W.isClsIn K D = true) (ty : PySem.W.typeIn K (.ref D) = some (.type "type")) (h : PySem.W.mroIn K C (.ref D) = some b) : PySem.W.kitOne K (.ref C) (.ref D) = some b := by
  show (if (Value.ref C == Value.ref D) = true then some true else if ((PySem.W.clsIn K D).isSome && PySem.W.typeIn K (.ref D) == some (.type "type")) = true then PySem.W.mroIn K C (.ref D) else none) = _
  rw [if_neg (by intro z; exact ne (Value.ref.inj (beq_iff_eq.mp z))), if_pos (isC i ty), h]
theorem isC_own {K : PySem.W.Frag} {C D : Addr} (h : C ≠ D) (e : PySem.W.kitOne K (.ref C) (.ref D) = some false) : PySem.W.kitOne K (.ref C) (.ref D) = some (decide (C = D)) := by rw [e, decide_eq_false h]
theorem isC_me {K : PySem.W.Frag} {C : Addr} : PySem.W.kitOne K (.ref C) (.ref C) = some (decide (C = C)) := by rw [kit_self, decide_eq_true rfl]
section
variable [KC] {P : Program} {w : World} {K : PySem.W.Frag} {mg : Str → Option Value} {base : Heap} {k : Nat} {f : Addr} {fd : FuncData}
theorem eqG0 {L : CL} : FnOk P w K mg base CX0 k f fd ["one", "other"] (spP (eqGF L 0)) := by
  have no : ∀ vs H Q E0, spP (eqGF L 0) vs H Q E0 → False := fun vs H Q E0 ⟨P, ds, d, r, fr, e, k⟩ => by
    unfold eqGF at e
    split at e
    · rw [if_neg (by simp)] at e
      cases e
    · cases e
  exact ⟨fun vs H Q E h => (no _ _ _ _ h).elim, fun A o s H args us vs Q E hr e0 hb r hs => (no _ _ _ _ hs).elim⟩
theorem tx0 {a : Addr} : FnOk P w K mg base CX0 k f fd ["_law_thing"] (spP (txF a 0)) := by
  have no : ∀ vs H Q E0, spP (txF a 0) vs H Q E0 → False := fun vs H Q E0 ⟨P, ds, d, r, fr, e, k⟩ => by
    obtain ⟨x, _, e⟩ := txF_eq e
    cases e
  exact ⟨fun vs H Q E h => (no _ _ _ _ h).elim, fun A o s H args us vs Q E hr e0 hb r hs => (no _ _ _ _ hs).elim⟩
theorem rp_nil {H : Hp} {a : Addr} (h : KC.kc a []) : Rp H (.ref a) (.tup []) := .tup (.inr h) rfl (by decide) fun i v d h => nomatch h
end
theorem allkn {α : Type} {Φ : α → Prop} : ∀ o ∈ ([] : List α), Φ o := fun o ho => nomatch ho
theorem allk {α : Type} {Φ : α → Prop} {a : α} {l : List α} (h : Φ a) (t : ∀ o ∈ l, Φ o) : ∀ o ∈ a :: l, Φ o := fun o ho => by
  rcases List.mem_cons.mp ho with rfl | ho
  · exact h
  · exact t o ho
theorem walk {l : PySem.W.OpenLaw} {q : Program} {loose : List Str} {XP : (Str → Option Value) → Heap → Prop} {YP : World → Heap → Prop} {d : DefRec} {K : Params → PySem.W.Frag} (hn : l.most = some 63) (hdf : d.params.defaults = [])
    (hY : ∀ (w : World) (h : Heap), YP w h → (K w.params).In h)
    (F : ∀ (w : World) (mg : Str → Option Value) (fa : Addr) (h : Heap), (K w.params).In h → h.Ns mainGlobals mg → mg d.name = some (.ref fa) →
      ∃ fd : FuncData, (∀ (s : Shared) (u : Value), BindsTo s fd ⟨[u], []⟩ [("_law_script", u)]) ∧ ∀ base : Heap, (K w.params).In base → base.Ns mainGlobals mg → FnOk l.prog w (K w.params) mg base CX0 18 fa fd ["_law_script"] (spLaw (K w.params))) :
    PySem.W.WalkO q loose XP YP l.row.toRowW d [] (fun f vs => PySem.call f vs) :=
  L2.walk_of (n := 63) (k := 18) (x := "_law_script") (CX := fun _ => CX0) (sp := fun w => spLaw (K w.params)) hn (by decide) hdf ⟨rfl, by decide, by decide⟩ hY F (fun _ _ a ns hl _ hS => ⟨a, ns, rfl, hS, hl, fun _ => rfl⟩) fun _ _ _ _ _ z => z
theorem all_mk {l : PySem.W.OpenLaw} {w : World} {K : PySem.W.Frag} {h : Heap} {mg : Str → Option Value} {fa : Addr} (X : K.In h) (G : h.Ns mainGlobals mg) (hfa : mg "law" = some (.ref fa))
    {CB CR CC CM CG CV CU : Addr}
    {tL tM : Tok}
    {finteg : Addr} {odinteg aninteg : Option Addr} {slinteg : Array (Option Value)} {ocinteg kVinteg dcinteg pminteg ctinteg cdinteg : Value}
    {fname : Addr} {odname anname : Option Addr} {slname : Array (Option Value)} {ocname kVname dcname pmname ctname cdname : Value}
    {ftag : Addr} {odtag antag : Option Addr} {sltag : Array (Option Value)} {octag kVtag dctag pmtag cttag cdtag : Value}
    {fsort : Addr} {odsort ansort : Option Addr} {slsort : Array (Option Value)} {ocsort kVsort dcsort pmsort ctsort cdsort : Value}
    {feq : Addr} {odeq aneq : Option Addr} {sleq : Array (Option Value)} {oceq kVeq dceq pmeq cteq cdeq : Value}
    {frw : Addr} {odrw anrw : Option Addr} {slrw : Array (Option Value)} {ocrw kVrw dcrw pmrw ctrw cdrw : Value}
    {funl : Addr} {odunl anunl : Option Addr} {slunl : Array (Option Value)} {ocunl kVunl dcunl pmunl ctunl cdunl : Value}
    {fap : Addr} {odap anap : Option Addr} {slap : Array (Option Value)} {ocap kVap dcap pmap ctap cdap : Value}
    {fgr : Addr} {odgr angr : Option Addr} {slgr : Array (Option Value)} {ocgr kVgr dcgr pmgr ctgr cdgr : Value}
    {fgm : Addr} {odgm angm : Option Addr} {slgm : Array (Option Value)} {ocgm kVgm dcgm pmgm ctgm cdgm : Value}
    {fwell : Addr} {odwell anwell : Option Addr} {slwell : Array (Option Value)} {ocwell kVwell dcwell pmwell ctwell cdwell : Value}
    {fdraw : Addr} {oddraw andraw : Option Addr} {sldraw : Array (Option Value)} {ocdraw kVdraw dcdraw pmdraw ctdraw cddraw : Value}
    {fone : Addr} {odone anone : Option Addr} {slone : Array (Option Value)} {ocone kVone dcone pmone ctone cdone : Value}
    {fch : Addr} {odch anch : Option Addr} {slch : Array (Option Value)} {occh kVch dcch pmch ctch cdch : Value}
    {ftx : Addr} {odtx antx : Option Addr} {sltx : Array (Option Value)} {octx kVtx dctx pmtx cttx cdtx : Value}
    {fbl : Addr} {odbl anbl : Option Addr} {slbl : Array (Option Value)} {ocbl kVbl dcbl pmbl ctbl cdbl : Value}
    {fke : Addr} {odke anke : Option Addr} {slke : Array (Option Value)} {ocke kVke dcke pmke ctke cdke : Value}
    {fmd : Addr} {odmd anmd : Option Addr} {slmd : Array (Option Value)} {ocmd kVmd dcmd pmmd ctmd cdmd : Value}
    {flaw : Addr} {odlaw anlaw : Option Addr} {sllaw : Array (Option Value)} {oclaw kVlaw dclaw pmlaw ctlaw cdlaw : Value}
    {pis_param : Addr}
    {pis_block : Addr}
    {pis_reading : Addr}
    {pis_call : Addr}
    {pis_output : Addr}
    {pis_move : Addr}
    {fVE : Addr} {odVE anVE : Option Addr} {slVE : Array (Option Value)} {ocVE kVVE dcVE pmVE ctVE cdVE : Value}
    {fNB : Addr} {odNB anNB : Option Addr} {slNB : Array (Option Value)} {ocNB kVNB dcNB pmNB ctNB cdNB : Value}
    {fFB : Addr} {odFB anFB : Option Addr} {slFB : Array (Option Value)} {ocFB kVFB dcFB pmFB ctFB cdFB : Value}
    {fNR : Addr} {odNR anNR : Option Addr} {slNR : Array (Option Value)} {ocNR kVNR dcNR pmNR ctNR cdNR : Value}
    {fFR : Addr} {odFR anFR : Option Addr} {slFR : Array (Option Value)} {ocFR kVFR dcFR pmFR ctFR cdFR : Value}
    {fNC : Addr} {odNC anNC : Option Addr} {slNC : Array (Option Value)} {ocNC kVNC dcNC pmNC ctNC cdNC : Value}
    {fFC : Addr} {odFC anFC : Option Addr} {slFC : Array (Option Value)} {ocFC kVFC dcFC pmFC ctFC cdFC : Value}
    {fNM : Addr} {odNM anNM : Option Addr} {slNM : Array (Option Value)} {ocNM kVNM dcNM pmNM ctNM cdNM : Value}
    {fFM : Addr} {odFM anFM : Option Addr} {slFM : Array (Option Value)} {ocFM kVFM dcFM pmFM ctFM cdFM : Value}
    {fNG : Addr} {odNG anNG : Option Addr} {slNG : Array (Option Value)} {ocNG kVNG dcNG pmNG ctNG cdNG : Value}
    {fFG : Addr} {odFG anFG : Option Addr} {slFG : Array (Option Value)} {ocFG kVFG dcFG pmFG ctFG cdFG : Value}
    {fMk : Addr} {odMk anMk : Option Addr} {slMk : Array (Option Value)} {ocMk kVMk dcMk pmMk ctMk cdMk : Value}
    {fIB : Addr} {odIB anIB : Option Addr} {slIB : Array (Option Value)} {ocIB kVIB dcIB pmIB ctIB cdIB : Value}
    {fIR : Addr} {odIR anIR : Option Addr} {slIR : Array (Option Value)} {ocIR kVIR dcIR pmIR ctIR cdIR : Value}
    {fIC : Addr} {odIC anIC : Option Addr} {slIC : Array (Option Value)} {ocIC kVIC dcIC pmIC ctIC cdIC : Value}
    {fIM : Addr} {odIM anIM : Option Addr} {slIM : Array (Option Value)} {ocIM kVIM dcIM pmIM ctIM cdIM : Value}
    {fIG DG : Addr} {odIG anIG : Option Addr} {slIG : Array (Option Value)} {ocIG dcIG pmIG ctIG cdIG : Value}
    {e_params : Addr} {de_params : Option Addr} {ne_params : Nat} {se_params : Array (Option Value)}
    {e_blocks : Addr} {de_blocks : Option Addr} {ne_blocks : Nat} {se_blocks : Array (Option Value)}
    {e_readings : Addr} {de_readings : Option Addr} {ne_readings : Nat} {se_readings : Array (Option Value)}
    {e_calls : Addr} {de_calls : Option Addr} {ne_calls : Nat} {se_calls : Array (Option Value)}
    {e_outputs : Addr} {de_outputs : Option Addr} {ne_outputs : Nat} {se_outputs : Array (Option Value)}
    {e_moves : Addr} {de_moves : Option Addr} {ne_moves : Nat} {se_moves : Array (Option Value)}
    (gL : PySem.W.nsIn K mainGlobals "LETTERS" = some (some (.str "abcdefghijklmnopqrstuvwxyz" tL)))
    (gM : PySem.W.nsIn K mainGlobals "MARK" = some (some (.str "#" tM)))
    (b_isinstance : PySem.W.nsIn K mainGlobals "isinstance" = some none)
    (b_len : PySem.W.nsIn K mainGlobals "len" = some none)
    (b_all : PySem.W.nsIn K mainGlobals "all" = some none)
    (b_any : PySem.W.nsIn K mainGlobals "any" = some none)
    (b_zip : PySem.W.nsIn K mainGlobals "zip" = some none)
    (b_tuple : PySem.W.nsIn K mainGlobals "tuple" = some none)
    (b_dict : PySem.W.nsIn K mainGlobals "dict" = some none)
    (b_list : PySem.W.nsIn K mainGlobals "list" = some none)
    (b_bool : PySem.W.nsIn K mainGlobals "bool" = some none)
    (b_int : PySem.W.nsIn K mainGlobals "int" = some none)
    (b_str : PySem.W.nsIn K mainGlobals "str" = some none)
    (b_range : PySem.W.nsIn K mainGlobals "range" = some none)
    (b_repr : PySem.W.nsIn K mainGlobals "repr" = some none)
    (b_sorted : PySem.W.nsIn K mainGlobals "sorted" = some none)
    (gCB : PySem.W.nsIn K mainGlobals "Block" = some (some (.ref CB)))
    (gCR : PySem.W.nsIn K mainGlobals "Reading" = some (some (.ref CR)))
    (gCC : PySem.W.nsIn K mainGlobals "Call" = some (some (.ref CC)))
    (gCM : PySem.W.nsIn K mainGlobals "Move" = some (some (.ref CM)))
    (gCG : PySem.W.nsIn K mainGlobals "Config" = some (some (.ref CG)))
    (gVa : PySem.W.nsIn K mainGlobals "Valued" = some (some (.ref CV)))
    (gUn : PySem.W.nsIn K mainGlobals "Unknown" = some (some (.ref CU)))
    (d2 : PySem.W.specialIn K (.builtin "object.__class__") "__get__" = some (some (.builtin "getset_descriptor.__get__")))
    (d3 : PySem.W.takesIn K (.builtin "object.__class__") = some true)
    (c1CB : PySem.W.plainGet K CB Str.empty = true)
    (c2CB : PySem.W.hasDictIn K CB = true)
    (c3CB : PySem.W.plainOver K CB = true)
    (c4CB : PySem.W.findIn K (.ref CB) "__setattr__" = some (some (.builtin "object.__setattr__")))
    (d1CB : PySem.W.findIn K (.ref CB) "__class__" = some (some (.builtin "object.__class__")))
    (d4CB : PySem.W.mroIn K CB (.type "object") = some true)
    (mCB_tuple : PySem.W.mroIn K CB (.type "tuple") = some false)
    (mCB_bool : PySem.W.mroIn K CB (.type "bool") = some false)
    (mCB_int : PySem.W.mroIn K CB (.type "int") = some false)
    (mCB_dict : PySem.W.mroIn K CB (.type "dict") = some false)
    (mCB_str : PySem.W.mroIn K CB (.type "str") = some false)
    (mCB_list : PySem.W.mroIn K CB (.type "list") = some false)
    (oVCB : PySem.W.mroIn K CB (.ref CV) = some true)
    (oUCB : PySem.W.mroIn K CB (.ref CU) = some false)
    (neVCB : CB ≠ CV)
    (neUCB : CB ≠ CU)
    (na_CB_kind : PySem.W.findIn K (.ref CB) "kind" = some none)
    (na_CB_name : PySem.W.findIn K (.ref CB) "name" = some none)
    (na_CB_attributes : PySem.W.findIn K (.ref CB) "attributes" = some none)
    (na_CB_many : PySem.W.findIn K (.ref CB) "many" = some none)
    (na_CB_after : PySem.W.findIn K (.ref CB) "after" = some none)
    (na_CB_first : PySem.W.findIn K (.ref CB) "first" = some none)
    (na_CB_never : PySem.W.findIn K (.ref CB) "never" = some none)
    (na_CB_ignored : PySem.W.findIn K (.ref CB) "ignored" = some none)
    (na_CB_replaced_by : PySem.W.findIn K (.ref CB) "replaced_by" = some none)
    (na_CB_ahead : PySem.W.findIn K (.ref CB) "ahead" = some none)
    (mkCB : PySem.W.makesIn K CB = true)
    (kpCB : PySem.W.keepIn K (.ref CB) = true)
    (nVECB : PySem.W.findIn K (.ref CB) "__ne__" = some (some (.builtin "object.__ne__")))
    (sVECB : PySem.W.subIn K (.ref CB) (.type "object") = some true)
    (neCBCR : CB ≠ CR)
    (sCBCR : PySem.W.subIn K (.ref CB) (.ref CR) = some false)
    (oCBCR : PySem.W.mroIn K CB (.ref CR) = some false)
    (neCBCC : CB ≠ CC)
    (sCBCC : PySem.W.subIn K (.ref CB) (.ref CC) = some false)
    (oCBCC : PySem.W.mroIn K CB (.ref CC) = some false)
    (neCBCM : CB ≠ CM)
    (sCBCM : PySem.W.subIn K (.ref CB) (.ref CM) = some false)
    (neCBCG : CB ≠ CG)
    (sCBCG : PySem.W.subIn K (.ref CB) (.ref CG) = some false)
    (oCBCG : PySem.W.mroIn K CB (.ref CG) = some false)
    (c1CR : PySem.W.plainGet K CR Str.empty = true)
    (c2CR : PySem.W.hasDictIn K CR = true)
    (c3CR : PySem.W.plainOver K CR = true)
    (c4CR : PySem.W.findIn K (.ref CR) "__setattr__" = some (some (.builtin "object.__setattr__")))
    (d1CR : PySem.W.findIn K (.ref CR) "__class__" = some (some (.builtin "object.__class__")))
    (d4CR : PySem.W.mroIn K CR (.type "object") = some true)
    (mCR_tuple : PySem.W.mroIn K CR (.type "tuple") = some false)
    (mCR_bool : PySem.W.mroIn K CR (.type "bool") = some false)
    (mCR_int : PySem.W.mroIn K CR (.type "int") = some false)
    (mCR_dict : PySem.W.mroIn K CR (.type "dict") = some false)
    (mCR_str : PySem.W.mroIn K CR (.type "str") = some false)
    (mCR_list : PySem.W.mroIn K CR (.type "list") = some false)
    (oVCR : PySem.W.mroIn K CR (.ref CV) = some true)
    (oUCR : PySem.W.mroIn K CR (.ref CU) = some false)
    (neVCR : CR ≠ CV)
    (neUCR : CR ≠ CU)
    (na_CR_kind : PySem.W.findIn K (.ref CR) "kind" = some none)
    (na_CR_name : PySem.W.findIn K (.ref CR) "name" = some none)
    (na_CR_question : PySem.W.findIn K (.ref CR) "question" = some none)
    (na_CR_after : PySem.W.findIn K (.ref CR) "after" = some none)
    (mkCR : PySem.W.makesIn K CR = true)
    (kpCR : PySem.W.keepIn K (.ref CR) = true)
    (nVECR : PySem.W.findIn K (.ref CR) "__ne__" = some (some (.builtin "object.__ne__")))
    (sVECR : PySem.W.subIn K (.ref CR) (.type "object") = some true)
    (neCRCB : CR ≠ CB)
    (sCRCB : PySem.W.subIn K (.ref CR) (.ref CB) = some false)
    (oCRCB : PySem.W.mroIn K CR (.ref CB) = some false)
    (neCRCC : CR ≠ CC)
    (sCRCC : PySem.W.subIn K (.ref CR) (.ref CC) = some false)
    (oCRCC : PySem.W.mroIn K CR (.ref CC) = some false)
    (neCRCM : CR ≠ CM)
    (sCRCM : PySem.W.subIn K (.ref CR) (.ref CM) = some false)
    (neCRCG : CR ≠ CG)
    (sCRCG : PySem.W.subIn K (.ref CR) (.ref CG) = some false)
    (oCRCG : PySem.W.mroIn K CR (.ref CG) = some false)
    (c1CC : PySem.W.plainGet K CC Str.empty = true)
    (c2CC : PySem.W.hasDictIn K CC = true)
    (c3CC : PySem.W.plainOver K CC = true)
    (c4CC : PySem.W.findIn K (.ref CC) "__setattr__" = some (some (.builtin "object.__setattr__")))
    (d1CC : PySem.W.findIn K (.ref CC) "__class__" = some (some (.builtin "object.__class__")))
    (d4CC : PySem.W.mroIn K CC (.type "object") = some true)
    (mCC_tuple : PySem.W.mroIn K CC (.type "tuple") = some false)
    (mCC_bool : PySem.W.mroIn K CC (.type "bool") = some false)
    (mCC_int : PySem.W.mroIn K CC (.type "int") = some false)
    (mCC_dict : PySem.W.mroIn K CC (.type "dict") = some false)
    (mCC_str : PySem.W.mroIn K CC (.type "str") = some false)
    (mCC_list : PySem.W.mroIn K CC (.type "list") = some false)
    (oVCC : PySem.W.mroIn K CC (.ref CV) = some true)
    (oUCC : PySem.W.mroIn K CC (.ref CU) = some false)
    (neVCC : CC ≠ CV)
    (neUCC : CC ≠ CU)
    (na_CC_name : PySem.W.findIn K (.ref CC) "name" = some none)
    (na_CC_config : PySem.W.findIn K (.ref CC) "config" = some none)
    (na_CC_arguments : PySem.W.findIn K (.ref CC) "arguments" = some none)
    (na_CC_after : PySem.W.findIn K (.ref CC) "after" = some none)
    (mkCC : PySem.W.makesIn K CC = true)
    (kpCC : PySem.W.keepIn K (.ref CC) = true)
    (nVECC : PySem.W.findIn K (.ref CC) "__ne__" = some (some (.builtin "object.__ne__")))
    (sVECC : PySem.W.subIn K (.ref CC) (.type "object") = some true)
    (neCCCB : CC ≠ CB)
    (sCCCB : PySem.W.subIn K (.ref CC) (.ref CB) = some false)
    (oCCCB : PySem.W.mroIn K CC (.ref CB) = some false)
    (neCCCR : CC ≠ CR)
    (sCCCR : PySem.W.subIn K (.ref CC) (.ref CR) = some false)
    (oCCCR : PySem.W.mroIn K CC (.ref CR) = some false)
    (neCCCM : CC ≠ CM)
    (sCCCM : PySem.W.subIn K (.ref CC) (.ref CM) = some false)
    (neCCCG : CC ≠ CG)
    (sCCCG : PySem.W.subIn K (.ref CC) (.ref CG) = some false)
    (oCCCG : PySem.W.mroIn K CC (.ref CG) = some false)
    (c1CM : PySem.W.plainGet K CM Str.empty = true)
    (c2CM : PySem.W.hasDictIn K CM = true)
    (c3CM : PySem.W.plainOver K CM = true)
    (c4CM : PySem.W.findIn K (.ref CM) "__setattr__" = some (some (.builtin "object.__setattr__")))
    (d1CM : PySem.W.findIn K (.ref CM) "__class__" = some (some (.builtin "object.__class__")))
    (d4CM : PySem.W.mroIn K CM (.type "object") = some true)
    (mCM_tuple : PySem.W.mroIn K CM (.type "tuple") = some false)
    (mCM_bool : PySem.W.mroIn K CM (.type "bool") = some false)
    (mCM_int : PySem.W.mroIn K CM (.type "int") = some false)
    (mCM_dict : PySem.W.mroIn K CM (.type "dict") = some false)
    (mCM_str : PySem.W.mroIn K CM (.type "str") = some false)
    (mCM_list : PySem.W.mroIn K CM (.type "list") = some false)
    (oVCM : PySem.W.mroIn K CM (.ref CV) = some true)
    (oUCM : PySem.W.mroIn K CM (.ref CU) = some false)
    (neVCM : CM ≠ CV)
    (neUCM : CM ≠ CU)
    (na_CM_old : PySem.W.findIn K (.ref CM) "old" = some none)
    (na_CM_new : PySem.W.findIn K (.ref CM) "new" = some none)
    (mkCM : PySem.W.makesIn K CM = true)
    (kpCM : PySem.W.keepIn K (.ref CM) = true)
    (nVECM : PySem.W.findIn K (.ref CM) "__ne__" = some (some (.builtin "object.__ne__")))
    (sVECM : PySem.W.subIn K (.ref CM) (.type "object") = some true)
    (neCMCB : CM ≠ CB)
    (sCMCB : PySem.W.subIn K (.ref CM) (.ref CB) = some false)
    (oCMCB : PySem.W.mroIn K CM (.ref CB) = some false)
    (neCMCR : CM ≠ CR)
    (sCMCR : PySem.W.subIn K (.ref CM) (.ref CR) = some false)
    (oCMCR : PySem.W.mroIn K CM (.ref CR) = some false)
    (neCMCC : CM ≠ CC)
    (sCMCC : PySem.W.subIn K (.ref CM) (.ref CC) = some false)
    (oCMCC : PySem.W.mroIn K CM (.ref CC) = some false)
    (neCMCG : CM ≠ CG)
    (sCMCG : PySem.W.subIn K (.ref CM) (.ref CG) = some false)
    (oCMCG : PySem.W.mroIn K CM (.ref CG) = some false)
    (c1CG : PySem.W.plainGet K CG Str.empty = true)
    (c2CG : PySem.W.hasDictIn K CG = true)
    (c3CG : PySem.W.plainOver K CG = true)
    (c4CG : PySem.W.findIn K (.ref CG) "__setattr__" = some (some (.builtin "object.__setattr__")))
    (d1CG : PySem.W.findIn K (.ref CG) "__class__" = some (some (.builtin "object.__class__")))
    (d4CG : PySem.W.mroIn K CG (.type "object") = some true)
    (mCG_tuple : PySem.W.mroIn K CG (.type "tuple") = some false)
    (mCG_bool : PySem.W.mroIn K CG (.type "bool") = some false)
    (mCG_int : PySem.W.mroIn K CG (.type "int") = some false)
    (mCG_dict : PySem.W.mroIn K CG (.type "dict") = some false)
    (mCG_str : PySem.W.mroIn K CG (.type "str") = some false)
    (mCG_list : PySem.W.mroIn K CG (.type "list") = some false)
    (oVCG : PySem.W.mroIn K CG (.ref CV) = some true)
    (oUCG : PySem.W.mroIn K CG (.ref CU) = some false)
    (neVCG : CG ≠ CV)
    (neUCG : CG ≠ CU)
    (na_CG_params : PySem.W.findIn K (.ref CG) "params" = some none)
    (na_CG_blocks : PySem.W.findIn K (.ref CG) "blocks" = some none)
    (na_CG_readings : PySem.W.findIn K (.ref CG) "readings" = some none)
    (na_CG_calls : PySem.W.findIn K (.ref CG) "calls" = some none)
    (na_CG_outputs : PySem.W.findIn K (.ref CG) "outputs" = some none)
    (na_CG_moves : PySem.W.findIn K (.ref CG) "moves" = some none)
    (mkCG : PySem.W.makesIn K CG = true)
    (kpCG : PySem.W.keepIn K (.ref CG) = true)
    (nVECG : PySem.W.findIn K (.ref CG) "__ne__" = some (some (.builtin "object.__ne__")))
    (sVECG : PySem.W.subIn K (.ref CG) (.type "object") = some true)
    (neCGCB : CG ≠ CB)
    (sCGCB : PySem.W.subIn K (.ref CG) (.ref CB) = some false)
    (oCGCB : PySem.W.mroIn K CG (.ref CB) = some false)
    (neCGCR : CG ≠ CR)
    (sCGCR : PySem.W.subIn K (.ref CG) (.ref CR) = some false)
    (oCGCR : PySem.W.mroIn K CG (.ref CR) = some false)
    (neCGCC : CG ≠ CC)
    (sCGCC : PySem.W.subIn K (.ref CG) (.ref CC) = some false)
    (oCGCC : PySem.W.mroIn K CG (.ref CC) = some false)
    (neCGCM : CG ≠ CM)
    (sCGCM : PySem.W.subIn K (.ref CG) (.ref CM) = some false)
    (i1CV : PySem.W.isClsIn K CV = true)
    (i2CV : PySem.W.typeIn K (.ref CV) = some (.type "type"))
    (i1CU : PySem.W.isClsIn K CU = true)
    (i2CU : PySem.W.typeIn K (.ref CU) = some (.type "type"))
    (i1CB : PySem.W.isClsIn K CB = true)
    (i2CB : PySem.W.typeIn K (.ref CB) = some (.type "type"))
    (i1CR : PySem.W.isClsIn K CR = true)
    (i2CR : PySem.W.typeIn K (.ref CR) = some (.type "type"))
    (i1CC : PySem.W.isClsIn K CC = true)
    (i2CC : PySem.W.typeIn K (.ref CC) = some (.type "type"))
    (i1CG : PySem.W.isClsIn K CG = true)
    (i2CG : PySem.W.typeIn K (.ref CG) = some (.type "type"))
    (a_integ : PySem.W.nsIn K mainGlobals "is_integer" = some (some (.ref finteg)))
    (linteg : K.lookup finteg = some ⟨ocinteg, odinteg, .func (PySem.W.fnOf "is_integer" "is_integer" (defArgs sInt) (defBody sInt) (defScope sInt) .none kVinteg dcinteg pminteg aninteg cdinteg ctinteg), slinteg⟩)
    (yinteg : PySem.W.codeIn K cdinteg "is_integer" = true)
    (zinteg : PySem.W.keepIn K (.ref finteg) = true)
    (a_name : PySem.W.nsIn K mainGlobals "is_name" = some (some (.ref fname)))
    (lname : K.lookup fname = some ⟨ocname, odname, .func (PySem.W.fnOf "is_name" "is_name" (defArgs sName) (defBody sName) (defScope sName) .none kVname dcname pmname anname cdname ctname), slname⟩)
    (yname : PySem.W.codeIn K cdname "is_name" = true)
    (zname : PySem.W.keepIn K (.ref fname) = true)
    (a_tag : PySem.W.nsIn K mainGlobals "is_tag" = some (some (.ref ftag)))
    (ltag : K.lookup ftag = some ⟨octag, odtag, .func (PySem.W.fnOf "is_tag" "is_tag" (defArgs sTag) (defBody sTag) (defScope sTag) .none kVtag dctag pmtag antag cdtag cttag), sltag⟩)
    (ytag : PySem.W.codeIn K cdtag "is_tag" = true)
    (ztag : PySem.W.keepIn K (.ref ftag) = true)
    (a_sort : PySem.W.nsIn K mainGlobals "sort_of" = some (some (.ref fsort)))
    (lsort : K.lookup fsort = some ⟨ocsort, odsort, .func (PySem.W.fnOf "sort_of" "sort_of" (defArgs sSort) (defBody sSort) (defScope sSort) .none kVsort dcsort pmsort ansort cdsort ctsort), slsort⟩)
    (ysort : PySem.W.codeIn K cdsort "sort_of" = true)
    (zsort : PySem.W.keepIn K (.ref fsort) = true)
    (a_eq : PySem.W.nsIn K mainGlobals "are_equal" = some (some (.ref feq)))
    (leq : K.lookup feq = some ⟨oceq, odeq, .func (PySem.W.fnOf "are_equal" "are_equal" (defArgs sEq) (defBody sEq) (defScope sEq) .none kVeq dceq pmeq aneq cdeq cteq), sleq⟩)
    (yeq : PySem.W.codeIn K cdeq "are_equal" = true)
    (zeq : PySem.W.keepIn K (.ref feq) = true)
    (a_rw : PySem.W.nsIn K mainGlobals "are_rows" = some (some (.ref frw)))
    (lrw : K.lookup frw = some ⟨ocrw, odrw, .func (PySem.W.fnOf "are_rows" "are_rows" (defArgs sRw) (defBody sRw) (defScope sRw) .none kVrw dcrw pmrw anrw cdrw ctrw), slrw⟩)
    (yrw : PySem.W.codeIn K cdrw "are_rows" = true)
    (zrw : PySem.W.keepIn K (.ref frw) = true)
    (a_unl : PySem.W.nsIn K mainGlobals "are_unlike" = some (some (.ref funl)))
    (lunl : K.lookup funl = some ⟨ocunl, odunl, .func (PySem.W.fnOf "are_unlike" "are_unlike" (defArgs sUn) (defBody sUn) (defScope sUn) .none kVunl dcunl pmunl anunl cdunl ctunl), slunl⟩)
    (yunl : PySem.W.codeIn K cdunl "are_unlike" = true)
    (zunl : PySem.W.keepIn K (.ref funl) = true)
    (a_ap : PySem.W.nsIn K mainGlobals "are_apart" = some (some (.ref fap)))
    (lap : K.lookup fap = some ⟨ocap, odap, .func (PySem.W.fnOf "are_apart" "are_apart" (defArgs sAp) (defBody sAp) (defScope sAp) .none kVap dcap pmap anap cdap ctap), slap⟩)
    (yap : PySem.W.codeIn K cdap "are_apart" = true)
    (zap : PySem.W.keepIn K (.ref fap) = true)
    (a_gr : PySem.W.nsIn K mainGlobals "goes_round" = some (some (.ref fgr)))
    (lgr : K.lookup fgr = some ⟨ocgr, odgr, .func (PySem.W.fnOf "goes_round" "goes_round" (defArgs sGr) (defBody sGr) (defScope sGr) .none kVgr dcgr pmgr angr cdgr ctgr), slgr⟩)
    (ygr : PySem.W.codeIn K cdgr "goes_round" = true)
    (zgr : PySem.W.keepIn K (.ref fgr) = true)
    (a_gm : PySem.W.nsIn K mainGlobals "are_good_moves" = some (some (.ref fgm)))
    (lgm : K.lookup fgm = some ⟨ocgm, odgm, .func (PySem.W.fnOf "are_good_moves" "are_good_moves" (defArgs sGm) (defBody sGm) (defScope sGm) .none kVgm dcgm pmgm angm cdgm ctgm), slgm⟩)
    (ygm : PySem.W.codeIn K cdgm "are_good_moves" = true)
    (zgm : PySem.W.keepIn K (.ref fgm) = true)
    (a_well : PySem.W.nsIn K mainGlobals "_law_well" = some (some (.ref fwell)))
    (lwell : K.lookup fwell = some ⟨ocwell, odwell, .func (PySem.W.fnOf "_law_well" "_law_well" (defArgs sWell) (defBody sWell) (defScope sWell) .none kVwell dcwell pmwell anwell cdwell ctwell), slwell⟩)
    (ywell : PySem.W.codeIn K cdwell "_law_well" = true)
    (zwell : PySem.W.keepIn K (.ref fwell) = true)
    (a_draw : PySem.W.nsIn K mainGlobals "_law_draw" = some (some (.ref fdraw)))
    (ldraw : K.lookup fdraw = some ⟨ocdraw, oddraw, .func (PySem.W.fnOf "_law_draw" "_law_draw" (defArgs sDraw) (defBody sDraw) (defScope sDraw) .none kVdraw dcdraw pmdraw andraw cddraw ctdraw), sldraw⟩)
    (ydraw : PySem.W.codeIn K cddraw "_law_draw" = true)
    (zdraw : PySem.W.keepIn K (.ref fdraw) = true)
    (a_one : PySem.W.nsIn K mainGlobals "_law_one" = some (some (.ref fone)))
    (lone : K.lookup fone = some ⟨ocone, odone, .func (PySem.W.fnOf "_law_one" "_law_one" (defArgs sOne) (defBody sOne) (defScope sOne) .none kVone dcone pmone anone cdone ctone), slone⟩)
    (yone : PySem.W.codeIn K cdone "_law_one" = true)
    (zone : PySem.W.keepIn K (.ref fone) = true)
    (a_ch : PySem.W.nsIn K mainGlobals "_law_changed" = some (some (.ref fch)))
    (lch : K.lookup fch = some ⟨occh, odch, .func (PySem.W.fnOf "_law_changed" "_law_changed" (defArgs sCh) (defBody sCh) (defScope sCh) .none kVch dcch pmch anch cdch ctch), slch⟩)
    (ych : PySem.W.codeIn K cdch "_law_changed" = true)
    (zch : PySem.W.keepIn K (.ref fch) = true)
    (a_tx : PySem.W.nsIn K mainGlobals "_law_sorted_text" = some (some (.ref ftx)))
    (ltx : K.lookup ftx = some ⟨octx, odtx, .func (PySem.W.fnOf "_law_sorted_text" "_law_sorted_text" (defArgs sTx) (defBody sTx) (defScope sTx) .none kVtx dctx pmtx antx cdtx cttx), sltx⟩)
    (ytx : PySem.W.codeIn K cdtx "_law_sorted_text" = true)
    (ztx : PySem.W.keepIn K (.ref ftx) = true)
    (a_bl : PySem.W.nsIn K mainGlobals "_law_block" = some (some (.ref fbl)))
    (lbl : K.lookup fbl = some ⟨ocbl, odbl, .func (PySem.W.fnOf "_law_block" "_law_block" (defArgs sBl) (defBody sBl) (defScope sBl) .none kVbl dcbl pmbl anbl cdbl ctbl), slbl⟩)
    (ybl : PySem.W.codeIn K cdbl "_law_block" = true)
    (zbl : PySem.W.keepIn K (.ref fbl) = true)
    (a_ke : PySem.W.nsIn K mainGlobals "_law_kept" = some (some (.ref fke)))
    (lke : K.lookup fke = some ⟨ocke, odke, .func (PySem.W.fnOf "_law_kept" "_law_kept" (defArgs sKe) (defBody sKe) (defScope sKe) .none kVke dcke pmke anke cdke ctke), slke⟩)
    (yke : PySem.W.codeIn K cdke "_law_kept" = true)
    (zke : PySem.W.keepIn K (.ref fke) = true)
    (a_md : PySem.W.nsIn K mainGlobals "_law_made" = some (some (.ref fmd)))
    (lmd : K.lookup fmd = some ⟨ocmd, odmd, .func (PySem.W.fnOf "_law_made" "_law_made" (defArgs sMd) (defBody sMd) (defScope sMd) .none kVmd dcmd pmmd anmd cdmd ctmd), slmd⟩)
    (ymd : PySem.W.codeIn K cdmd "_law_made" = true)
    (zmd : PySem.W.keepIn K (.ref fmd) = true)
    (a_law : PySem.W.nsIn K mainGlobals "law" = some (some (.ref flaw)))
    (llaw : K.lookup flaw = some ⟨oclaw, odlaw, .func (PySem.W.fnOf "law" "law" (defArgs sLaw) (defBody sLaw) (defScope sLaw) .none kVlaw dclaw pmlaw anlaw cdlaw ctlaw), sllaw⟩)
    (ylaw : PySem.W.codeIn K cdlaw "law" = true)
    (zlaw : PySem.W.keepIn K (.ref flaw) = true)
    (gis_param : PySem.W.nsIn K mainGlobals "is_param" = some (some (.ref pis_param)))
    (gis_block : PySem.W.nsIn K mainGlobals "is_block" = some (some (.ref pis_block)))
    (gis_reading : PySem.W.nsIn K mainGlobals "is_reading" = some (some (.ref pis_reading)))
    (gis_call : PySem.W.nsIn K mainGlobals "is_call" = some (some (.ref pis_call)))
    (gis_output : PySem.W.nsIn K mainGlobals "is_output" = some (some (.ref pis_output)))
    (gis_move : PySem.W.nsIn K mainGlobals "is_move" = some (some (.ref pis_move)))
    (m_VE : PySem.W.findIn K (.ref CB) "__eq__" = some (some (.ref fVE)))
    (j_VE : PySem.W.isFn K (.ref fVE) = true)
    (lVE : K.lookup fVE = some ⟨ocVE, odVE, .func (PySem.W.fnOf "__eq__" "Valued.__eq__" (defArgs sVEq) (defBody sVEq) (defScope sVEq) .none kVVE dcVE pmVE anVE cdVE ctVE), slVE⟩)
    (yVE : PySem.W.codeIn K cdVE "Valued.__eq__" = true)
    (zVE : PySem.W.keepIn K (.ref fVE) = true)
    (m_NB : PySem.W.findIn K (.ref CB) "class_name" = some (some (.ref fNB)))
    (j_NB : PySem.W.isFn K (.ref fNB) = true)
    (lNB : K.lookup fNB = some ⟨ocNB, odNB, .func (PySem.W.fnOf "class_name" "Block.class_name" (defArgs sNB) (defBody sNB) (defScope sNB) .none kVNB dcNB pmNB anNB cdNB ctNB), slNB⟩)
    (yNB : PySem.W.codeIn K cdNB "Block.class_name" = true)
    (zNB : PySem.W.keepIn K (.ref fNB) = true)
    (m_FB : PySem.W.findIn K (.ref CB) "fields" = some (some (.ref fFB)))
    (j_FB : PySem.W.isFn K (.ref fFB) = true)
    (lFB : K.lookup fFB = some ⟨ocFB, odFB, .func (PySem.W.fnOf "fields" "Block.fields" (defArgs sFB) (defBody sFB) (defScope sFB) .none kVFB dcFB pmFB anFB cdFB ctFB), slFB⟩)
    (yFB : PySem.W.codeIn K cdFB "Block.fields" = true)
    (zFB : PySem.W.keepIn K (.ref fFB) = true)
    (m_VECR : PySem.W.findIn K (.ref CR) "__eq__" = some (some (.ref fVE)))
    (m_NR : PySem.W.findIn K (.ref CR) "class_name" = some (some (.ref fNR)))
    (j_NR : PySem.W.isFn K (.ref fNR) = true)
    (lNR : K.lookup fNR = some ⟨ocNR, odNR, .func (PySem.W.fnOf "class_name" "Reading.class_name" (defArgs sNR) (defBody sNR) (defScope sNR) .none kVNR dcNR pmNR anNR cdNR ctNR), slNR⟩)
    (yNR : PySem.W.codeIn K cdNR "Reading.class_name" = true)
    (zNR : PySem.W.keepIn K (.ref fNR) = true)
    (m_FR : PySem.W.findIn K (.ref CR) "fields" = some (some (.ref fFR)))
    (j_FR : PySem.W.isFn K (.ref fFR) = true)
    (lFR : K.lookup fFR = some ⟨ocFR, odFR, .func (PySem.W.fnOf "fields" "Reading.fields" (defArgs sFR) (defBody sFR) (defScope sFR) .none kVFR dcFR pmFR anFR cdFR ctFR), slFR⟩)
    (yFR : PySem.W.codeIn K cdFR "Reading.fields" = true)
    (zFR : PySem.W.keepIn K (.ref fFR) = true)
    (m_VECC : PySem.W.findIn K (.ref CC) "__eq__" = some (some (.ref fVE)))
    (m_NC : PySem.W.findIn K (.ref CC) "class_name" = some (some (.ref fNC)))
    (j_NC : PySem.W.isFn K (.ref fNC) = true)
    (lNC : K.lookup fNC = some ⟨ocNC, odNC, .func (PySem.W.fnOf "class_name" "Call.class_name" (defArgs sNC) (defBody sNC) (defScope sNC) .none kVNC dcNC pmNC anNC cdNC ctNC), slNC⟩)
    (yNC : PySem.W.codeIn K cdNC "Call.class_name" = true)
    (zNC : PySem.W.keepIn K (.ref fNC) = true)
    (m_FC : PySem.W.findIn K (.ref CC) "fields" = some (some (.ref fFC)))
    (j_FC : PySem.W.isFn K (.ref fFC) = true)
    (lFC : K.lookup fFC = some ⟨ocFC, odFC, .func (PySem.W.fnOf "fields" "Call.fields" (defArgs sFC) (defBody sFC) (defScope sFC) .none kVFC dcFC pmFC anFC cdFC ctFC), slFC⟩)
    (yFC : PySem.W.codeIn K cdFC "Call.fields" = true)
    (zFC : PySem.W.keepIn K (.ref fFC) = true)
    (m_VECM : PySem.W.findIn K (.ref CM) "__eq__" = some (some (.ref fVE)))
    (m_NM : PySem.W.findIn K (.ref CM) "class_name" = some (some (.ref fNM)))
    (j_NM : PySem.W.isFn K (.ref fNM) = true)
    (lNM : K.lookup fNM = some ⟨ocNM, odNM, .func (PySem.W.fnOf "class_name" "Move.class_name" (defArgs sNM) (defBody sNM) (defScope sNM) .none kVNM dcNM pmNM anNM cdNM ctNM), slNM⟩)
    (yNM : PySem.W.codeIn K cdNM "Move.class_name" = true)
    (zNM : PySem.W.keepIn K (.ref fNM) = true)
    (m_FM : PySem.W.findIn K (.ref CM) "fields" = some (some (.ref fFM)))
    (j_FM : PySem.W.isFn K (.ref fFM) = true)
    (lFM : K.lookup fFM = some ⟨ocFM, odFM, .func (PySem.W.fnOf "fields" "Move.fields" (defArgs sFM) (defBody sFM) (defScope sFM) .none kVFM dcFM pmFM anFM cdFM ctFM), slFM⟩)
    (yFM : PySem.W.codeIn K cdFM "Move.fields" = true)
    (zFM : PySem.W.keepIn K (.ref fFM) = true)
    (m_VECG : PySem.W.findIn K (.ref CG) "__eq__" = some (some (.ref fVE)))
    (m_NG : PySem.W.findIn K (.ref CG) "class_name" = some (some (.ref fNG)))
    (j_NG : PySem.W.isFn K (.ref fNG) = true)
    (lNG : K.lookup fNG = some ⟨ocNG, odNG, .func (PySem.W.fnOf "class_name" "Config.class_name" (defArgs sNG) (defBody sNG) (defScope sNG) .none kVNG dcNG pmNG anNG cdNG ctNG), slNG⟩)
    (yNG : PySem.W.codeIn K cdNG "Config.class_name" = true)
    (zNG : PySem.W.keepIn K (.ref fNG) = true)
    (m_FG : PySem.W.findIn K (.ref CG) "fields" = some (some (.ref fFG)))
    (j_FG : PySem.W.isFn K (.ref fFG) = true)
    (lFG : K.lookup fFG = some ⟨ocFG, odFG, .func (PySem.W.fnOf "fields" "Config.fields" (defArgs sFG) (defBody sFG) (defScope sFG) .none kVFG dcFG pmFG anFG cdFG ctFG), slFG⟩)
    (yFG : PySem.W.codeIn K cdFG "Config.fields" = true)
    (zFG : PySem.W.keepIn K (.ref fFG) = true)
    (m_Mk : PySem.W.findIn K (.ref CB) "marks" = some (some (.ref fMk)))
    (j_Mk : PySem.W.isFn K (.ref fMk) = true)
    (lMk : K.lookup fMk = some ⟨ocMk, odMk, .func (PySem.W.fnOf "marks" "Block.marks" (defArgs sMk) (defBody sMk) (defScope sMk) .none kVMk dcMk pmMk anMk cdMk ctMk), slMk⟩)
    (yMk : PySem.W.codeIn K cdMk "Block.marks" = true)
    (zMk : PySem.W.keepIn K (.ref fMk) = true)
    (m_IB : PySem.W.findIn K (.ref CB) "__init__" = some (some (.ref fIB)))
    (j_IB : PySem.W.isFn K (.ref fIB) = true)
    (lIB : K.lookup fIB = some ⟨ocIB, odIB, .func (PySem.W.fnOf "__init__" "Block.__init__" (defArgs sIB) (defBody sIB) (defScope sIB) .none kVIB dcIB pmIB anIB cdIB ctIB), slIB⟩)
    (yIB : PySem.W.codeIn K cdIB "Block.__init__" = true)
    (zIB : PySem.W.keepIn K (.ref fIB) = true)
    (m_IR : PySem.W.findIn K (.ref CR) "__init__" = some (some (.ref fIR)))
    (j_IR : PySem.W.isFn K (.ref fIR) = true)
    (lIR : K.lookup fIR = some ⟨ocIR, odIR, .func (PySem.W.fnOf "__init__" "Reading.__init__" (defArgs sIR) (defBody sIR) (defScope sIR) .none kVIR dcIR pmIR anIR cdIR ctIR), slIR⟩)
    (yIR : PySem.W.codeIn K cdIR "Reading.__init__" = true)
    (zIR : PySem.W.keepIn K (.ref fIR) = true)
    (m_IC : PySem.W.findIn K (.ref CC) "__init__" = some (some (.ref fIC)))
    (j_IC : PySem.W.isFn K (.ref fIC) = true)
    (lIC : K.lookup fIC = some ⟨ocIC, odIC, .func (PySem.W.fnOf "__init__" "Call.__init__" (defArgs sIC) (defBody sIC) (defScope sIC) .none kVIC dcIC pmIC anIC cdIC ctIC), slIC⟩)
    (yIC : PySem.W.codeIn K cdIC "Call.__init__" = true)
    (zIC : PySem.W.keepIn K (.ref fIC) = true)
    (m_IM : PySem.W.findIn K (.ref CM) "__init__" = some (some (.ref fIM)))
    (j_IM : PySem.W.isFn K (.ref fIM) = true)
    (lIM : K.lookup fIM = some ⟨ocIM, odIM, .func (PySem.W.fnOf "__init__" "Move.__init__" (defArgs sIM) (defBody sIM) (defScope sIM) .none kVIM dcIM pmIM anIM cdIM ctIM), slIM⟩)
    (yIM : PySem.W.codeIn K cdIM "Move.__init__" = true)
    (zIM : PySem.W.keepIn K (.ref fIM) = true)
    (m_IG : PySem.W.findIn K (.ref CG) "__init__" = some (some (.ref fIG)))
    (j_IG : PySem.W.isFn K (.ref fIG) = true)
    (lIG : K.lookup fIG = some ⟨ocIG, odIG, .func (PySem.W.fnOf "__init__" "Config.__init__" (defArgs sIG) (defBody sIG) (defScope sIG) .none (.ref DG) dcIG pmIG anIG cdIG ctIG), slIG⟩)
    (yIG : PySem.W.codeIn K cdIG "Config.__init__" = true)
    (zIG : PySem.W.keepIn K (.ref fIG) = true)
    (q_params : PySem.W.nsIn K DG "params" = some (some (.ref e_params)))
    (le_params : K.lookup e_params = some ⟨.type "tuple", de_params, .seq #[] ne_params, se_params⟩)
    (q_blocks : PySem.W.nsIn K DG "blocks" = some (some (.ref e_blocks)))
    (le_blocks : K.lookup e_blocks = some ⟨.type "tuple", de_blocks, .seq #[] ne_blocks, se_blocks⟩)
    (q_readings : PySem.W.nsIn K DG "readings" = some (some (.ref e_readings)))
    (le_readings : K.lookup e_readings = some ⟨.type "tuple", de_readings, .seq #[] ne_readings, se_readings⟩)
    (q_calls : PySem.W.nsIn K DG "calls" = some (some (.ref e_calls)))
    (le_calls : K.lookup e_calls = some ⟨.type "tuple", de_calls, .seq #[] ne_calls, se_calls⟩)
    (q_outputs : PySem.W.nsIn K DG "outputs" = some (some (.ref e_outputs)))
    (le_outputs : K.lookup e_outputs = some ⟨.type "tuple", de_outputs, .seq #[] ne_outputs, se_outputs⟩)
    (q_moves : PySem.W.nsIn K DG "moves" = some (some (.ref e_moves)))
    (le_moves : K.lookup e_moves = some ⟨.type "tuple", de_moves, .seq #[] ne_moves, se_moves⟩)
    : ∃ fd : FuncData, (∀ (s : Shared) (v : Value), BindsTo s fd ⟨[v], []⟩ [("_law_script", v)]) ∧ ∀ base : Heap, K.In base → base.Ns mainGlobals mg → FnOk l.prog w K mg base CX0 18 fa fd ["_law_script"] (spLaw K) := by
  have e := hfa.symm.trans (PySem.W.mg_of X G a_law)
  cases e
  have B_isinstance := PySem.W.mg_none_of X G b_isinstance
  have B_len := PySem.W.mg_none_of X G b_len
  have B_all := PySem.W.mg_none_of X G b_all
  have B_any := PySem.W.mg_none_of X G b_any
  have B_zip := PySem.W.mg_none_of X G b_zip
  have B_tuple := PySem.W.mg_none_of X G b_tuple
  have B_dict := PySem.W.mg_none_of X G b_dict
  have B_list := PySem.W.mg_none_of X G b_list
  have B_bool := PySem.W.mg_none_of X G b_bool
  have B_int := PySem.W.mg_none_of X G b_int
  have B_str := PySem.W.mg_none_of X G b_str
  have B_range := PySem.W.mg_none_of X G b_range
  have B_repr := PySem.W.mg_none_of X G b_repr
  have B_sorted := PySem.W.mg_none_of X G b_sorted
  have F_integ := fun_mk (st := sInt) linteg yinteg zinteg
  have B_integ := F_integ.binds (ps := ["thing"]) fun _ _ _ _ _ _ us hl => match us, hl with | [_], _ => rfl
  have F_name := fun_mk (st := sName) lname yname zname
  have B_name := F_name.binds (ps := ["thing"]) fun _ _ _ _ _ _ us hl => match us, hl with | [_], _ => rfl
  have F_tag := fun_mk (st := sTag) ltag ytag ztag
  have B_tag := F_tag.binds (ps := ["thing"]) fun _ _ _ _ _ _ us hl => match us, hl with | [_], _ => rfl
  have F_sort := fun_mk (st := sSort) lsort ysort zsort
  have B_sort := F_sort.binds (ps := ["value"]) fun _ _ _ _ _ _ us hl => match us, hl with | [_], _ => rfl
  have F_eq := fun_mk (st := sEq) leq yeq zeq
  have B_eq := F_eq.binds (ps := ["one", "other"]) fun _ _ _ _ _ _ us hl => match us, hl with | [_, _], _ => rfl
  have F_rw := fun_mk (st := sRw) lrw yrw zrw
  have B_rw := F_rw.binds (ps := ["things", "is_good"]) fun _ _ _ _ _ _ us hl => match us, hl with | [_, _], _ => rfl
  have F_unl := fun_mk (st := sUn) lunl yunl zunl
  have B_unl := F_unl.binds (ps := ["things"]) fun _ _ _ _ _ _ us hl => match us, hl with | [_], _ => rfl
  have F_ap := fun_mk (st := sAp) lap yap zap
  have B_ap := F_ap.binds (ps := ["places"]) fun _ _ _ _ _ _ us hl => match us, hl with | [_], _ => rfl
  have F_gr := fun_mk (st := sGr) lgr ygr zgr
  have B_gr := F_gr.binds (ps := ["moves"]) fun _ _ _ _ _ _ us hl => match us, hl with | [_], _ => rfl
  have F_gm := fun_mk (st := sGm) lgm ygm zgm
  have B_gm := F_gm.binds (ps := ["moves", "blocks"]) fun _ _ _ _ _ _ us hl => match us, hl with | [_, _], _ => rfl
  have F_well := fun_mk (st := sWell) lwell ywell zwell
  have B_well := F_well.binds (ps := ["_law_cell"]) fun _ _ _ _ _ _ us hl => match us, hl with | [_], _ => rfl
  have F_draw := fun_mk (st := sDraw) ldraw ydraw zdraw
  have B_draw := F_draw.binds (ps := ["_law_well_here", "_law_below"]) fun _ _ _ _ _ _ us hl => match us, hl with | [_, _], _ => rfl
  have F_one := fun_mk (st := sOne) lone yone zone
  have B_one := F_one.binds (ps := ["_law_well_here", "_law_some"]) fun _ _ _ _ _ _ us hl => match us, hl with | [_, _], _ => rfl
  have F_ch := fun_mk (st := sCh) lch ych zch
  have B_ch := F_ch.binds (ps := ["_law_well_here", "_law_some"]) fun _ _ _ _ _ _ us hl => match us, hl with | [_, _], _ => rfl
  have F_tx := fun_mk (st := sTx) ltx ytx ztx
  have B_tx := F_tx.binds (ps := ["_law_thing"]) fun _ _ _ _ _ _ us hl => match us, hl with | [_], _ => rfl
  have F_bl := fun_mk (st := sBl) lbl ybl zbl
  have B_bl := F_bl.binds (ps := ["_law_p"]) fun _ _ _ _ _ _ us hl => match us, hl with | [_], _ => rfl
  have F_ke := fun_mk (st := sKe) lke yke zke
  have B_ke := F_ke.binds (ps := ["_law_one_here", "_law_some"]) fun _ _ _ _ _ _ us hl => match us, hl with | [_, _], _ => rfl
  have F_md := fun_mk (st := sMd) lmd ymd zmd
  have B_md := F_md.binds (ps := ["_law_way", "_law_p"]) fun _ _ _ _ _ _ us hl => match us, hl with | [_, _], _ => rfl
  have F_law := fun_mk (st := sLaw) llaw ylaw zlaw
  have B_law := F_law.binds (ps := ["_law_script"]) fun _ _ _ _ _ _ us hl => match us, hl with | [_], _ => rfl
  have F_VE := fun_mk (st := sVEq) lVE yVE zVE
  have B_VE := F_VE.binds (ps := ["self", "other"]) fun _ _ _ _ _ _ us hl => match us, hl with | [_, _], _ => rfl
  have F_NB := fun_mk (st := sNB) lNB yNB zNB
  have B_NB := F_NB.binds (ps := ["self"]) fun _ _ _ _ _ _ us hl => match us, hl with | [_], _ => rfl
  have F_FB := fun_mk (st := sFB) lFB yFB zFB
  have B_FB := F_FB.binds (ps := ["self"]) fun _ _ _ _ _ _ us hl => match us, hl with | [_], _ => rfl
  have F_NR := fun_mk (st := sNR) lNR yNR zNR
  have B_NR := F_NR.binds (ps := ["self"]) fun _ _ _ _ _ _ us hl => match us, hl with | [_], _ => rfl
  have F_FR := fun_mk (st := sFR) lFR yFR zFR
  have B_FR := F_FR.binds (ps := ["self"]) fun _ _ _ _ _ _ us hl => match us, hl with | [_], _ => rfl
  have F_NC := fun_mk (st := sNC) lNC yNC zNC
  have B_NC := F_NC.binds (ps := ["self"]) fun _ _ _ _ _ _ us hl => match us, hl with | [_], _ => rfl
  have F_FC := fun_mk (st := sFC) lFC yFC zFC
  have B_FC := F_FC.binds (ps := ["self"]) fun _ _ _ _ _ _ us hl => match us, hl with | [_], _ => rfl
  have F_NM := fun_mk (st := sNM) lNM yNM zNM
  have B_NM := F_NM.binds (ps := ["self"]) fun _ _ _ _ _ _ us hl => match us, hl with | [_], _ => rfl
  have F_FM := fun_mk (st := sFM) lFM yFM zFM
  have B_FM := F_FM.binds (ps := ["self"]) fun _ _ _ _ _ _ us hl => match us, hl with | [_], _ => rfl
  have F_NG := fun_mk (st := sNG) lNG yNG zNG
  have B_NG := F_NG.binds (ps := ["self"]) fun _ _ _ _ _ _ us hl => match us, hl with | [_], _ => rfl
  have F_FG := fun_mk (st := sFG) lFG yFG zFG
  have B_FG := F_FG.binds (ps := ["self"]) fun _ _ _ _ _ _ us hl => match us, hl with | [_], _ => rfl
  have F_Mk := fun_mk (st := sMk) lMk yMk zMk
  have B_Mk := F_Mk.binds (ps := ["self"]) fun _ _ _ _ _ _ us hl => match us, hl with | [_], _ => rfl
  have A_integ := PySem.W.mg_of X G a_integ
  have A_name := PySem.W.mg_of X G a_name
  have A_tag := PySem.W.mg_of X G a_tag
  have A_sort := PySem.W.mg_of X G a_sort
  have A_eq := PySem.W.mg_of X G a_eq
  have A_rw := PySem.W.mg_of X G a_rw
  have A_unl := PySem.W.mg_of X G a_unl
  have A_ap := PySem.W.mg_of X G a_ap
  have A_gr := PySem.W.mg_of X G a_gr
  have A_gm := PySem.W.mg_of X G a_gm
  have A_well := PySem.W.mg_of X G a_well
  have A_draw := PySem.W.mg_of X G a_draw
  have A_one := PySem.W.mg_of X G a_one
  have A_ch := PySem.W.mg_of X G a_ch
  have A_tx := PySem.W.mg_of X G a_tx
  have A_bl := PySem.W.mg_of X G a_bl
  have A_ke := PySem.W.mg_of X G a_ke
  have A_md := PySem.W.mg_of X G a_md
  have A_law := PySem.W.mg_of X G a_law
  letI : KC := ⟨fun a xs => xs = [] ∧ ∃ (o : Obj) (n : Nat), K.lookup a = some o ∧ o.cls = .type "tuple" ∧ o.data = .seq #[] n⟩
  haveI : KcOk K := ⟨fun a xs ⟨e, o, n, h1, h2, h3⟩ => ⟨o, #[], n, h1, h2, h3, Nat.zero_le _, by rw [e]; exact .nil⟩⟩
  have T : Txt mg := ⟨B_isinstance, B_len, B_all, B_zip, B_tuple, B_dict, B_list, B_bool, B_int, B_str, ⟨_, PySem.W.mg_of X G gL⟩, ⟨_, PySem.W.mg_of X G gM⟩⟩
  have t0 : Txt0 mg := ⟨B_int, B_len⟩
  obtain ⟨L, hL⟩ : ∃ L : CL, L = ⟨CB, CR, CC, CM, CG⟩ := ⟨_, rfl⟩
  have D0 : CLok ⟨CB, CR, CC, CM, CG⟩ := ⟨neCRCB, neCCCB, neCCCR, neCMCB, neCMCR, neCMCC, neCGCB, neCGCR, neCGCC, neCGCM⟩
  clear hL L
  let L : CL := ⟨CB, CR, CC, CM, CG⟩
  have mem : ∀ C, C ∈ L.all → C ∈ [CB, CR, CC, CM, CG] := fun C h => h
  have bas : ∀ D, PySem.W.isClsIn K D = true → PySem.W.typeIn K (.ref D) = some (.type "type") → ∀ t ∈ ["NoneType", "bool", "int", "str", "tuple", "dict", "list"], PySem.W.kitOne K (.type t) (.ref D) = some false := fun D i1 i2 t ht => by
    simp only [List.mem_cons, List.not_mem_nil, or_false] at ht
    rcases ht with rfl | rfl | rfl | rfl | rfl | rfl | rfl <;> exact kit_tyC i1 i2 rfl
  have clB : Cls K CB := ⟨c1CB, c2CB, c3CB, c4CB⟩
  have cfB : CF K CB := ⟨clB, d1CB, d2, d3, d4CB, fun t ht => by
    simp only [ET.tys, List.mem_cons, List.not_mem_nil, or_false] at ht
    rcases ht with rfl | rfl | rfl | rfl | rfl | rfl
    · exact kit_CT (by decide +kernel) mCB_tuple
    · exact kit_CT (by decide +kernel) mCB_bool
    · exact kit_CT (by decide +kernel) mCB_int
    · exact kit_CT (by decide +kernel) mCB_dict
    · exact kit_CT (by decide +kernel) mCB_str
    · exact kit_CT (by decide +kernel) mCB_list⟩
  have nB : ∀ x ∈ flB, NoAttr K CB x := fun x hx => by
    simp only [flB, List.mem_cons, List.not_mem_nil, or_false] at hx
    rcases hx with rfl | rfl | rfl | rfl | rfl | rfl | rfl | rfl | rfl | rfl
    · exact na_CB_kind
    · exact na_CB_name
    · exact na_CB_attributes
    · exact na_CB_many
    · exact na_CB_after
    · exact na_CB_first
    · exact na_CB_never
    · exact na_CB_ignored
    · exact na_CB_replaced_by
    · exact na_CB_ahead
  have GCB := PySem.W.mg_of X G gCB
  have clR : Cls K CR := ⟨c1CR, c2CR, c3CR, c4CR⟩
  have cfR : CF K CR := ⟨clR, d1CR, d2, d3, d4CR, fun t ht => by
    simp only [ET.tys, List.mem_cons, List.not_mem_nil, or_false] at ht
    rcases ht with rfl | rfl | rfl | rfl | rfl | rfl
    · exact kit_CT (by decide +kernel) mCR_tuple
    · exact kit_CT (by decide +kernel) mCR_bool
    · exact kit_CT (by decide +kernel) mCR_int
    · exact kit_CT (by decide +kernel) mCR_dict
    · exact kit_CT (by decide +kernel) mCR_str
    · exact kit_CT (by decide +kernel) mCR_list⟩
  have nR : ∀ x ∈ flR, NoAttr K CR x := fun x hx => by
    simp only [flR, List.mem_cons, List.not_mem_nil, or_false] at hx
    rcases hx with rfl | rfl | rfl | rfl
    · exact na_CR_kind
    · exact na_CR_name
    · exact na_CR_question
    · exact na_CR_after
  have GCR := PySem.W.mg_of X G gCR
  have clC : Cls K CC := ⟨c1CC, c2CC, c3CC, c4CC⟩
  have cfC : CF K CC := ⟨clC, d1CC, d2, d3, d4CC, fun t ht => by
    simp only [ET.tys, List.mem_cons, List.not_mem_nil, or_false] at ht
    rcases ht with rfl | rfl | rfl | rfl | rfl | rfl
    · exact kit_CT (by decide +kernel) mCC_tuple
    · exact kit_CT (by decide +kernel) mCC_bool
    · exact kit_CT (by decide +kernel) mCC_int
    · exact kit_CT (by decide +kernel) mCC_dict
    · exact kit_CT (by decide +kernel) mCC_str
    · exact kit_CT (by decide +kernel) mCC_list⟩
  have nC : ∀ x ∈ flC, NoAttr K CC x := fun x hx => by
    simp only [flC, List.mem_cons, List.not_mem_nil, or_false] at hx
    rcases hx with rfl | rfl | rfl | rfl
    · exact na_CC_name
    · exact na_CC_config
    · exact na_CC_arguments
    · exact na_CC_after
  have GCC := PySem.W.mg_of X G gCC
  have clM : Cls K CM := ⟨c1CM, c2CM, c3CM, c4CM⟩
  have cfM : CF K CM := ⟨clM, d1CM, d2, d3, d4CM, fun t ht => by
    simp only [ET.tys, List.mem_cons, List.not_mem_nil, or_false] at ht
    rcases ht with rfl | rfl | rfl | rfl | rfl | rfl
    · exact kit_CT (by decide +kernel) mCM_tuple
    · exact kit_CT (by decide +kernel) mCM_bool
    · exact kit_CT (by decide +kernel) mCM_int
    · exact kit_CT (by decide +kernel) mCM_dict
    · exact kit_CT (by decide +kernel) mCM_str
    · exact kit_CT (by decide +kernel) mCM_list⟩
  have nM : ∀ x ∈ flM, NoAttr K CM x := fun x hx => by
    simp only [flM, List.mem_cons, List.not_mem_nil, or_false] at hx
    rcases hx with rfl | rfl
    · exact na_CM_old
    · exact na_CM_new
  have GCM := PySem.W.mg_of X G gCM
  have clG : Cls K CG := ⟨c1CG, c2CG, c3CG, c4CG⟩
  have cfG : CF K CG := ⟨clG, d1CG, d2, d3, d4CG, fun t ht => by
    simp only [ET.tys, List.mem_cons, List.not_mem_nil, or_false] at ht
    rcases ht with rfl | rfl | rfl | rfl | rfl | rfl
    · exact kit_CT (by decide +kernel) mCG_tuple
    · exact kit_CT (by decide +kernel) mCG_bool
    · exact kit_CT (by decide +kernel) mCG_int
    · exact kit_CT (by decide +kernel) mCG_dict
    · exact kit_CT (by decide +kernel) mCG_str
    · exact kit_CT (by decide +kernel) mCG_list⟩
  have nG : ∀ x ∈ flG, NoAttr K CG x := fun x hx => by
    simp only [flG, List.mem_cons, List.not_mem_nil, or_false] at hx
    rcases hx with rfl | rfl | rfl | rfl | rfl | rfl
    · exact na_CG_params
    · exact na_CG_blocks
    · exact na_CG_readings
    · exact na_CG_calls
    · exact na_CG_outputs
    · exact na_CG_moves
  have GCG := PySem.W.mg_of X G gCG
  have hC : ∀ C ∈ L.all, CF K C := fun C h => by
    have h := mem C h
    rcases List.mem_cons.mp h with rfl | h
    · exact cfB
    rcases List.mem_cons.mp h with rfl | h
    · exact cfR
    rcases List.mem_cons.mp h with rfl | h
    · exact cfC
    rcases List.mem_cons.mp h with rfl | h
    · exact cfM
    rcases List.mem_cons.mp h with rfl | h
    · exact cfG
    cases h
  have hnT : ∀ C ∈ L.all, ∀ t ∈ ["NoneType", "bool", "int", "str", "tuple", "dict", "list"], PySem.W.notFirst K C (.type t) = true := fun C _ t ht => by
    unfold PySem.W.notFirst
    simp only [List.mem_cons, List.not_mem_nil, or_false] at ht
    rcases ht with rfl | rfl | rfl | rfl | rfl | rfl | rfl <;> exact Bool.or_eq_true_iff.mpr (.inr (beq_iff_eq.mpr rfl))
  have hnC : ∀ C ∈ L.all, ∀ D ∈ L.all, PySem.W.notFirst K C (.ref D) = true := fun C h D h' => by
    have h := mem C h
    have h' := mem D h'
    unfold PySem.W.notFirst
    rcases List.mem_cons.mp h with rfl | h
    · rcases List.mem_cons.mp h' with rfl | h'
      · rw [beq_self_eq_true]
        rfl
      rcases List.mem_cons.mp h' with rfl | h'
      · exact Bool.or_eq_true_iff.mpr (.inr (beq_iff_eq.mpr sCRCB))
      rcases List.mem_cons.mp h' with rfl | h'
      · exact Bool.or_eq_true_iff.mpr (.inr (beq_iff_eq.mpr sCCCB))
      rcases List.mem_cons.mp h' with rfl | h'
      · exact Bool.or_eq_true_iff.mpr (.inr (beq_iff_eq.mpr sCMCB))
      rcases List.mem_cons.mp h' with rfl | h'
      · exact Bool.or_eq_true_iff.mpr (.inr (beq_iff_eq.mpr sCGCB))
      cases h'
    rcases List.mem_cons.mp h with rfl | h
    · rcases List.mem_cons.mp h' with rfl | h'
      · exact Bool.or_eq_true_iff.mpr (.inr (beq_iff_eq.mpr sCBCR))
      rcases List.mem_cons.mp h' with rfl | h'
      · rw [beq_self_eq_true]
        rfl
      rcases List.mem_cons.mp h' with rfl | h'
      · exact Bool.or_eq_true_iff.mpr (.inr (beq_iff_eq.mpr sCCCR))
      rcases List.mem_cons.mp h' with rfl | h'
      · exact Bool.or_eq_true_iff.mpr (.inr (beq_iff_eq.mpr sCMCR))
      rcases List.mem_cons.mp h' with rfl | h'
      · exact Bool.or_eq_true_iff.mpr (.inr (beq_iff_eq.mpr sCGCR))
      cases h'
    rcases List.mem_cons.mp h with rfl | h
    · rcases List.mem_cons.mp h' with rfl | h'
      · exact Bool.or_eq_true_iff.mpr (.inr (beq_iff_eq.mpr sCBCC))
      rcases List.mem_cons.mp h' with rfl | h'
      · exact Bool.or_eq_true_iff.mpr (.inr (beq_iff_eq.mpr sCRCC))
      rcases List.mem_cons.mp h' with rfl | h'
      · rw [beq_self_eq_true]
        rfl
      rcases List.mem_cons.mp h' with rfl | h'
      · exact Bool.or_eq_true_iff.mpr (.inr (beq_iff_eq.mpr sCMCC))
      rcases List.mem_cons.mp h' with rfl | h'
      · exact Bool.or_eq_true_iff.mpr (.inr (beq_iff_eq.mpr sCGCC))
      cases h'
    rcases List.mem_cons.mp h with rfl | h
    · rcases List.mem_cons.mp h' with rfl | h'
      · exact Bool.or_eq_true_iff.mpr (.inr (beq_iff_eq.mpr sCBCM))
      rcases List.mem_cons.mp h' with rfl | h'
      · exact Bool.or_eq_true_iff.mpr (.inr (beq_iff_eq.mpr sCRCM))
      rcases List.mem_cons.mp h' with rfl | h'
      · exact Bool.or_eq_true_iff.mpr (.inr (beq_iff_eq.mpr sCCCM))
      rcases List.mem_cons.mp h' with rfl | h'
      · rw [beq_self_eq_true]
        rfl
      rcases List.mem_cons.mp h' with rfl | h'
      · exact Bool.or_eq_true_iff.mpr (.inr (beq_iff_eq.mpr sCGCM))
      cases h'
    rcases List.mem_cons.mp h with rfl | h
    · rcases List.mem_cons.mp h' with rfl | h'
      · exact Bool.or_eq_true_iff.mpr (.inr (beq_iff_eq.mpr sCBCG))
      rcases List.mem_cons.mp h' with rfl | h'
      · exact Bool.or_eq_true_iff.mpr (.inr (beq_iff_eq.mpr sCRCG))
      rcases List.mem_cons.mp h' with rfl | h'
      · exact Bool.or_eq_true_iff.mpr (.inr (beq_iff_eq.mpr sCCCG))
      rcases List.mem_cons.mp h' with rfl | h'
      · exact Bool.or_eq_true_iff.mpr (.inr (beq_iff_eq.mpr sCMCG))
      rcases List.mem_cons.mp h' with rfl | h'
      · rw [beq_self_eq_true]
        rfl
      cases h'
    cases h
  have oV : ∀ C ∈ L.all, PySem.W.kitOne K (.ref C) (.ref CV) = some ((fun _ => true) C) := fun C h => by
    have h := mem C h
    rcases List.mem_cons.mp h with rfl | h
    · exact kit_CC neVCB i1CV i2CV oVCB
    rcases List.mem_cons.mp h with rfl | h
    · exact kit_CC neVCR i1CV i2CV oVCR
    rcases List.mem_cons.mp h with rfl | h
    · exact kit_CC neVCC i1CV i2CV oVCC
    rcases List.mem_cons.mp h with rfl | h
    · exact kit_CC neVCM i1CV i2CV oVCM
    rcases List.mem_cons.mp h with rfl | h
    · exact kit_CC neVCG i1CV i2CV oVCG
    cases h
  have oU : ∀ C ∈ L.all, PySem.W.kitOne K (.ref C) (.ref CU) = some ((fun _ => false) C) := fun C h => by
    have h := mem C h
    rcases List.mem_cons.mp h with rfl | h
    · exact kit_CC neUCB i1CU i2CU oUCB
    rcases List.mem_cons.mp h with rfl | h
    · exact kit_CC neUCR i1CU i2CU oUCR
    rcases List.mem_cons.mp h with rfl | h
    · exact kit_CC neUCC i1CU i2CU oUCC
    rcases List.mem_cons.mp h with rfl | h
    · exact kit_CC neUCM i1CU i2CU oUCM
    rcases List.mem_cons.mp h with rfl | h
    · exact kit_CC neUCG i1CU i2CU oUCG
    cases h
  have own_CB : ∀ C ∈ L.all, PySem.W.kitOne K (.ref C) (.ref CB) = some (decide (C = CB)) := fun C h => by
    have h := mem C h
    rcases List.mem_cons.mp h with rfl | h
    · exact isC_me
    rcases List.mem_cons.mp h with rfl | h
    · exact isC_own neCRCB (kit_CC neCRCB i1CB i2CB oCRCB)
    rcases List.mem_cons.mp h with rfl | h
    · exact isC_own neCCCB (kit_CC neCCCB i1CB i2CB oCCCB)
    rcases List.mem_cons.mp h with rfl | h
    · exact isC_own neCMCB (kit_CC neCMCB i1CB i2CB oCMCB)
    rcases List.mem_cons.mp h with rfl | h
    · exact isC_own neCGCB (kit_CC neCGCB i1CB i2CB oCGCB)
    cases h
  have isCB : IsC K L CB (fun C => decide (C = CB)) := ⟨own_CB, bas CB i1CB i2CB, fun _ => rfl⟩
  have own_CR : ∀ C ∈ L.all, PySem.W.kitOne K (.ref C) (.ref CR) = some (decide (C = CR)) := fun C h => by
    have h := mem C h
    rcases List.mem_cons.mp h with rfl | h
    · exact isC_own neCBCR (kit_CC neCBCR i1CR i2CR oCBCR)
    rcases List.mem_cons.mp h with rfl | h
    · exact isC_me
    rcases List.mem_cons.mp h with rfl | h
    · exact isC_own neCCCR (kit_CC neCCCR i1CR i2CR oCCCR)
    rcases List.mem_cons.mp h with rfl | h
    · exact isC_own neCMCR (kit_CC neCMCR i1CR i2CR oCMCR)
    rcases List.mem_cons.mp h with rfl | h
    · exact isC_own neCGCR (kit_CC neCGCR i1CR i2CR oCGCR)
    cases h
  have isCR : IsC K L CR (fun C => decide (C = CR)) := ⟨own_CR, bas CR i1CR i2CR, fun _ => rfl⟩
  have own_CC : ∀ C ∈ L.all, PySem.W.kitOne K (.ref C) (.ref CC) = some (decide (C = CC)) := fun C h => by
    have h := mem C h
    rcases List.mem_cons.mp h with rfl | h
    · exact isC_own neCBCC (kit_CC neCBCC i1CC i2CC oCBCC)
    rcases List.mem_cons.mp h with rfl | h
    · exact isC_own neCRCC (kit_CC neCRCC i1CC i2CC oCRCC)
    rcases List.mem_cons.mp h with rfl | h
    · exact isC_me
    rcases List.mem_cons.mp h with rfl | h
    · exact isC_own neCMCC (kit_CC neCMCC i1CC i2CC oCMCC)
    rcases List.mem_cons.mp h with rfl | h
    · exact isC_own neCGCC (kit_CC neCGCC i1CC i2CC oCGCC)
    cases h
  have isCC : IsC K L CC (fun C => decide (C = CC)) := ⟨own_CC, bas CC i1CC i2CC, fun _ => rfl⟩
  have own_CG : ∀ C ∈ L.all, PySem.W.kitOne K (.ref C) (.ref CG) = some (decide (C = CG)) := fun C h => by
    have h := mem C h
    rcases List.mem_cons.mp h with rfl | h
    · exact isC_own neCBCG (kit_CC neCBCG i1CG i2CG oCBCG)
    rcases List.mem_cons.mp h with rfl | h
    · exact isC_own neCRCG (kit_CC neCRCG i1CG i2CG oCRCG)
    rcases List.mem_cons.mp h with rfl | h
    · exact isC_own neCCCG (kit_CC neCCCG i1CG i2CG oCCCG)
    rcases List.mem_cons.mp h with rfl | h
    · exact isC_own neCMCG (kit_CC neCMCG i1CG i2CG oCMCG)
    rcases List.mem_cons.mp h with rfl | h
    · exact isC_me
    cases h
  have isCG : IsC K L CG (fun C => decide (C = CG)) := ⟨own_CG, bas CG i1CG i2CG, fun _ => rfl⟩
  have eVE : ∀ C ∈ L.all, PySem.W.findIn K (.ref C) "__eq__" = some (some (.ref fVE)) := fun C h => by
    have h := mem C h
    rcases List.mem_cons.mp h with rfl | h
    · exact m_VE
    rcases List.mem_cons.mp h with rfl | h
    · exact m_VECR
    rcases List.mem_cons.mp h with rfl | h
    · exact m_VECC
    rcases List.mem_cons.mp h with rfl | h
    · exact m_VECM
    rcases List.mem_cons.mp h with rfl | h
    · exact m_VECG
    cases h
  have hV : ∀ C ∈ L.all, PySem.W.findIn K (.ref C) "__eq__" = some (some (.ref fVE)) ∧ PySem.W.findIn K (.ref C) "__ne__" = some (some (.builtin "object.__ne__")) ∧ PySem.W.subIn K (.ref C) (.type "object") = some true := fun C h => by
    have h := mem C h
    rcases List.mem_cons.mp h with rfl | h
    · exact ⟨m_VE, nVECB, sVECB⟩
    rcases List.mem_cons.mp h with rfl | h
    · exact ⟨m_VECR, nVECR, sVECR⟩
    rcases List.mem_cons.mp h with rfl | h
    · exact ⟨m_VECC, nVECC, sVECC⟩
    rcases List.mem_cons.mp h with rfl | h
    · exact ⟨m_VECM, nVECM, sVECM⟩
    rcases List.mem_cons.mp h with rfl | h
    · exact ⟨m_VECG, nVECG, sVECG⟩
    cases h
  have GV := PySem.W.mg_of X G gVa
  have GU := PySem.W.mg_of X G gUn
  refine ⟨PySem.W.fnOf "law" "law" (defArgs sLaw) (defBody sLaw) (defScope sLaw) .none kVlaw dclaw pmlaw anlaw cdlaw ctlaw, fun s v => .of_eq rfl, fun base _ _ => ?_⟩
  have oI : FnOk l.prog w K mg base CX0 1 finteg _ ["thing"] _ := ok_int F_integ T hC
  have oN : FnOk l.prog w K mg base CX0 1 fname _ ["thing"] _ := ok_name F_name T hC
  have oT : FnOk l.prog w K mg base CX0 2 ftag _ ["thing"] _ := ok_tag F_tag T hC oN A_name zname B_name oI A_integ zinteg B_integ
  have oS : FnOk l.prog w K mg base CX0 3 fsort _ ["value"] _ := ok_sort F_sort T hC oT A_tag ztag B_tag
  have oMk : FnOk l.prog w K mg base CX0 1 fMk _ ["self"] (spP (mkF L)) := ok_Mk F_Mk clB nB
  have oNB : FnOk l.prog w K mg base CX0 1 fNB _ ["self"] (spP (cnF L CB)) := ok_NB F_NB (nmB_ D0)
  have oFB : FnOk l.prog w K mg base CX0 2 fFB _ ["self"] (spP (fiF L CB)) := ok_FB F_FB (flB_ D0) clB nB ⟨m_Mk, j_Mk, zMk⟩ oMk B_Mk
  have klB : Kl l.prog w K mg base L CB := ⟨clB, ⟨_, _, ⟨m_NB, j_NB, zNB⟩, B_NB, oNB⟩, ⟨_, _, ⟨m_FB, j_FB, zFB⟩, B_FB, oFB⟩⟩
  have oNR : FnOk l.prog w K mg base CX0 1 fNR _ ["self"] (spP (cnF L CR)) := ok_NR F_NR (nmR_ D0)
  have oFR : FnOk l.prog w K mg base CX0 2 fFR _ ["self"] (spP (fiF L CR)) := ok_FR F_FR (flR_ D0) clR nR
  have klR : Kl l.prog w K mg base L CR := ⟨clR, ⟨_, _, ⟨m_NR, j_NR, zNR⟩, B_NR, oNR⟩, ⟨_, _, ⟨m_FR, j_FR, zFR⟩, B_FR, oFR⟩⟩
  have oNC : FnOk l.prog w K mg base CX0 1 fNC _ ["self"] (spP (cnF L CC)) := ok_NC F_NC (nmC_ D0)
  have oFC : FnOk l.prog w K mg base CX0 2 fFC _ ["self"] (spP (fiF L CC)) := ok_FC F_FC (flC_ D0) clC nC
  have klC : Kl l.prog w K mg base L CC := ⟨clC, ⟨_, _, ⟨m_NC, j_NC, zNC⟩, B_NC, oNC⟩, ⟨_, _, ⟨m_FC, j_FC, zFC⟩, B_FC, oFC⟩⟩
  have oNM : FnOk l.prog w K mg base CX0 1 fNM _ ["self"] (spP (cnF L CM)) := ok_NM F_NM (nmM_ D0)
  have oFM : FnOk l.prog w K mg base CX0 2 fFM _ ["self"] (spP (fiF L CM)) := ok_FM F_FM (flM_ D0) clM nM
  have klM : Kl l.prog w K mg base L CM := ⟨clM, ⟨_, _, ⟨m_NM, j_NM, zNM⟩, B_NM, oNM⟩, ⟨_, _, ⟨m_FM, j_FM, zFM⟩, B_FM, oFM⟩⟩
  have oNG : FnOk l.prog w K mg base CX0 1 fNG _ ["self"] (spP (cnF L CG)) := ok_NG F_NG (nmG_ D0)
  have oFG : FnOk l.prog w K mg base CX0 2 fFG _ ["self"] (spP (fiF L CG)) := ok_FG F_FG (flG_ D0) clG nG
  have klG : Kl l.prog w K mg base L CG := ⟨clG, ⟨_, _, ⟨m_NG, j_NG, zNG⟩, B_NG, oNG⟩, ⟨_, _, ⟨m_FG, j_FG, zFG⟩, B_FG, oFG⟩⟩
  have kl : ∀ C ∈ L.all, Kl l.prog w K mg base L C := fun C h => by
    have h := mem C h
    rcases List.mem_cons.mp h with rfl | h
    · exact klB
    rcases List.mem_cons.mp h with rfl | h
    · exact klR
    rcases List.mem_cons.mp h with rfl | h
    · exact klC
    rcases List.mem_cons.mp h with rfl | h
    · exact klM
    rcases List.mem_cons.mp h with rfl | h
    · exact klG
    cases h
  have oE : ∀ n, FnOk l.prog w K mg base CX0 (3 + 2 * n) feq (PySem.W.fnOf "are_equal" "are_equal" (defArgs sEq) (defBody sEq) (defScope sEq) .none kVeq dceq pmeq aneq cdeq cteq) ["one", "other"] (spP (eqGF L n)) ∧ FnOk l.prog w K mg base CX0 (3 + 2 * n + 1) fVE (PySem.W.fnOf "__eq__" "Valued.__eq__" (defArgs sVEq) (defBody sVEq) (defScope sVEq) .none kVVE dcVE pmVE anVE cdVE ctVE) ["self", "other"] (spP (veqG L n)) := fun n => by
    have ve : ∀ n, FnOk l.prog w K mg base CX0 (3 + 2 * n) feq (PySem.W.fnOf "are_equal" "are_equal" (defArgs sEq) (defBody sEq) (defScope sEq) .none kVeq dceq pmeq aneq cdeq cteq) ["one", "other"] (spP (eqGF L n)) → FnOk l.prog w K mg base CX0 (3 + 2 * n + 1) fVE (PySem.W.fnOf "__eq__" "Valued.__eq__" (defArgs sVEq) (defBody sVEq) (defScope sVEq) .none kVVE dcVE pmVE anVE cdVE ctVE) ["self", "other"] (spP (veqG L n)) := fun n g => ok_VEq (sbV := fun _ => true) F_VE T hC rfl (fun _ _ => rfl) GV oV (bas CV i1CV i2CV) (by omega) g A_eq zeq B_eq kl
    induction n with
    | zero => exact ⟨eqG0, ve 0 eqG0⟩
    | succ n ih =>
      have g : FnOk l.prog w K mg base CX0 (3 + 2 * n + 2) feq (PySem.W.fnOf "are_equal" "are_equal" (defArgs sEq) (defBody sEq) (defScope sEq) .none kVeq dceq pmeq aneq cdeq cteq) ["one", "other"] (spP (eqGF L (n + 1))) := ok_eq (sbV := fun _ => true) (sbU := fun _ => false) F_eq T hC GV GU oV (bas CV i1CV i2CV) oU (bas CU i1CU i2CU) oS A_sort zsort B_sort (Nat.le_add_right 3 _) rfl hnT hnC (fun _ _ => rfl) eVE j_VE B_VE ih.2 A_eq B_eq ih.1
      exact ⟨g, ve (n + 1) g⟩
  have oVE : FnOk l.prog w K mg base CX0 16 fVE _ ["self", "other"] (spP (veqG L 6)) := (oE 6).2
  have oTx : ∀ n, FnOk l.prog w K mg base CX0 n ftx _ ["_law_thing"] (spP (txF L.CG n)) := fun n => by
    induction n with
    | zero => exact tx0
    | succ n ih => exact ok_tx (L := L) (sbG := fun C => decide (C = CG)) (tG := none) F_tx T hC rfl B_repr B_sorted GCG isCG.own isCG.bas (decide_eq_true rfl) A_tx ztx B_tx ih
  have oKe : FnOk l.prog w K mg base CX0 8 fke _ ["_law_one_here", "_law_some"] (spP (keF L 7)) := ok_ke (L := L) F_ke T hC D0 isCB isCR isCC GCB GCR GCC clB clR clC clM nB nR nC nM A_tx ztx B_tx (oTx 7)
  have FIB : FunD K "__init__" "Block.__init__" (defArgs sIB) (defBody sIB) (defScope sIB) [] [] fIB _ := ⟨⟨_, _, _, _, _, _, _, _, _, _, rfl, lIB, yIB, .inl ⟨rfl, rfl⟩, .inl rfl⟩, zIB⟩
  have oIB : FnOk l.prog w K mg base CX0 1 fIB _ ["self", "kind", "name", "attributes", "many", "after", "first", "never", "ignored", "replaced_by", "ahead"] (spInit CB flB) := ok_IB FIB clB nB
  have MB : Mk K CB fIB := ⟨mkCB, m_IB, j_IB, kpCB⟩
  have FIR : FunD K "__init__" "Reading.__init__" (defArgs sIR) (defBody sIR) (defScope sIR) [] [] fIR _ := ⟨⟨_, _, _, _, _, _, _, _, _, _, rfl, lIR, yIR, .inl ⟨rfl, rfl⟩, .inl rfl⟩, zIR⟩
  have oIR : FnOk l.prog w K mg base CX0 1 fIR _ ["self", "kind", "name", "question", "after"] (spInit CR flR) := ok_IR FIR clR nR
  have MR : Mk K CR fIR := ⟨mkCR, m_IR, j_IR, kpCR⟩
  have FIC : FunD K "__init__" "Call.__init__" (defArgs sIC) (defBody sIC) (defScope sIC) [] [] fIC _ := ⟨⟨_, _, _, _, _, _, _, _, _, _, rfl, lIC, yIC, .inl ⟨rfl, rfl⟩, .inl rfl⟩, zIC⟩
  have oIC : FnOk l.prog w K mg base CX0 1 fIC _ ["self", "name", "config", "arguments", "after"] (spInit CC flC) := ok_IC FIC clC nC
  have MC : Mk K CC fIC := ⟨mkCC, m_IC, j_IC, kpCC⟩
  have FIM : FunD K "__init__" "Move.__init__" (defArgs sIM) (defBody sIM) (defScope sIM) [] [] fIM _ := ⟨⟨_, _, _, _, _, _, _, _, _, _, rfl, lIM, yIM, .inl ⟨rfl, rfl⟩, .inl rfl⟩, zIM⟩
  have oIM : FnOk l.prog w K mg base CX0 1 fIM _ ["self", "old", "new"] (spInit CM flM) := ok_IM FIM clM nM
  have MM : Mk K CM fIM := ⟨mkCM, m_IM, j_IM, kpCM⟩
  have hbB : KBn K (PySem.W.fnOf "__init__" "Block.__init__" (defArgs sIB) (defBody sIB) (defScope sIB) .none kVIB dcIB pmIB anIB cdIB ctIB) ["self", "kind", "name", "attributes", "many", "after", "first", "never", "ignored", "replaced_by", "ahead"] 4 ["many", "after", "first", "never", "ignored", "replaced_by", "ahead"] (fun us ws => us ++ ws) (fun vs zs => vs ++ zs) := ⟨fun s us ws _ l1 l2 => match us, ws, l1, l2 with | [_, _, _, _], [_, _, _, _, _, _, _], _, _ => .of_eq rfl, fun r1 r2 => r1.append r2⟩
  have hbR : KBn K (PySem.W.fnOf "__init__" "Reading.__init__" (defArgs sIR) (defBody sIR) (defScope sIR) .none kVIR dcIR pmIR anIR cdIR ctIR) ["self", "kind", "name", "question", "after"] 4 ["after"] (fun us ws => us ++ ws) (fun vs zs => vs ++ zs) := ⟨fun s us ws _ l1 l2 => match us, ws, l1, l2 with | [_, _, _, _], [_], _, _ => .of_eq rfl, fun r1 r2 => r1.append r2⟩
  have hbC : KBn K (PySem.W.fnOf "__init__" "Call.__init__" (defArgs sIC) (defBody sIC) (defScope sIC) .none kVIC dcIC pmIC anIC cdIC ctIC) ["self", "name", "config", "arguments", "after"] 4 ["after"] (fun us ws => us ++ ws) (fun vs zs => vs ++ zs) := ⟨fun s us ws _ l1 l2 => match us, ws, l1, l2 with | [_, _, _, _], [_], _, _ => .of_eq rfl, fun r1 r2 => r1.append r2⟩
  have hbM : Binds K _ ["self", "old", "new"] [] := FIM.bindsN fun _ _ _ _ _ _ us hl => match us, hl with | [_, _, _], _ => rfl
  have oBl : FnOk l.prog w K mg base CX0 3 fbl _ ["_law_p"] (spP (blF L)) := ok_bl (L := L) F_bl MB GCB oIB hbB
  have oMd : FnOk l.prog w K mg base CX0 4 fmd _ ["_law_way", "_law_p"] (spP (mdF L)) := ok_md (L := L) F_md A_bl zbl B_bl oBl MR GCR oIR hbR MC GCC oIC hbC MM GCM oIM hbM
  have FIG : FunD K "__init__" "Config.__init__" (defArgs sIG) (defBody sIG) (defScope sIG) [] [("params", V.ref e_params), ("blocks", V.ref e_blocks), ("readings", V.ref e_readings), ("calls", V.ref e_calls), ("outputs", V.ref e_outputs), ("moves", V.ref e_moves)] fIG _ := ⟨⟨_, _, _, _, _, _, _, _, _, _, rfl, lIG, yIG, .inl ⟨rfl, rfl⟩, .inr ⟨DG, rfl, (allk ⟨_, q_params, rfl⟩ (allk ⟨_, q_blocks, rfl⟩ (allk ⟨_, q_readings, rfl⟩ (allk ⟨_, q_calls, rfl⟩ (allk ⟨_, q_outputs, rfl⟩ (allk ⟨_, q_moves, rfl⟩ allkn))))))⟩⟩, zIG⟩
  have oRw : FnOk l.prog w K mg base CX0 1 frw _ ["things", "is_good"] spRows := ok_rw F_rw T hC
  have oUn : FnOk l.prog w K mg base CX0 1 funl _ ["things"] (spP unlF0) := ok_un F_unl T hC
  have oAp : FnOk l.prog w K mg base CX0 1 fap _ ["places"] _ := ok_ap B_any F_ap T hC
  have oGr : FnOk l.prog w K mg base CX0 1 fgr _ ["moves"] _ := ok_gr F_gr T hC
  have oGm : FnOk l.prog w K mg base CX0 2 fgm _ ["moves", "blocks"] _ := ok_gm B_any F_gm T hC oUn A_unl zunl B_unl oAp A_ap zap B_ap oGr A_gr zgr B_gr
  have oIG : FnOk l.prog w K mg base CX0 3 fIG _ ["self", "params", "blocks", "readings", "calls", "outputs", "moves"] (spG CG) := ok_IG FIG T hC clG nG (PySem.W.mg_of X G gis_param) (PySem.W.mg_of X G gis_block) (PySem.W.mg_of X G gis_reading) (PySem.W.mg_of X G gis_call) (PySem.W.mg_of X G gis_output) (PySem.W.mg_of X G gis_move) oRw A_rw zrw B_rw oUn A_unl zunl B_unl oGm A_gm zgm B_gm
  obtain ⟨vds, rds, bds⟩ := FIG.binds0 (ps := ["self", "params", "blocks", "readings", "calls", "outputs", "moves"]) 1 (fun z => by cases z) rfl fun D doc pm an cdv ct us ks h1 h2 => match us, ks, h1, h2 with | [_], [_, _, _, _, _, _], _, _ => ⟨_, _, _, _, _, _, rfl, rfl, _, _, _, _, _, _, rfl, rfl, _, _, _, _, _, _, rfl, rfl, _, _, _, _, _, _, rfl, rfl, _, _, _, _, _, _, rfl, rfl, _, _, _, _, _, _, rfl, rfl, rfl⟩
  have MG : Mk K CG fIG := ⟨mkCG, m_IG, j_IG, kpCG⟩
  have hdv' : ∀ H : Hp, RpL H [V.ref e_params, V.ref e_blocks, V.ref e_readings, V.ref e_calls, V.ref e_outputs, V.ref e_moves] [.tup [], .tup [], .tup [], .tup [], .tup [], .tup []] := fun H => (.cons (rp_nil ⟨rfl, _, _, le_params, rfl, rfl⟩) (.cons (rp_nil ⟨rfl, _, _, le_blocks, rfl, rfl⟩) (.cons (rp_nil ⟨rfl, _, _, le_readings, rfl, rfl⟩) (.cons (rp_nil ⟨rfl, _, _, le_calls, rfl, rfl⟩) (.cons (rp_nil ⟨rfl, _, _, le_outputs, rfl, rfl⟩) (.cons (rp_nil ⟨rfl, _, _, le_moves, rfl, rfl⟩) .nil))))))
  have oW : FnOk l.prog w K mg base CX0 1 fwell _ ["_law_cell"] _ := ok_well F_well t0
  have oD : FnOk l.prog w K mg base CX0 1 fdraw _ ["_law_well_here", "_law_below"] (spN 1 drawN) := draw_nd (ok_draw F_draw t0)
  have oO : FnOk l.prog w K mg base CX0 2 fone _ ["_law_well_here", "_law_some"] (spN 1 oneN) := one_nd (ok_one F_one t0 F_draw A_draw B_draw)
  have oCh : FnOk l.prog w K mg base CX0 5 fch _ ["_law_well_here", "_law_some"] (spN 10 (chN L)) := ok_ch (L := L) F_ch T oD A_draw zdraw B_draw oO A_one zone B_one MG GCG oIG bds rds hdv'
  exact ok_law (L := L) F_law B_range hC D0 hnT hnC oW A_well zwell B_well oD A_draw zdraw B_draw oO A_one zone B_one oCh A_ch zch B_ch oMd A_md zmd B_md oKe A_ke zke B_ke (oTx 7) A_tx ztx B_tx oVE hV j_VE B_VE MG GCG oIG bds rds hdv'
end K15
open PySem PySem.W PyProof.Rows
set_option maxRecDepth 100000 in
set_option maxHeartbeats 0 in
theorem PySem.Challenge.cw_planfirst_k15_parts_that_are_equal_holds : PySem.Challenge.rw_planfirst_k15_parts_that_are_equal.Holds := by
  w_on; o_law; k_head; (case hw => w_witness2)
  k_fill
  refine K15.walk (l := PySem.Challenge.rw_planfirst_k15_parts_that_are_equal) rfl rfl (fun w h Y => PySem.W.kIn_of Y) ?F
  case F =>
    intro w mg fa h KX G hmg
    refine' K15.all_mk KX G hmg ?gL ?gM ?b_isinstance ?b_len ?b_all ?b_any ?b_zip ?b_tuple ?b_dict ?b_list ?b_bool ?b_int ?b_str ?b_range ?b_repr ?b_sorted ?gCB ?gCR ?gCC ?gCM ?gCG ?gVa ?gUn ?d2 ?d3 ?c1CB ?c2CB ?c3CB ?c4CB ?d1CB ?d4CB ?mCB_tuple ?mCB_bool ?mCB_int ?mCB_dict ?mCB_str ?mCB_list ?oVCB ?oUCB ?neVCB ?neUCB ?na_CB_kind ?na_CB_name ?na_CB_attributes ?na_CB_many ?na_CB_after ?na_CB_first ?na_CB_never ?na_CB_ignored ?na_CB_replaced_by ?na_CB_ahead ?mkCB ?kpCB ?nVECB ?sVECB ?neCBCR ?sCBCR ?oCBCR ?neCBCC ?sCBCC ?oCBCC ?neCBCM ?sCBCM ?neCBCG ?sCBCG ?oCBCG ?c1CR ?c2CR ?c3CR ?c4CR ?d1CR ?d4CR ?mCR_tuple ?mCR_bool ?mCR_int ?mCR_dict ?mCR_str ?mCR_list ?oVCR ?oUCR ?neVCR ?neUCR ?na_CR_kind ?na_CR_name ?na_CR_question ?na_CR_after ?mkCR ?kpCR ?nVECR ?sVECR ?neCRCB ?sCRCB ?oCRCB ?neCRCC ?sCRCC ?oCRCC ?neCRCM ?sCRCM ?neCRCG ?sCRCG ?oCRCG ?c1CC ?c2CC ?c3CC ?c4CC ?d1CC ?d4CC ?mCC_tuple ?mCC_bool ?mCC_int ?mCC_dict ?mCC_str ?mCC_list ?oVCC ?oUCC ?neVCC ?neUCC ?na_CC_name ?na_CC_config ?na_CC_arguments ?na_CC_after ?mkCC ?kpCC ?nVECC ?sVECC ?neCCCB ?sCCCB ?oCCCB ?neCCCR ?sCCCR ?oCCCR ?neCCCM ?sCCCM ?neCCCG ?sCCCG ?oCCCG ?c1CM ?c2CM ?c3CM ?c4CM ?d1CM ?d4CM ?mCM_tuple ?mCM_bool ?mCM_int ?mCM_dict ?mCM_str ?mCM_list ?oVCM ?oUCM ?neVCM ?neUCM ?na_CM_old ?na_CM_new ?mkCM ?kpCM ?nVECM ?sVECM ?neCMCB ?sCMCB ?oCMCB ?neCMCR ?sCMCR ?oCMCR ?neCMCC ?sCMCC ?oCMCC ?neCMCG ?sCMCG ?oCMCG ?c1CG ?c2CG ?c3CG ?c4CG ?d1CG ?d4CG ?mCG_tuple ?mCG_bool ?mCG_int ?mCG_dict ?mCG_str ?mCG_list ?oVCG ?oUCG ?neVCG ?neUCG ?na_CG_params ?na_CG_blocks ?na_CG_readings ?na_CG_calls ?na_CG_outputs ?na_CG_moves ?mkCG ?kpCG ?nVECG ?sVECG ?neCGCB ?sCGCB ?oCGCB ?neCGCR ?sCGCR ?oCGCR ?neCGCC ?sCGCC ?oCGCC ?neCGCM ?sCGCM ?i1CV ?i2CV ?i1CU ?i2CU ?i1CB ?i2CB ?i1CR ?i2CR ?i1CC ?i2CC ?i1CG ?i2CG ?a_integ ?linteg ?yinteg ?zinteg ?a_name ?lname ?yname ?zname ?a_tag ?ltag ?ytag ?ztag ?a_sort ?lsort ?ysort ?zsort ?a_eq ?leq ?yeq ?zeq ?a_rw ?lrw ?yrw ?zrw ?a_unl ?lunl ?yunl ?zunl ?a_ap ?lap ?yap ?zap ?a_gr ?lgr ?ygr ?zgr ?a_gm ?lgm ?ygm ?zgm ?a_well ?lwell ?ywell ?zwell ?a_draw ?ldraw ?ydraw ?zdraw ?a_one ?lone ?yone ?zone ?a_ch ?lch ?ych ?zch ?a_tx ?ltx ?ytx ?ztx ?a_bl ?lbl ?ybl ?zbl ?a_ke ?lke ?yke ?zke ?a_md ?lmd ?ymd ?zmd ?a_law ?llaw ?ylaw ?zlaw ?gis_param ?gis_block ?gis_reading ?gis_call ?gis_output ?gis_move ?m_VE ?j_VE ?lVE ?yVE ?zVE ?m_NB ?j_NB ?lNB ?yNB ?zNB ?m_FB ?j_FB ?lFB ?yFB ?zFB ?m_VECR ?m_NR ?j_NR ?lNR ?yNR ?zNR ?m_FR ?j_FR ?lFR ?yFR ?zFR ?m_VECC ?m_NC ?j_NC ?lNC ?yNC ?zNC ?m_FC ?j_FC ?lFC ?yFC ?zFC ?m_VECM ?m_NM ?j_NM ?lNM ?yNM ?zNM ?m_FM ?j_FM ?lFM ?yFM ?zFM ?m_VECG ?m_NG ?j_NG ?lNG ?yNG ?zNG ?m_FG ?j_FG ?lFG ?yFG ?zFG ?m_Mk ?j_Mk ?lMk ?yMk ?zMk ?m_IB ?j_IB ?lIB ?yIB ?zIB ?m_IR ?j_IR ?lIR ?yIR ?zIR ?m_IC ?j_IC ?lIC ?yIC ?zIC ?m_IM ?j_IM ?lIM ?yIM ?zIM ?m_IG ?j_IG ?lIG ?yIG ?zIG ?q_params ?le_params ?q_blocks ?le_blocks ?q_readings ?le_readings ?q_calls ?le_calls ?q_outputs ?le_outputs ?q_moves ?le_moves
    (case gL => k_is)
    (case gM => k_is)
    (case b_isinstance => k_is)
    (case b_len => k_is)
    (case b_all => k_is)
    (case b_any => k_is)
    (case b_zip => k_is)
    (case b_tuple => k_is)
    (case b_dict => k_is)
    (case b_list => k_is)
    (case b_bool => k_is)
    (case b_int => k_is)
    (case b_str => k_is)
    (case b_range => k_is)
    (case b_repr => k_is)
    (case b_sorted => k_is)
    (case gCB => k_is)
    (case gCR => k_is)
    (case gCC => k_is)
    (case gCM => k_is)
    (case gCG => k_is)
    (case gVa => k_is)
    (case gUn => k_is)
    (case d2 => k_is)
    (case d3 => k_is)
    (case c1CB => k_is)
    (case c2CB => k_is)
    (case c3CB => k_is)
    (case c4CB => k_is)
    (case d1CB => k_is)
    (case d4CB => k_is)
    (case mCB_tuple => k_is)
    (case mCB_bool => k_is)
    (case mCB_int => k_is)
    (case mCB_dict => k_is)
    (case mCB_str => k_is)
    (case mCB_list => k_is)
    (case oVCB => k_is)
    (case oUCB => k_is)
    (case neVCB => decide)
    (case neUCB => decide)
    (case na_CB_kind => k_is)
    (case na_CB_name => k_is)
    (case na_CB_attributes => k_is)
    (case na_CB_many => k_is)
    (case na_CB_after => k_is)
    (case na_CB_first => k_is)
    (case na_CB_never => k_is)
    (case na_CB_ignored => k_is)
    (case na_CB_replaced_by => k_is)
    (case na_CB_ahead => k_is)
    (case mkCB => k_is)
    (case kpCB => k_is)
    (case nVECB => k_is)
    (case sVECB => k_is)
    (case neCBCR => decide)
    (case sCBCR => k_is)
    (case oCBCR => k_is)
    (case neCBCC => decide)
    (case sCBCC => k_is)
    (case oCBCC => k_is)
    (case neCBCM => decide)
    (case sCBCM => k_is)
    (case neCBCG => decide)
    (case sCBCG => k_is)
    (case oCBCG => k_is)
    (case c1CR => k_is)
    (case c2CR => k_is)
    (case c3CR => k_is)
    (case c4CR => k_is)
    (case d1CR => k_is)
    (case d4CR => k_is)
    (case mCR_tuple => k_is)
    (case mCR_bool => k_is)
    (case mCR_int => k_is)
    (case mCR_dict => k_is)
    (case mCR_str => k_is)
    (case mCR_list => k_is)
    (case oVCR => k_is)
    (case oUCR => k_is)
    (case neVCR => decide)
    (case neUCR => decide)
    (case na_CR_kind => k_is)
    (case na_CR_name => k_is)
    (case na_CR_question => k_is)
    (case na_CR_after => k_is)
    (case mkCR => k_is)
    (case kpCR => k_is)
    (case nVECR => k_is)
    (case sVECR => k_is)
    (case neCRCB => decide)
    (case sCRCB => k_is)
    (case oCRCB => k_is)
    (case neCRCC => decide)
    (case sCRCC => k_is)
    (case oCRCC => k_is)
    (case neCRCM => decide)
    (case sCRCM => k_is)
    (case neCRCG => decide)
    (case sCRCG => k_is)
    (case oCRCG => k_is)
    (case c1CC => k_is)
    (case c2CC => k_is)
    (case c3CC => k_is)
    (case c4CC => k_is)
    (case d1CC => k_is)
    (case d4CC => k_is)
    (case mCC_tuple => k_is)
    (case mCC_bool => k_is)
    (case mCC_int => k_is)
    (case mCC_dict => k_is)
    (case mCC_str => k_is)
    (case mCC_list => k_is)
    (case oVCC => k_is)
    (case oUCC => k_is)
    (case neVCC => decide)
    (case neUCC => decide)
    (case na_CC_name => k_is)
    (case na_CC_config => k_is)
    (case na_CC_arguments => k_is)
    (case na_CC_after => k_is)
    (case mkCC => k_is)
    (case kpCC => k_is)
    (case nVECC => k_is)
    (case sVECC => k_is)
    (case neCCCB => decide)
    (case sCCCB => k_is)
    (case oCCCB => k_is)
    (case neCCCR => decide)
    (case sCCCR => k_is)
    (case oCCCR => k_is)
    (case neCCCM => decide)
    (case sCCCM => k_is)
    (case neCCCG => decide)
    (case sCCCG => k_is)
    (case oCCCG => k_is)
    (case c1CM => k_is)
    (case c2CM => k_is)
    (case c3CM => k_is)
    (case c4CM => k_is)
    (case d1CM => k_is)
    (case d4CM => k_is)
    (case mCM_tuple => k_is)
    (case mCM_bool => k_is)
    (case mCM_int => k_is)
    (case mCM_dict => k_is)
    (case mCM_str => k_is)
    (case mCM_list => k_is)
    (case oVCM => k_is)
    (case oUCM => k_is)
    (case neVCM => decide)
    (case neUCM => decide)
    (case na_CM_old => k_is)
    (case na_CM_new => k_is)
    (case mkCM => k_is)
    (case kpCM => k_is)
    (case nVECM => k_is)
    (case sVECM => k_is)
    (case neCMCB => decide)
    (case sCMCB => k_is)
    (case oCMCB => k_is)
    (case neCMCR => decide)
    (case sCMCR => k_is)
    (case oCMCR => k_is)
    (case neCMCC => decide)
    (case sCMCC => k_is)
    (case oCMCC => k_is)
    (case neCMCG => decide)
    (case sCMCG => k_is)
    (case oCMCG => k_is)
    (case c1CG => k_is)
    (case c2CG => k_is)
    (case c3CG => k_is)
    (case c4CG => k_is)
    (case d1CG => k_is)
    (case d4CG => k_is)
    (case mCG_tuple => k_is)
    (case mCG_bool => k_is)
    (case mCG_int => k_is)
    (case mCG_dict => k_is)
    (case mCG_str => k_is)
    (case mCG_list => k_is)
    (case oVCG => k_is)
    (case oUCG => k_is)
    (case neVCG => decide)
    (case neUCG => decide)
    (case na_CG_params => k_is)
    (case na_CG_blocks => k_is)
    (case na_CG_readings => k_is)
    (case na_CG_calls => k_is)
    (case na_CG_outputs => k_is)
    (case na_CG_moves => k_is)
    (case mkCG => k_is)
    (case kpCG => k_is)
    (case nVECG => k_is)
    (case sVECG => k_is)
    (case neCGCB => decide)
    (case sCGCB => k_is)
    (case oCGCB => k_is)
    (case neCGCR => decide)
    (case sCGCR => k_is)
    (case oCGCR => k_is)
    (case neCGCC => decide)
    (case sCGCC => k_is)
    (case oCGCC => k_is)
    (case neCGCM => decide)
    (case sCGCM => k_is)
    (case i1CV => k_is)
    (case i2CV => k_is)
    (case i1CU => k_is)
    (case i2CU => k_is)
    (case i1CB => k_is)
    (case i2CB => k_is)
    (case i1CR => k_is)
    (case i2CR => k_is)
    (case i1CC => k_is)
    (case i2CC => k_is)
    (case i1CG => k_is)
    (case i2CG => k_is)
    (case a_integ => k_is)
    (case linteg => k_is)
    (case yinteg => k_is)
    (case zinteg => k_is)
    (case a_name => k_is)
    (case lname => k_is)
    (case yname => k_is)
    (case zname => k_is)
    (case a_tag => k_is)
    (case ltag => k_is)
    (case ytag => k_is)
    (case ztag => k_is)
    (case a_sort => k_is)
    (case lsort => k_is)
    (case ysort => k_is)
    (case zsort => k_is)
    (case a_eq => k_is)
    (case leq => k_is)
    (case yeq => k_is)
    (case zeq => k_is)
    (case a_rw => k_is)
    (case lrw => k_is)
    (case yrw => k_is)
    (case zrw => k_is)
    (case a_unl => k_is)
    (case lunl => k_is)
    (case yunl => k_is)
    (case zunl => k_is)
    (case a_ap => k_is)
    (case lap => k_is)
    (case yap => k_is)
    (case zap => k_is)
    (case a_gr => k_is)
    (case lgr => k_is)
    (case ygr => k_is)
    (case zgr => k_is)
    (case a_gm => k_is)
    (case lgm => k_is)
    (case ygm => k_is)
    (case zgm => k_is)
    (case a_well => k_is)
    (case lwell => k_is)
    (case ywell => k_is)
    (case zwell => k_is)
    (case a_draw => k_is)
    (case ldraw => k_is)
    (case ydraw => k_is)
    (case zdraw => k_is)
    (case a_one => k_is)
    (case lone => k_is)
    (case yone => k_is)
    (case zone => k_is)
    (case a_ch => k_is)
    (case lch => k_is)
    (case ych => k_is)
    (case zch => k_is)
    (case a_tx => k_is)
    (case ltx => k_is)
    (case ytx => k_is)
    (case ztx => k_is)
    (case a_bl => k_is)
    (case lbl => k_is)
    (case ybl => k_is)
    (case zbl => k_is)
    (case a_ke => k_is)
    (case lke => k_is)
    (case yke => k_is)
    (case zke => k_is)
    (case a_md => k_is)
    (case lmd => k_is)
    (case ymd => k_is)
    (case zmd => k_is)
    (case a_law => k_is)
    (case llaw => k_is)
    (case ylaw => k_is)
    (case zlaw => k_is)
    (case gis_param => k_is)
    (case gis_block => k_is)
    (case gis_reading => k_is)
    (case gis_call => k_is)
    (case gis_output => k_is)
    (case gis_move => k_is)
    (case m_VE => k_is)
    (case j_VE => k_is)
    (case lVE => k_is)
    (case yVE => k_is)
    (case zVE => k_is)
    (case m_NB => k_is)
    (case j_NB => k_is)
    (case lNB => k_is)
    (case yNB => k_is)
    (case zNB => k_is)
    (case m_FB => k_is)
    (case j_FB => k_is)
    (case lFB => k_is)
    (case yFB => k_is)
    (case zFB => k_is)
    (case m_VECR => k_is)
    (case m_NR => k_is)
    (case j_NR => k_is)
    (case lNR => k_is)
    (case yNR => k_is)
    (case zNR => k_is)
    (case m_FR => k_is)
    (case j_FR => k_is)
    (case lFR => k_is)
    (case yFR => k_is)
    (case zFR => k_is)
    (case m_VECC => k_is)
    (case m_NC => k_is)
    (case j_NC => k_is)
    (case lNC => k_is)
    (case yNC => k_is)
    (case zNC => k_is)
    (case m_FC => k_is)
    (case j_FC => k_is)
    (case lFC => k_is)
    (case yFC => k_is)
    (case zFC => k_is)
    (case m_VECM => k_is)
    (case m_NM => k_is)
    (case j_NM => k_is)
    (case lNM => k_is)
    (case yNM => k_is)
    (case zNM => k_is)
    (case m_FM => k_is)
    (case j_FM => k_is)
    (case lFM => k_is)
    (case yFM => k_is)
    (case zFM => k_is)
    (case m_VECG => k_is)
    (case m_NG => k_is)
    (case j_NG => k_is)
    (case lNG => k_is)
    (case yNG => k_is)
    (case zNG => k_is)
    (case m_FG => k_is)
    (case j_FG => k_is)
    (case lFG => k_is)
    (case yFG => k_is)
    (case zFG => k_is)
    (case m_Mk => k_is)
    (case j_Mk => k_is)
    (case lMk => k_is)
    (case yMk => k_is)
    (case zMk => k_is)
    (case m_IB => k_is)
    (case j_IB => k_is)
    (case lIB => k_is)
    (case yIB => k_is)
    (case zIB => k_is)
    (case m_IR => k_is)
    (case j_IR => k_is)
    (case lIR => k_is)
    (case yIR => k_is)
    (case zIR => k_is)
    (case m_IC => k_is)
    (case j_IC => k_is)
    (case lIC => k_is)
    (case yIC => k_is)
    (case zIC => k_is)
    (case m_IM => k_is)
    (case j_IM => k_is)
    (case lIM => k_is)
    (case yIM => k_is)
    (case zIM => k_is)
    (case m_IG => k_is)
    (case j_IG => k_is)
    (case lIG => k_is)
    (case yIG => k_is)
    (case zIG => k_is)
    (case q_params => k_is)
    (case le_params => k_is)
    (case q_blocks => k_is)
    (case le_blocks => k_is)
    (case q_readings => k_is)
    (case le_readings => k_is)
    (case q_calls => k_is)
    (case le_calls => k_is)
    (case q_outputs => k_is)
    (case le_outputs => k_is)
    (case q_moves => k_is)
    (case le_moves => k_is)
