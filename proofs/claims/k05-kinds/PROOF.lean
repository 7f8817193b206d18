import PyProof.Rows.All
import Wide.All
import OpenK.AllK
import Wide.FinOn
import KE.KExcMore
import HandS.ForMost
import HandS.ForExc
import HandS.ExcInit
import HandS.ExcField
import HandS.ExcIs
import HandS.IsInst
import HandS.ExcValue
import HandS.ClsMeth
import HandS.RaiseMore
import HandS.DictComp
import HandS.TryMany
import HandS.Lambda
import HandS.More
import HandS.Walk
import PyProof.NeKinds
import HandS.OwnEq
import HandS.Zip
import PyProof.InstNe
import HandS.TupAny
import HandS.Text
import HandS.Words
import HandS.MakeKwOnly
import HandS.Dict
import HandS.ExcOwn
import PySem.Challenge.RW_planfirst_k05_kinds_made
set_option Elab.async false
set_option linter.all false
set_option maxRecDepth 100000
set_option maxHeartbeats 4000000
/-! Rules of my own for the hand layer: exceptions of own classes as values that are kept. -/
namespace XR
open PySem PySem.Spec PyProof.Rows L2
section
variable {X : Cx} {pins : List (Addr × Obj)} {σ : L2.St} {H : Hp} {s : Shared}

/-! ### PlanError.__init__(self, ..): the base class is an own class -/
structure PIni (K : PySem.W.Frag) (mg : Str → Option Value) (x : Str) (B : Addr) (mc : Value) : Prop where
  gB : mg x = some (.ref B)
  cr : ClX.CRead K B mc
  vB : PySem.W.findCls K (.ref B) mc "__init__" = some (.val (.builtin "ValueError.__init__"))
theorem pe_pinit {e : Expr} {es : List Expr} {ta : TA} {x : Str} {B : Addr} {mc : Value} {p1 p2 pos : Pos} {pl : Sem Bool} (P : PIni X.K X.mg x B mc) (hg : Gl X x) (ha : PA X (e :: es) ta)
    (hc : eval (.Call (.Attribute (.Name x p1) "__init__" p2) (e :: es) [] pos) X.env = (do
      let o ← eval (.Name x p1) X.env
      standAt p2.atName
      let (f, first) ← holding [o] (getMethod o "__init__" pl)
      callWith pos f first (backTo pos (starEach (e :: es) X.env)) (backToKw pos (keywordEach [] X.env))) := by rfl)
    (he : starEach (e :: es) X.env = (false, eval e X.env) :: starEach es X.env := by rfl) (hpl : (backTo pos (starEach es X.env)).any (·.1) = false := by rfl) (hdb : (x == ("__debug__" : Str)) = false := by decide) :
    PE X (.Call (.Attribute (.Name x p1) "__init__" p2) (e :: es) [] pos) (tVeI X.K ta) := by
  refine ⟨fun pins s σ H Q I h => ?_⟩
  refine PySem.W.methodCall_KW (ld_glob I hg P.gB ?_ hdb) hc
  refine PySem.W.method_cls I.kIn P.cr.ga (PySem.W.cls_value I.kIn P.cr.rd P.vB (by decide +kernel) ?_)
  show wpAny _ _ (callWith pos (Value.builtin "ValueError.__init__") [] (backTo pos (starEach (e :: es) X.env)) []) _ _ _
  refine PyProof.Rows.callWith_method1 (thn (ha.run pos pins _ σ H _ (I.tok _) h) fun us s1 hh => ?_) he hpl
  obtain ⟨vs, H1, I1, r1, a, C, ws, ev, hl, T, ea, q⟩ := hh
  subst ev
  cases r1 with
  | @cons _ u0 _ ur ra rr =>
    obtain rfl : u0 = Value.ref a := ra
    refine oinit_ok T I1 ea ?_ fun s' J => ⟨.non, H1, J, rfl, q⟩
    rw [← Paired.length rr, sizeLine_eq]
    omega

/-! ### C(e, ..) as a value -/
@[irreducible] def tNewO (C : Addr) (sp : Sp) (ta : TA) : TE := fun σ H Q => ta σ H fun vs H1 => vs.length ≤ 1000 ∧ ∀ a, H1 a = none →
  sp (.ref a :: vs) (upd H1 a (exo a C none)) (fun v H2 => v = .non ∧ Q (.ref a) H2) (fun _ _ _ => False)
theorem pe_newO {CX : CXT} {x : Str} {C fI : Addr} {k : Nat} {fd : FuncData} {ps : List Str} {sp : Sp} {e : Expr} {es : List Expr} {ta : TA} {p pos : Pos} (T : OexC X.K C)
    (iC : PySem.W.findIn X.K (.ref C) "__init__" = some (some (.ref fI))) (tI : PySem.W.typeIn X.K (.ref fI) = some (.type "function"))
    (F1 : FnOk X.prog X.w X.K X.mg X.base CX k fI fd ps sp) (hr : Room (k + 1) X.A) (hb : Binds X.K fd ps []) (hx : Passes CX X (fun _ _ _ => False)) (hg : Gl X x) (hm : X.mg x = some (.ref C)) (ha : PA X (e :: es) ta)
    (hdb : (x == ("__debug__" : Str)) = false := by decide) (he : starEach (e :: es) X.env = (false, eval e X.env) :: starEach es X.env := by rfl) (hpl : (backTo pos (starEach es X.env)).any (·.1) = false := by rfl) :
    PE X (.Call (.Name x p) (e :: es) [] pos) (tNewO C sp ta) := by
  refine ⟨fun pins s σ H Q I h => ?_⟩
  unfold tNewO at h
  obtain ⟨nm, q, N, bs, bm, sn, sub, ab, col, dd, k0, k1, k2, k3, k5, hC, hbm⟩ := T.cls
  refine wpAny_Call_Name_kw (ld_glob I hg hm ?_ hdb)
  refine PySem.W.callWith_K (h₀ := X.base) I.ok.mod.kin T.kC (thn (ha.run pos pins s σ H _ I h) fun us s1 hh => ?_) he hpl
  obtain ⟨vs, H1, I1, r1, hz, q1⟩ := hh
  refine ⟨I1.kIn, ?_⟩
  show wpAny _ _ (call (.ref C) us) _ _ _
  obtain ⟨hp, g, dr, tk, os⟩ := s1
  have le1 : hp.objs.size ≤ hp.objs.size + 1 := Nat.le_succ _
  have hq := q1 (hp.objs.size + 1) (I1.hok.fresh le1)
  have keep : ∀ b o, hp.get? b = some o → ((hp.push (PySem.W.kdv_tup us)).push (PySem.HandSPX.excO C hp.objs.size)).get? b = some o := fun b o z => Heap.get?_push_of_some _ (Heap.get?_push_of_some _ z)
  have at1 : ((hp.push (PySem.W.kdv_tup us)).push (PySem.HandSPX.excO C hp.objs.size)).get? (hp.objs.size + 1) = some (PySem.HandSPX.excO C hp.objs.size) := by heap_get
  have I2 : Inv X pins σ (upd H1 (hp.objs.size + 1) (exo (hp.objs.size + 1) C none)) ⟨(hp.push (PySem.W.kdv_tup us)).push (PySem.HandSPX.excO C hp.objs.size), g, dr, tk, os⟩ :=
    I1.laid (t' := tk) (a := hp.objs.size + 1) (o := exo (hp.objs.size + 1) C none) (h' := (hp.push (PySem.W.kdv_tup us)).push (PySem.HandSPX.excO C hp.objs.size)) keep le1 (exo_ok at1)
  have r2 : Vals (V.ref (hp.objs.size + 1) :: vs) (Value.ref (hp.objs.size + 1) :: us) := .cons rfl r1
  have hl : (Value.ref (hp.objs.size + 1) :: us ++ []).length = ps.length := by
    have z := r2.length
    rw [F1.len _ _ _ _ hq] at z
    simpa using z.symm
  have hus : us.length ≤ sizeLine := by
    rw [← Paired.length r1, sizeLine_eq]
    omega
  have hbb := hb _ (Value.ref (hp.objs.size + 1) :: us) I2.kIn hl
  rw [List.append_nil] at hbb
  refine wpAny_call (PySem.HandSPX.call_own F.excBase_ValueError (fun Y => PySem.HandSPX.refsVE_contains Y bm hbm) (I1.kIn _ _ hC) (PySem.W.looks_findIn I1.kIn iC) (fun self => PySem.W.bind_fn I1.kIn self tI) hus
    (codeAny_mono (F1.run _ X.stack _ _ ⟨Value.ref (hp.objs.size + 1) :: us, []⟩ (Value.ref (hp.objs.size + 1) :: us) _ _ (fun _ _ _ => False) (hr.make C us []) (I2.env0.make C us []) hbb r2 hq) fun r s' z => ?_))
  cases r with
  | error er => exact hx pins σ _ _ er s' I2 z
  | ok fl =>
    cases fl with
    | ret u =>
      obtain ⟨v, H2, os2, bare2, un2, hok2, rv, ev, q2⟩ := z
      subst ev
      exact ⟨rv, .ref (hp.objs.size + 1), H2, I2.call' (ch := []) os2 un2 hok2 bare2 (fun b z => absurd z (by simp)), rfl, q2⟩
    | next => exact False.elim z
    | brk => exact False.elim z
    | cont => exact False.elim z

/-! ### e.f, e such a value -/
@[irreducible] def tXget (K : PySem.W.Frag) (f : Str) (te : TE) : TE := fun σ H Q => te σ H fun x H1 => ∃ (a C dx : Addr) (fs : List (Str × V)) (v : V), x = .ref a ∧ XfC K C ∧ PySem.W.findIn K (.ref C) f = some none ∧
  H1 a = some (exo a C (some dx)) ∧ H1 dx = some (exd dx fs) ∧ fs.lookup f = some v ∧ Q v H1
theorem exo_inst {a C dx : Addr} {fs : List (Str × V)} (I : Inv X pins σ H s) (ea : H a = some (exo a C (some dx))) (ed : H dx = some (exd dx fs)) :
    ∃ (t1 : Addr) (od : Obj) (mA : Str → Option Value), PySem.W.InstAt s.heap a { cls := .ref C, dict := some dx, data := .fields #[.ref t1, .none, .none, .none, .bool false, .none] } C (some od) ∧ (∀ f, RelO (fs.lookup f) (mA f)) ∧ ∀ f, PySem.W.lookIn f od = some (mA f) := by
  obtain ⟨t1, ho⟩ := exo_at I.hok ea
  obtain ⟨mA, hns, rel⟩ := exd_at I.hok ed
  obtain ⟨od, hod, hl⟩ := lookIn_ns hns
  exact ⟨t1, od, mA, ⟨ho, rfl, rfl, hod⟩, rel, hl⟩
theorem pe_xget {e : Expr} {te : TE} {f : Str} {pos : Pos} (he : PE X e te) (hb : attributeBase e f X.env (eval e X.env) = eval e X.env := by rfl) : PE X (.Attribute e f pos) (tXget X.K f te) := by
  refine ⟨fun pins s σ H Q I h => ?_⟩
  unfold tXget at h
  refine attr_of hb (thn (he.run pins s σ H _ I h) fun u s1 hh => ?_)
  obtain ⟨x, H1, I1, rx, a, C, dx, fs, v, ex, T, hno, ea, ed, l, q⟩ := hh
  subst ex
  obtain rfl : u = Value.ref a := rx
  obtain ⟨t1, od, mA, J, rel, hl⟩ := exo_inst I1 ea ed
  obtain ⟨u, hu, ru⟩ := RelO.some_of (v := v) (o := mA f) (by rw [← l]; exact rel f)
  exact HandSPX.exc_get I1.kIn J T.ga T.gg T.exC (PySem.W.findObj_own T.hdC hno rfl (by rw [hl, hu])) (handed_of ru) ⟨v, H1, I1.tok _, ru, q⟩
end
end XR

/-! Own errors over PlanError: what is asked of a class, its __init__, raising it. -/
namespace XR
open PySem PySem.Spec PyProof.Rows L2
/-- all but what stands at w is as it was -/
def But (w : Addr) (H H' : Hp) : Prop := ∀ b o, H b = some o → b ≠ w → H' b = some o
theorem But.trans {w : Addr} {H H1 H2 : Hp} (a : But w H H1) (b : But w H1 H2) : But w H H2 := fun c o h n => b c o (a c o h n) n
theorem But.upd {w : Addr} {H : Hp} {o : HO} : But w H (upd H w o) := fun b u e n => by rw [upd_ne n]; exact e
theorem But.of {w : Addr} {H H' : Hp} (m : Same H H') : But w H H' := fun b u e _ => m b u e
theorem But.same {w : Addr} {H G H' : Hp} (m : But w G H') (h : Same H G) (n : H w = none) : Same H H' := fun b o e => m b o (h b o e) (ne_of_none e n)
theorem same_new {p : Addr} {H : Hp} {o : HO} (h : H p = none) : Same H (L2.upd H p o) := fun b u e => by rw [upd_ne (ne_of_none e h)]; exact e
theorem at_new {H : Hp} {a : Addr} {o : HO} (_ : H a = none) : L2.upd H a o a = some o := upd_same
abbrev tail (CP : Addr) : List Value := [.ref CP, .type "ValueError", .type "Exception", .type "BaseException", .type "object"]
structure XcOk (K : PySem.W.Frag) (CP C : Addr) : Prop where
  lk : ∃ nm q N bs sn sub ab col dd k0 k1 k2 k3 k5, K.lookup C = some (excClassObj nm q C N bs (tail CP) true sn sub ab col dd k0 k1 k2 k3 k5 "ValueError.__new__")
  sa : PySem.W.findIn K (.ref C) "__setattr__" = some (some (.builtin "object.__setattr__"))
  ga : PySem.W.findIn K (.ref C) "__getattribute__" = some (some (.builtin "BaseException.__getattribute__"))
  gg : PySem.W.findIn K (.ref C) "__getattr__" = some none
  ha : PySem.W.findIn K (.ref C) "__class__" = some (some (.builtin "object.__class__"))
  kC : PySem.W.keepIn K (.ref C) = true
  tyC : PySem.W.typeIn K (.ref C) = some (.type "type")
structure Cls0 (K : PySem.W.Frag) : Prop where
  hn : PySem.W.specialIn K (.builtin "object.__class__") "__get__" = some (some (.builtin "getset_descriptor.__get__"))
  ht : PySem.W.takesIn K (.builtin "object.__class__") = some true
section
variable {K : PySem.W.Frag} {CP C D : Addr}
theorem XcOk.cls (x : XcOk K CP C) : ∃ cd : ClassData, PySem.W.clsIn K C = some cd ∧ cd.mro = .ref C :: tail CP ∧ cd.hasDict = true := by
  obtain ⟨nm, q, N, bs, sn, sub, ab, col, dd, k0, k1, k2, k3, k5, h⟩ := x.lk
  refine ⟨{ name := nm, bases := bs, mro := .ref C :: tail CP, ns := N, qualname := q, hasDict := true, slotNames := sn, subclasses := sub, abstract := ab, collection := col, hasDel := false }, ?_, rfl, rfl⟩
  unfold PySem.W.clsIn
  rw [h]
theorem XcOk.mro (x : XcOk K CP C) (v : Value) : PySem.W.mroIn K C v = some ((Value.ref C :: tail CP).contains v) := by
  obtain ⟨cd, h1, h2, _⟩ := x.cls
  unfold PySem.W.mroIn
  rw [h1, Option.bind_some, h2]
  rfl
theorem XcOk.sub (x : XcOk K CP C) (v : Value) : PySem.W.subIn K (.ref C) v = some ((Value.ref C :: tail CP).contains v) := x.mro v
theorem XcOk.hd (x : XcOk K CP C) : PySem.W.hasDictIn K C = true := by
  obtain ⟨cd, h1, _, h3⟩ := x.cls
  unfold PySem.W.hasDictIn
  rw [h1]
  exact h3
theorem XcOk.oex (x : XcOk K CP C) : OexC K C := by
  obtain ⟨nm, q, N, bs, sn, sub, ab, col, dd, k0, k1, k2, k3, k5, h⟩ := x.lk
  exact ⟨⟨nm, q, N, bs, tail CP, sn, sub, ab, col, dd, k0, k1, k2, k3, k5, h, rfl⟩, x.sa, (x.sub _).trans (congrArg some (by rfl)), x.tyC, x.kC⟩
theorem XcOk.xf (x : XcOk K CP C) : XfC K C := ⟨x.ga, x.gg, (x.sub _).trans (congrArg some (by rfl)), x.hd⟩
theorem XcOk.isCls (x : XcOk K CP C) : ((PySem.W.clsIn K C).isSome && PySem.W.typeIn K (.ref C) == some (.type "type")) = true := by
  obtain ⟨cd, h1, _⟩ := x.cls
  rw [h1, x.tyC]
  rfl
/-- except D, of an error of the class C -/
theorem XcOk.exm (x : XcOk K CP C) (y : XcOk K CP D) (hp : D ≠ CP) : PySem.W.exmOne K (.ref C) (.ref D) = some (decide (C = D)) := by
  have e1 : (PySem.W.subIn K (.ref D) (.type "BaseException") == some true) = true := by
    rw [y.sub]
    rfl
  show (if (PySem.W.subIn K (.ref D) (.type "BaseException") == some true) = true then (if ((PySem.W.clsIn K D).isSome && PySem.W.typeIn K (.ref D) == some (.type "type")) = true then PySem.W.subIn K (.ref C) (.ref D) else none) else none) = _
  rw [if_pos e1, if_pos y.isCls, x.sub]
  congr 1
  by_cases e : C = D
  · subst e
    simp
  · have b1 : (Value.ref D == Value.ref C) = false := beq_eq_false_iff_ne.mpr fun z => e (Value.ref.inj z).symm
    have b2 : (Value.ref D == Value.ref CP) = false := beq_eq_false_iff_ne.mpr fun z => hp (Value.ref.inj z)
    rw [List.contains_cons, List.contains_cons, b1, b2, decide_eq_false e]
    rfl
end
def spI (C : Addr) (fld : Str) : Sp := fun vs H Q _ => ∃ (a : Addr) (v : V), vs = [.ref a, v] ∧ H a = some (exo a C none) ∧
  ∀ (dx : Addr) (H' : Hp), H dx = none → dx ≠ a → H' = upd (upd H dx (exd dx [(fld, v)])) a (exo a C (some dx)) → Q .non H'
/-- an error of one value -/
structure New1 (P : Program) (w : World) (K : PySem.W.Frag) (mg : Str → Option Value) (base : Heap) (CP : Addr) (x fld : Str) (C fI : Addr) (fd : FuncData) : Prop where
  xc : XcOk K CP C
  g : mg x = some (.ref C)
  iC : PySem.W.findIn K (.ref C) "__init__" = some (some (.ref fI))
  tI : PySem.W.typeIn K (.ref fI) = some (.type "function")
  no : PySem.W.findIn K (.ref C) fld = some none
  ok : FnOk P w K mg base CX0 1 fI fd ["self", fld] (spI C fld)
  b : Binds K fd ["self", fld] []
/-- raise C(v): the way out -/
@[irreducible] def RaiseK (C : Addr) (fld : Str) (v : V) (H : Hp) (Q : XK) : Prop := [v].length ≤ 1000 ∧ ∀ a, H a = none → spI C fld (.ref a :: ([v] ++ [])) (upd H a (exo a C none))
  (fun u H2 => u = .non ∧ ∃ (d : Addr) (fs : List (Str × V)), H2 a = some (exo a C (some d)) ∧ H2 d = some (exd d fs) ∧ H d = none ∧ Q (.ref C) (some d) (upd (del H2 a) d (.xd fs))) (fun _ _ _ => False)
theorem raiseK {C : Addr} {fld : Str} {v : V} {H : Hp} {Q : XK} (h : ∀ (d : Addr) (H' : Hp), H d = none → Same H H' → H' d = some (.xd [(fld, v)]) → Q (.ref C) (some d) H') : RaiseK C fld v H Q := by
  unfold RaiseK
  refine ⟨(by show 1 ≤ 1000; decide), fun a ha => ⟨a, v, rfl, upd_same, fun dx H' hd hne e => ⟨rfl, dx, [(fld, v)], ?_, ?_, ?_, ?_⟩⟩⟩
  · rw [e, upd_same]
  · rw [e, upd_ne hne, upd_same]
  · rw [upd_ne hne] at hd
    exact hd
  · rw [upd_ne hne] at hd
    refine h dx _ hd (fun b o z => ?_) upd_same
    have n1 := ne_of_none z ha
    have n2 := ne_of_none z hd
    rw [upd_ne n2, del_ne n1, e, upd_ne n1, upd_ne n2, upd_ne n1]
    exact z
def tRaiseI (C : Addr) (fld : Str) (W : WX) (te : TE) : TS := fun _ σ H => te σ H fun v H1 => RaiseK C fld v H1 fun cls d H' => W cls d σ H'
section
variable {X : Cx}
theorem ps_raiseI {x fld : Str} {CP C fI : Addr} {fd : FuncData} {e : Expr} {te : TE} {W : WX} {p pos pos2 : Pos} (N : New1 X.prog X.w X.K X.mg X.base CP x fld C fI fd) (hc : X.calm = true) (hr : Room 2 X.A) (tk : Takes X W) (hg : Gl X x) (he : PE X e te)
    (hdb : (x == ("__debug__" : Str)) = false := by decide) (h1 : starEach [e] X.env = (false, eval e X.env) :: starEach [] X.env := by rfl) (hpl : (backTo pos (starEach [] X.env)).any (·.1) = false := by rfl) :
    PS X (.Raise (some (.Call (.Name x p) [e] [] pos)) none pos2) (tRaiseI C fld W te) := by
  have M := pmk_oex (X := X) (pos := pos) (p := p) N.xc.oex N.iC N.tI N.ok hr N.b .nil (fun _ _ _ _ _ _ _ z => z.elim) hg N.g (pa_cons he pa_nil h1) hdb h1 hpl
  have R := ps_raise (pos := pos2) hc tk M
  have e : tRaiseI C fld W te = fun _ σ H => tMkO C (spI C fld) [] (tCons te tNil) σ H fun cls d H' => W cls d σ H' := by
    unfold tRaiseI RaiseK
    rfl
  rw [e]
  exact R
end
end XR

/-! try with several clauses «except X as n» -/
namespace XR
open PySem PySem.Spec PyProof.Rows L2
/-- what such clauses wish of an exception of the body, one after the other -/
def wManyA (K : PySem.W.Frag) (Wout : WX) (D : Ends) : List (Value × Nat × (Addr → Value → Option Addr → TS)) → WX
  | [] => Wout
  | (c, i, ts) :: r => fun cls d σ H => ∃ b, PySem.W.exmOne K cls c = some b ∧
      (b = true → ∀ a, H a = none → ts a cls d { nx := fun σ' H' => D.nx (σ'.set i none) H', rt := D.rt, bk := fun σ' H' => D.bk (σ'.set i none) H', ct := fun σ' H' => D.ct (σ'.set i none) H' } (σ.set i (some (.ref a))) H) ∧
      (b = false → wManyA K Wout D r cls d σ H)
inductive HdsA (X : Cx) : List ExceptHandler → List (Value × Nat × (Addr → Value → Option Addr → TS)) → Prop
  | nil : HdsA X [] []
  | cons {x n : Str} {c : Value} {i : Nat} {ts : Addr → Value → Option Addr → TS} {b0 : Stmt} {suite : List Stmt} {np pos' : Pos} {hds : List ExceptHandler} {l : List (Value × Nat × (Addr → Value → Option Addr → TS))} (hc : Names X x c)
      (hi : X.N[i]? = some n) (hln : X.env.kindOf n = some .local)
      (hsu : ∀ (a : Addr) (oe : Obj) (cls : Value) (d : Option Addr) (pn : List (Addr × Obj)), Zc cls d oe → (∃ vs, oe.data = .fields vs) → PSs (X.suite a ((a, oe) :: pn)) (b0 :: suite) (ts a cls d)) (r : HdsA X hds l) :
      HdsA X (.ExceptHandler (some (.Name x np)) (some n) (b0 :: suite) pos' :: hds) ((c, i, ts) :: l)
section
variable {X : Cx} {body : List Stmt} {h0 : ExceptHandler} {hds : List ExceptHandler} {l : List (Value × Nat × (Addr → Value → Option Addr → TS))} {pos : Pos} {tb : WX → TS} {Wout : WX}
theorem ps_tryA (hs : X.stack = X.env :: X.outer) (hf : X.env.frame = some X.env.locals) (hN : X.N.Nodup) (tk : Takes X Wout)
    (hb : ∀ (W : WX) (pn : List (Addr × Obj)) (xe : Value → Shared → Prop), Takes (X.tr pn xe) W → PassesOwn (model X.prog X.w) X.A X.env xe → PSs (X.tr pn xe) body (tb W))
    (hh : HdsA X (h0 :: hds) l) : PS X (.Try body (h0 :: hds) [] [] pos) (fun D σ H => tb (wManyA X.K Wout D l) D σ H) := by
  refine ⟨fun pins s σ H D I h => ?_⟩
  have ok := I.ok
  have hfr : X.A.frames = some (X.env :: X.outer) := by rw [ok.frames, hs]
  refine wpAny_Try_except ?_
  refine wpAny_mono ((hb (wManyA X.K Wout D l) (X.pn ++ pins) (fun e s1 => wpAny (model X.prog X.w) X.A (noteFrame e X.env) (fun _ s2 => wpAny (model X.prog X.w) X.A (setFlight e none) (fun _ s3 =>
    wpAny (model X.prog X.w) X.A (handleBy e X.env (h0 :: hds)) (SP X pins D) X.xe s3) X.xe s2) X.xe s1) (fun u s' xx => ?_) PassesOwn.looking).run [] s σ H D (I.toTry _) h) (fun f s1 hsp => ?_) (fun e s1 he => he)
  · obtain ⟨a, B, sI, pins', σ', H', cls, d, rfl, J', nb, up, sky, na, os, ag, w⟩ := xx
    have J : Inv X pins σ' H' sI := J'.ofTry ok
    have sky' : Sky B (X.env :: X.outer) a (Zc cls d) X.env.locals s'.heap := by rw [← hs]; exact sky
    show wpAny (model X.prog X.w) X.A (noteFrame (.ref a) X.env) _ _ _
    refine Sky.land Zc.steady hfr hf sky' fun h3 fl3 up3 => ?_
    have J3 : Inv X pins σ' H' { s' with heap := h3 } := J.landed nb fl3.1 (up.trans up3) os ag
    obtain ⟨oe3, vs3, he3, hz3, hd3⟩ := fl3.there
    have nfr : a ∉ frs (X.env :: X.outer) := fun hm => by
      obtain ⟨_, o', e', hnf⟩ := fl3.2.2.1.mem hm
      rw [he3] at e'
      cases e'
      exact hnf _ hd3
    have nL : a ≠ X.env.locals := fun z => nfr (List.mem_filterMap.mpr ⟨X.env, List.mem_cons_self, by rw [hf, z]⟩)
    have nF : a ∉ X.fs := fun hm => by
      obtain ⟨e, he, q⟩ := List.mem_filterMap.mp hm
      exact nfr (List.mem_filterMap.mpr ⟨e, List.mem_cons_of_mem _ he, q⟩)
    have S3 := J3.suite he3 hd3 na nL nF
    have go : ∀ {hds' : List ExceptHandler} {l' : List (Value × Nat × (Addr → Value → Option Addr → TS))}, HdsA X hds' l' → wManyA X.K Wout D l' cls d σ' H' →
        wpAny (model X.prog X.w) X.A (handleBy (.ref a) X.env hds') (SP X pins D) X.xe { s' with heap := h3 } := by
      intro hds' l' hk
      induction hk with
      | nil =>
        intro w
        refine wpAny_handleBy_nil ?_
        obtain ⟨k1, k2, k3, oe, vs, T, oT, ts', he, hz, hd, h1, hr⟩ := id fl3
        unfold PySem.passOn
        refine wpAny_bind (wpAny_field he hd h1 ?_)
        rw [if_neg (show ¬ ((Value.ref T == Value.none) = true) from by simp)]
        have fin : wpAny (model X.prog X.w) X.A (setFlight (.ref a) X.env.frame) (fun _ s4 => wpAny (model X.prog X.w) X.A (throw (.ref a) : Sem Flow) (SP X pins D) X.xe s4) X.xe { s' with heap := h3 } := by
          rw [hf]
          refine HandSPX.setFlight_upZ fl3 fun h4 hh4 up4 => wpAny_throw (tk _ _ ?_)
          exact ⟨a, B, sI, pins, σ', H', cls, d, rfl, J, nb, (up.trans up3).trans up4, .inr (.inr (by rw [hs]; exact hh4)), na, os, ag, w⟩
        first
          | exact wpAny_bind (wpAny_pure (wpAny_bind fin))
          | exact wpAny_bind fin
      | @cons x n c i ts b0 suite np pos' hds2 l2 hc hi hln hsu r ih =>
        intro w
        obtain ⟨b, hb1, hyes, hno⟩ := w
        refine wpAny_handleBy_cons (codeAny_handlers_test ?_) (by intro q; cases q)
        have LT : PySem.W.Looks (model X.prog X.w) h3 (typeOf (.ref a)) cls := fun A Q E s k q => wpAny_typeOf_ref (k _ _ he3) (by rw [hz3.1]; exact q)
        have LM := PySem.W.exm_one (M := model X.prog X.w) (J3.kIn) LT hb1
        have test : ∀ {Q : Value → Shared → Prop} {E : Value → Shared → Prop}, Q c { s' with heap := h3 } → wpAny (model X.prog X.w) (X.A.mark (some (.ref a))) (eval (.Name x np) X.env) Q E { s' with heap := h3 } := fun {Q E} q => by
          obtain ⟨hg, hdbg, hm | ⟨hm, hv, hnn⟩⟩ := hc
          · exact ld_glob (X := X.suite a ((a, oe3) :: (X.pn ++ pins))) S3 hg hm q hdbg
          · exact ld_blt (X := X.suite a ((a, oe3) :: (X.pn ++ pins))) S3 hg hm hv q hnn hdbg
        refine test (LM.here ?_)
        cases b with
        | true =>
          refine codeAny_handlers_suite_as ?_
          refine HandSPX.lands_againZ fl3 fun h4 fl4 up4 => ?_
          have J4 : Inv X pins σ' H' { s' with heap := h4 } := J.landed nb fl4.1 ((up.trans up3).trans up4) os ag
          obtain ⟨oe4, vs4, he4, hz4, hd4⟩ := fl4.there
          have S4 := J4.suite he4 hd4 na nL nF
          refine store_ok (X := X.suite a ((a, oe4) :: (X.pn ++ pins))) (v := .ref a) S4 hN hi (.inl hln) rfl (fun s5 S5 => ?_) (.inr hln)
          refine wpAny_mono ((hsu a oe4 cls d (X.pn ++ pins) hz4 ⟨_, hd4⟩).run [] s5 _ H' _ S5 (hyes rfl a na)) (fun f s6 hsp => ?_) (fun _ _ z => False.elim z)
          have end_ : ∀ {σ6 : L2.St} {H6 : Hp} {Q : Shared → Prop}, Inv (X.suite a ((a, oe4) :: (X.pn ++ pins))) [] σ6 H6 s6 → (∀ s7, Inv X pins (σ6.set i none) H6 s7 → Q s7) →
              wpAny (model X.prog X.w) X.A (do bindName X.env n .none; unbindBehindTheSuite X.env n pos') (fun _ s7 => Q s7) X.xe s6 := fun {σ6 H6 Q} S6 hq => gone_ok (S6.unsuite ok) hN hi hln hq
          cases f with
          | next =>
            obtain ⟨σ6, H6, S6, q6⟩ := hsp
            exact end_ S6 fun s7 J7 => ⟨_, _, J7, q6⟩
          | brk =>
            obtain ⟨σ6, H6, S6, q6⟩ := hsp
            exact end_ S6 fun s7 J7 => ⟨_, _, J7, q6⟩
          | cont =>
            obtain ⟨σ6, H6, S6, q6⟩ := hsp
            exact end_ S6 fun s7 J7 => ⟨_, _, J7, q6⟩
          | ret u =>
            obtain ⟨v6, σ6, H6, S6, r6, q6⟩ := hsp
            exact end_ S6 fun s7 J7 => ⟨_, _, _, J7, r6, q6⟩
        | false =>
          show wpAny _ X.A (handleBy (.ref a) X.env hds2) _ _ _
          exact ih (hno rfl)
    exact go hh w
  · cases f with
    | next =>
      obtain ⟨σ', H', J', q⟩ := hsp
      exact wpAny_execs_nil ⟨σ', H', J'.ofTry ok, q⟩
    | brk =>
      obtain ⟨σ', H', J', q⟩ := hsp
      exact ⟨σ', H', J'.ofTry ok, q⟩
    | cont =>
      obtain ⟨σ', H', J', q⟩ := hsp
      exact ⟨σ', H', J'.ofTry ok, q⟩
    | ret u =>
      obtain ⟨v, σ', H', J', r, q⟩ := hsp
      exact ⟨v, σ', H', J'.ofTry ok, r, q⟩
end
end XR

/-! value trees -/
namespace VT
open PySem L2 XR
inductive D where
  | non
  | bl (b : Bool)
  | int (i : Int)
  | str (x : Str)
  | unk
  | tup (l : List D)
  | map (ks : List Str) (ds : List D)
mutual
def dep : D → Nat
  | .tup l => depL l + 1
  | .map _ ds => depL ds + 1
  | _ => 0
def depL : List D → Nat
  | [] => 0
  | d :: r => max (dep d) (depL r)
end
mutual
def sz : D → Nat
  | .tup l => szL l + 1
  | .map _ ds => szL ds + 1
  | _ => 0
def szL : List D → Nat
  | [] => 0
  | d :: r => sz d + 1 + szL r
end
theorem dep_mem : ∀ {l : List D} {d : D}, d ∈ l → dep d ≤ depL l
  | x :: r, d, h => by
    rw [depL]
    rcases List.mem_cons.mp h with rfl | h
    · exact Nat.le_max_left _ _
    · exact Nat.le_trans (dep_mem h) (Nat.le_max_right _ _)
theorem depL_le {n : Nat} : ∀ {l : List D}, (∀ d ∈ l, dep d ≤ n) → depL l ≤ n
  | [], _ => Nat.zero_le _
  | x :: r, h => by
    rw [depL]
    exact Nat.max_le.mpr ⟨h x List.mem_cons_self, depL_le fun d hd => h d (List.mem_cons_of_mem _ hd)⟩
theorem sz_mem : ∀ {l : List D} {d : D}, d ∈ l → sz d < szL l
  | x :: r, d, h => by
    rw [szL]
    rcases List.mem_cons.mp h with rfl | h
    · omega
    · have := sz_mem h
      omega
/-- a dict of texts -/
def mkv (ks : List Str) (vs : List V) : List (Key × V) := (ks.zip vs).map fun p => (Sum.inr p.1, p.2)
theorem mkv_length {ks : List Str} {vs : List V} (h : ks.length = vs.length) : (mkv ks vs).length = ks.length := by
  unfold mkv
  rw [List.length_map, List.length_zip, ← h, Nat.min_self]
theorem mkv_keys : ∀ {ks : List Str} {vs : List V}, ks.length = vs.length → (mkv ks vs).map (·.1) = ks.map Sum.inr
  | [], [], _ => rfl
  | k :: ks, v :: vs, h => by
    show (Sum.inr k : Key) :: (mkv ks vs).map (·.1) = Sum.inr k :: ks.map Sum.inr
    rw [mkv_keys (Nat.succ.inj h)]
theorem mkv_val : ∀ {ks : List Str} {vs : List V} {i : Nat} {k : Str} {v : V}, ks.Nodup → ks[i]? = some k → vs[i]? = some v → valV (mkv ks vs) (Sum.inr k) = some v
  | k0 :: ks, v0 :: vs, 0, k, v, _, hk, hv => by
    cases hk; cases hv
    exact valV_pos rfl
  | k0 :: ks, v0 :: vs, i + 1, k, v, nd, hk, hv => by
    have hk' : ks[i]? = some k := hk
    have hv' : vs[i]? = some v := hv
    have nd' := List.nodup_cons.mp nd
    have ne : ¬ (Sum.inr k0 : Key) = Sum.inr k := fun z => nd'.1 (by cases z; exact List.mem_of_getElem? hk')
    show valV ((Sum.inr k0, v0) :: mkv ks vs) (Sum.inr k) = some v
    rw [valV_neg ne]
    exact mkv_val nd'.2 hk' hv'
theorem mkv_none : ∀ {ks : List Str} {vs : List V} {k : Str}, k ∉ ks → valV (mkv ks vs) (Sum.inr k) = none
  | [], _, _, _ => rfl
  | k0 :: ks, [], _, _ => rfl
  | k0 :: ks, v0 :: vs, k, h => by
    have ne : ¬ (Sum.inr k0 : Key) = Sum.inr k := fun z => h (by cases z; exact List.mem_cons_self)
    show valV ((Sum.inr k0, v0) :: mkv ks vs) (Sum.inr k) = none
    rw [valV_neg ne]
    exact mkv_none fun z => h (List.mem_cons_of_mem _ z)
def TxOk (x : Str) : Prop := PyData.strOk x = true ∧ x.length ≤ 2000000
/-- the value v stands for the tree d -/
inductive Rep (CU : Addr) (H : Hp) : V → D → Prop
  | non : Rep CU H .non .non
  | bl (b : Bool) : Rep CU H (.bl b) (.bl b)
  | int (i : Int) : Rep CU H (.int i) (.int i)
  | str (x : Str) (h : TxOk x) : Rep CU H (.str x) (.str x)
  | unk {a dx : Addr} (h : H a = some (.ins CU dx [])) : Rep CU H (.ref a) .unk
  | tup {a : Addr} {xs : List V} {ds : List D} (h : H a = some (.tup xs)) (hl : xs.length = ds.length) (hz : ds.length ≤ 60) (hs : ∀ (i : Nat) (v : V) (d : D), xs[i]? = some v → ds[i]? = some d → Rep CU H v d) : Rep CU H (.ref a) (.tup ds)
  | map {a : Addr} {vs : List V} {ks : List Str} {ds : List D} (h : H a = some (.dK (mkv ks vs))) (hv : vs.length = ds.length) (hk : ks.length = ds.length) (hz : ds.length ≤ 60) (nd : ks.Nodup) (ko : ∀ k ∈ ks, TxOk k)
      (hs : ∀ (i : Nat) (v : V) (d : D), vs[i]? = some v → ds[i]? = some d → Rep CU H v d) : Rep CU H (.ref a) (.map ks ds)
/-- the objects of which trees are made -/
def Tr (CU : Addr) (o : HO) : Prop := (∃ dx, o = .ins CU dx []) ∨ (∃ xs, o = .tup xs) ∨ ∃ kvs, o = .dK kvs
section
variable {CU : Addr} {H H' : Hp} {v : V} {d : D}
theorem Rep.mono (m : ∀ a o, H a = some o → Tr CU o → H' a = some o) (h : Rep CU H v d) : Rep CU H' v d := by
  induction h with
  | non => exact .non
  | bl b => exact .bl b
  | int i => exact .int i
  | str x h => exact .str x h
  | unk h => exact .unk (m _ _ h (.inl ⟨_, rfl⟩))
  | tup h hl hz _ ih => exact .tup (m _ _ h (.inr (.inl ⟨_, rfl⟩))) hl hz ih
  | map h hv hk hz nd ko _ ih => exact .map (m _ _ h (.inr (.inr ⟨_, rfl⟩))) hv hk hz nd ko ih
theorem Rep.same (m : Same H H') (h : Rep CU H v d) : Rep CU H' v d := h.mono fun a o e _ => m a o e
theorem tr_lst {xs : List V} : ¬ Tr CU (.lst xs) := fun h => by
  rcases h with ⟨_, z⟩ | ⟨_, z⟩ | ⟨_, z⟩ <;> cases z
theorem Rep.but {w : Addr} {ow : HO} (m : But w H H') (e : H w = some ow) (n : ¬ Tr CU ow) (h : Rep CU H v d) : Rep CU H' v d := h.mono fun a o ea t => m a o ea fun z => n (by rw [z, e] at ea; cases ea; exact t)
theorem ext_get {α : Type} {xs ys : List α} (hl : xs.length = ys.length) (h : ∀ (i : Nat) (x y : α), xs[i]? = some x → ys[i]? = some y → x = y) : xs = ys := by
  refine List.ext_getElem hl fun i h1 h2 => h i _ _ (List.getElem?_eq_getElem h1) (List.getElem?_eq_getElem h2)
theorem mkv_inj : ∀ {ks ks' : List Str} {vs vs' : List V}, ks.length = vs.length → ks'.length = vs'.length → mkv ks vs = mkv ks' vs' → ks = ks' ∧ vs = vs'
  | [], [], [], [], _, _, _ => ⟨rfl, rfl⟩
  | [], k' :: ks', [], v' :: vs', _, _, h => nomatch h
  | k :: ks, [], v :: vs, [], _, _, h => nomatch h
  | k :: ks, k' :: ks', v :: vs, v' :: vs', h1, h2, h => by
    have h0 : ((Sum.inr k : Key), v) :: mkv ks vs = (Sum.inr k', v') :: mkv ks' vs' := h
    have e := List.cons.inj h0
    obtain ⟨e1, e2⟩ := mkv_inj (Nat.succ.inj h1) (Nat.succ.inj h2) e.2
    have e3 := Prod.mk.inj e.1
    refine ⟨?_, ?_⟩
    · rw [e1, Sum.inr.inj e3.1]
    · rw [e2, e3.2]
theorem Rep.fn {d' : D} (h : Rep CU H v d) (h' : Rep CU H v d') : d = d' := by
  induction h generalizing d' with
  | non => cases h'; rfl
  | bl b => cases h'; rfl
  | int i => cases h'; rfl
  | str x h => cases h'; rfl
  | unk h =>
    cases h' with
    | unk h2 => rfl
    | tup h2 => rw [h] at h2; cases h2
    | map h2 => rw [h] at h2; cases h2
  | @tup a xs ds h hl hz hs ih =>
    cases h' with
    | unk h2 => rw [h] at h2; cases h2
    | map h2 => rw [h] at h2; cases h2
    | @tup _ xs' ds' h2 hl2 hz2 hs2 =>
      rw [h] at h2
      cases h2
      congr 1
      refine ext_get (hl.symm.trans hl2) fun i x y hx hy => ?_
      have hi : i < xs.length := by rw [hl]; exact (List.getElem?_eq_some_iff.mp hx).1
      exact ih i _ x (List.getElem?_eq_getElem hi) hx (hs2 i _ y (List.getElem?_eq_getElem hi) hy)
  | @map a vs ks ds h hv hk hz nd ko hs ih =>
    cases h' with
    | unk h2 => rw [h] at h2; cases h2
    | tup h2 => rw [h] at h2; cases h2
    | @map _ vs' ks' ds' h2 hv2 hk2 hz2 nd2 ko2 hs2 =>
      rw [h] at h2
      obtain ⟨e1, e2⟩ := mkv_inj (hk.trans hv.symm) (hk2.trans hv2.symm) (HO.dK.inj (Option.some.inj h2))
      subst e1
      subst e2
      congr 1
      refine ext_get (hv.symm.trans hv2) fun i x y hx hy => ?_
      have hi : i < vs.length := by rw [hv]; exact (List.getElem?_eq_some_iff.mp hx).1
      exact ih i _ x (List.getElem?_eq_getElem hi) hx (hs2 i _ y (List.getElem?_eq_getElem hi) hy)
/-- a tree in which the object at a does not stand -/
theorem Rep.off {a : Addr} {D0 : D} {o : HO} (h0 : Rep CU H (.ref a) D0) (h : Rep CU H v d) (hs : sz d < sz D0) : Rep CU (upd H a o) v d := by
  have key : ∀ {b : Addr} {d' : D} {u : HO}, Rep CU H (.ref b) d' → sz d' < sz D0 → H b = some u → upd H a o b = some u := fun {b d' u} r hz e => by
    rw [upd_ne]
    · exact e
    · intro z
      subst z
      rw [r.fn h0] at hz
      exact Nat.lt_irrefl _ hz
  induction h with
  | non => exact .non
  | bl b => exact .bl b
  | int i => exact .int i
  | str x h => exact .str x h
  | unk h => exact .unk (key (.unk h) hs h)
  | @tup b xs ds h hl hz hs' ih =>
    refine .tup (key (.tup h hl hz hs') hs h) hl hz fun i v d hx hd => ih i v d hx hd ?_
    have := sz_mem (List.mem_of_getElem? hd)
    rw [sz] at hs
    omega
  | @map b vs ks ds h hv hk hz nd ko hs' ih =>
    refine .map (key (.map h hv hk hz nd ko hs') hs h) hv hk hz nd ko fun i v d hx hd => ih i v d hx hd ?_
    have := sz_mem (List.mem_of_getElem? hd)
    rw [sz] at hs
    omega
end
end VT

/-! a cut in a walk: what holds behind a statement or an expression, said once -/
namespace XR
open PySem PySem.Spec PyProof.Rows L2
variable {X : Cx}
def tVia (t : TS) : TS := fun D σ H => ∃ F : L2.St → Hp → Prop, t { D with nx := F } σ H ∧ ∀ σ' H', F σ' H' → D.nx σ' H'
theorem ps_via {st : Stmt} {t : TS} (h : PS X st t) : PS X st (tVia t) := by
  refine ⟨fun pins s σ H D I hw => ?_⟩
  obtain ⟨F, ht, hF⟩ := hw
  refine thn (h.run pins s σ H _ I ht) fun f s1 q => ?_
  cases f with
  | next => obtain ⟨σ', H', I2, q⟩ := q; exact ⟨σ', H', I2, hF _ _ q⟩
  | brk => exact q
  | cont => exact q
  | ret v => exact q
def eVia (t : TE) : TE := fun σ H Q => ∃ F : VK, t σ H F ∧ ∀ v H', F v H' → Q v H'
theorem pe_via {e : Expr} {t : TE} (h : PE X e t) : PE X e (eVia t) := by
  refine ⟨fun pins s σ H Q I hw => ?_⟩
  obtain ⟨F, ht, hF⟩ := hw
  refine thn (h.run pins s σ H _ I ht) fun v s1 ⟨x, H1, I2, r, q⟩ => ⟨x, H1, I2, r, hF _ _ q⟩
/-- one expression, two rules -/
def eAlt (t u : TE) : TE := fun σ H Q => t σ H Q ∨ u σ H Q
theorem pe_alt {e : Expr} {t u : TE} (h : PE X e t) (h2 : PE X e u) : PE X e (eAlt t u) := by
  refine ⟨fun pins s σ H Q I hw => ?_⟩
  rcases hw with hw | hw
  · exact h.run pins s σ H Q I hw
  · exact h2.run pins s σ H Q I hw
end XR

/-! list comprehensions, item by item -/
namespace XR
open PySem L2
theorem yes_i {te : TE} {σ : L2.St} {H : Hp} {N : VK} {M : Hp → Prop} (h : te σ H N) : tYes σ H (fun b H3 => if b = true then te σ H3 N else M H3) := by
  show (if true = true then te σ H N else M H)
  rw [if_pos rfl]
  exact h
theorem lc_rel {J : It} {n : Nat} {G : Hp → Prop} {Y : Nat → Hp → V → Hp → Prop} (w : Walk J n G Y) {g : TG} {te : TE} {vs : List Nat} {σ : L2.St} {H1 : Hp} {D : Addr} {Qd : Hp → Prop} (hD : H1 D = none) (hz : n < sizeLine) (R : Nat → Hp → V → Prop)
    (mS : ∀ i H H' v, Same H H' → R i H v → R i H' v) (mD : ∀ i H H' v l, But D H H' → H D = some (.lst l) → R i H v → R i H' v) (hG : ∀ H', Same H1 H' → G H')
    (hs : ∀ i x H2 H3, i < n → Same H1 H2 → Y i H2 x H3 → ∀ N : V → Hp → Prop, (∀ y H5, Same H2 H5 → R i H5 y → N y H5) → g x (wipe σ vs) H3 fun σ2 H4 => wipe σ2 vs = wipe σ vs ∧ te σ2 H4 N)
    (mono : ∀ x H3 (Q Q' : L2.St → Hp → Prop), (∀ σ2 H4, Q σ2 H4 → Q' σ2 H4) → g x (wipe σ vs) H3 Q → g x (wipe σ vs) H3 Q')
    (hd : ∀ H' ys, Same H1 H' → H' D = some (.lst ys) → ys.length = n → (∀ i v, ys[i]? = some v → R i H' v) → Qd H') :
    ∃ W : Nat → Nat → Hp → Prop, (∃ m, W 0 m (upd H1 D (.lst []))) ∧ ∀ i m H, W i m H →
      (J.stop i H ∧ Qd H) ∨ (J.go i H ∧ ∃ Nx : Hp → Prop, (∀ H', Nx H' → ∃ m', m' < m ∧ W (i + 1) m' H') ∧ ∀ x H', J.yld i H x H' → g x (wipe σ vs) H' fun σ2 H2 => wipe σ2 vs = wipe σ vs ∧ tYes σ2 H2 fun b H3 =>
        if b = true then te σ2 H3 fun y H4 => ∃ acc, H4 D = some (.lst acc) ∧ acc.length < sizeLine ∧ Nx (upd H4 D (.lst (acc ++ [y]))) else Nx H3) := by
  refine lc_it w (fun i H' => Same H1 H' ∧ ∃ acc, H' D = some (.lst acc) ∧ acc.length = i ∧ ∀ j v, acc[j]? = some v → R j H' v) ⟨same_new hD, [], upd_same, rfl, fun j v h => nomatch h⟩ (fun i H' _ q => hG H' q.1) ?_ ?_
  · rintro i x H2 H3 hi ⟨m, acc, f, hl, hr⟩ hy
    refine mono x H3 _ _ (fun σ2 H4 q => ⟨q.1, yes_i q.2⟩) (hs i x H2 H3 hi m hy _ fun y H5 m5 ry => ?_)
    have f5 := m5 _ _ f
    refine ⟨acc, f5, by omega, fun b o e => ?_, acc ++ [y], upd_same, by rw [List.length_append, hl]; rfl, fun j v hj => ?_⟩
    · rw [upd_ne (ne_of_none e hD)]
      exact m5 _ _ (m _ _ e)
    · have bu : But D H5 (upd H5 D (.lst (acc ++ [y]))) := But.upd
      by_cases hjl : j < acc.length
      · rw [List.getElem?_append_left hjl] at hj
        exact mD j _ _ v _ bu f5 (mS j _ _ v m5 (hr j v hj))
      · have hlt := (List.getElem?_eq_some_iff.mp hj).1
        rw [List.length_append] at hlt
        have hlt2 : j < acc.length + 1 := hlt
        have : j = acc.length := by omega
        subst this
        rw [List.getElem?_append_right (Nat.le_refl _), Nat.sub_self] at hj
        cases hj
        rw [hl]
        exact mD i _ _ _ _ bu f5 ry
  · rintro H' ⟨m, acc, f, hl, hr⟩
    exact hd H' acc m f hl hr
theorem mono_name {i : Nat} {σ : L2.St} : ∀ x H3 (Q Q' : L2.St → Hp → Prop), (∀ σ2 H4, Q σ2 H4 → Q' σ2 H4) → gName i x σ H3 Q → gName i x σ H3 Q' := fun _ _ _ _ h q => h _ _ q
theorem mono_pair {K : PySem.W.Frag} {i j n : Nat} {σ : L2.St} : ∀ x H3 (Q Q' : L2.St → Hp → Prop), (∀ σ2 H4, Q σ2 H4 → Q' σ2 H4) → gTup K n (gCons (gName i) (gCons (gName j) gNil)) x σ H3 Q → gTup K n (gCons (gName i) (gCons (gName j) gNil)) x σ H3 Q' := by
  rintro x H3 Q Q' h ⟨a, xs, e1, e2, e3, v, r, e4, v2, r2, e5, e6, q⟩
  exact ⟨a, xs, e1, e2, e3, v, r, e4, v2, r2, e5, e6, h _ _ q⟩
/-- the items are those of ys, whatever the heap -/
theorem lc_pure {J : It} {n : Nat} {G : Hp → Prop} {Y : Nat → Hp → V → Hp → Prop} (w : Walk J n G Y) {g : TG} {te : TE} {vs : List Nat} {σ : L2.St} {H1 : Hp} {D : Addr} {Qd : Hp → Prop} (hD : H1 D = none) (ys : List V) (hn : ys.length = n) (hz : n < sizeLine) (hG : ∀ H', Same H1 H' → G H')
    (hs : ∀ i x H2 H3 y, ys[i]? = some y → Same H1 H2 → Y i H2 x H3 → ∀ N : V → Hp → Prop, (∀ H5, Same H2 H5 → N y H5) → g x (wipe σ vs) H3 fun σ2 H4 => wipe σ2 vs = wipe σ vs ∧ te σ2 H4 N)
    (mono : ∀ x H3 (Q Q' : L2.St → Hp → Prop), (∀ σ2 H4, Q σ2 H4 → Q' σ2 H4) → g x (wipe σ vs) H3 Q → g x (wipe σ vs) H3 Q')
    (hd : ∀ H', Same H1 H' → H' D = some (.lst ys) → Qd H') :
    ∃ W : Nat → Nat → Hp → Prop, (∃ m, W 0 m (upd H1 D (.lst []))) ∧ ∀ i m H, W i m H →
      (J.stop i H ∧ Qd H) ∨ (J.go i H ∧ ∃ Nx : Hp → Prop, (∀ H', Nx H' → ∃ m', m' < m ∧ W (i + 1) m' H') ∧ ∀ x H', J.yld i H x H' → g x (wipe σ vs) H' fun σ2 H2 => wipe σ2 vs = wipe σ vs ∧ tYes σ2 H2 fun b H3 =>
        if b = true then te σ2 H3 fun y H4 => ∃ acc, H4 D = some (.lst acc) ∧ acc.length < sizeLine ∧ Nx (upd H4 D (.lst (acc ++ [y]))) else Nx H3) := by
  refine lc_rel w hD hz (fun i _ v => ys[i]? = some v) (fun _ _ _ _ _ h => h) (fun _ _ _ _ _ _ _ h => h) hG (fun i x H2 H3 hi m hy N hN => ?_) mono (fun H' zs m f hl hr => ?_)
  · have hi' : i < ys.length := by omega
    exact hs i x H2 H3 ys[i] (List.getElem?_eq_getElem hi') m hy N fun H5 m5 => hN _ H5 m5 (List.getElem?_eq_getElem hi')
  · have e : zs = ys := by
      refine List.ext_getElem (by omega) fun i h1 h2 => ?_
      have := hr i zs[i] (List.getElem?_eq_getElem h1)
      rw [List.getElem?_eq_getElem h2] at this
      exact (Option.some.inj this).symm
    rw [e] at f
    exact hd H' m f
theorem same_lock {H H' : Hp} {d : Addr} {od : Obj} {u : HO} (hd : H d = some u) (m : Same (upd H d (.frz od u)) H') : Same H (upd H' d u) := fun b o e => by
  by_cases hb : b = d
  · subst hb
    rw [upd_same, ← hd, e]
  · rw [upd_ne hb]
    exact m b o (by rw [upd_ne hb]; exact e)
theorem mkv_get : ∀ {ks : List Str} {vs : List V} {i : Nat} {k : Key} {v : V}, (VT.mkv ks vs)[i]? = some (k, v) → ∃ x, ks[i]? = some x ∧ k = Sum.inr x ∧ vs[i]? = some v
  | [], _, i, k, v, h => by cases h
  | _ :: _, [], i, k, v, h => by cases h
  | k0 :: ks, v0 :: vs, 0, k, v, h => by
    have h' : some ((Sum.inr k0 : Key), v0) = some (k, v) := h
    cases h'
    exact ⟨k0, rfl, rfl, rfl⟩
  | k0 :: ks, v0 :: vs, i + 1, k, v, h => mkv_get (ks := ks) (vs := vs) (i := i) h
end XR

/-! comprehensions item by item; what is told of the items ahead is at hand -/
namespace XR
open PySem L2
theorem dc_it {J : It} {n : Nat} {G : Hp → Prop} {Y : Nat → Hp → V → Hp → Prop} (w : Walk J n G Y) {g : TG} {tt : TT} {tk tv : TE} {vs : List Nat} {σ : L2.St} {H1 : Hp} {D : Addr} {Qd : Hp → Prop} (Pv : Nat → Hp → Prop) (h0 : Pv 0 (upd H1 D (.dK []))) (hG : ∀ i H, i ≤ n → Pv i H → G H)
    (hs : ∀ i x H H', i < n → Pv i H → Y i H x H' → g x (wipe σ vs) H' fun σ2 H2 => wipe σ2 vs = wipe σ vs ∧ tt σ2 H2 fun b H3 =>
      if b = true then tk σ2 H3 fun y H4 => tv σ2 H4 fun z H5 => ∃ kvs k, y = kV k ∧ H5 D = some (.dK kvs) ∧ kvs.length < sizeLine ∧ Pv (i + 1) (upd H5 D (.dK (putK kvs k z))) else Pv (i + 1) H3) (hd : ∀ H, Pv n H → Qd H) :
    ∃ W : Nat → Nat → Hp → Prop, (∃ m, W 0 m (upd H1 D (.dK []))) ∧ ∀ i m H, W i m H →
      (J.stop i H ∧ Qd H) ∨ (J.go i H ∧ ∃ Nx : Hp → Prop, (∀ H', Nx H' → ∃ m', m' < m ∧ W (i + 1) m' H') ∧ ∀ x H', J.yld i H x H' → g x (wipe σ vs) H' fun σ2 H2 => wipe σ2 vs = wipe σ vs ∧ tt σ2 H2 fun b H3 =>
        if b = true then tk σ2 H3 fun y H4 => tv σ2 H4 fun z H5 => ∃ kvs k, y = kV k ∧ H5 D = some (.dK kvs) ∧ kvs.length < sizeLine ∧ Nx (upd H5 D (.dK (putK kvs k z))) else Nx H3) := by
  refine ⟨fun i m H => m = n - i ∧ i ≤ n ∧ Pv i H, ⟨n, by simp, Nat.zero_le _, h0⟩, ?_⟩
  rintro i m H ⟨rfl, hi, p⟩
  have q := hG i H hi p
  by_cases hlt : i < n
  · exact .inr ⟨w.goes i H hlt q, Pv (i + 1), fun H' p' => ⟨n - (i + 1), by omega, rfl, hlt, p'⟩, fun x H' y => hs i x H H' hlt p (w.yields i H x H' hlt q y)⟩
  · have e : i = n := by omega
    subst e
    exact .inl ⟨w.stops H q, hd H p⟩
theorem yes_t {σ : L2.St} {H : Hp} {F M : Hp → Prop} (h : F H) : tYes σ H (fun b H3 => if b = true then F H3 else M H3) := by
  show (if true = true then F H else M H)
  rw [if_pos rfl]
  exact h
theorem app_get {α : Type} {l : List α} {x y : α} {j : Nat} (h : (l ++ [x])[j]? = some y) : (j < l.length ∧ l[j]? = some y) ∨ (j = l.length ∧ y = x) := by
  by_cases hj : j < l.length
  · rw [List.getElem?_append_left hj] at h
    exact .inl ⟨hj, h⟩
  · have hl := (List.getElem?_eq_some_iff.mp h).1
    rw [List.length_append] at hl
    have hl2 : j < l.length + 1 := hl
    have e : j = l.length := by omega
    subst e
    rw [List.getElem?_append_right (Nat.le_refl _), Nat.sub_self] at h
    cases h
    exact .inr ⟨rfl, rfl⟩
theorem mkv_snoc : ∀ {ks : List Str} {vs : List V} {k : Str} {v : V}, ks.length = vs.length → VT.mkv (ks ++ [k]) (vs ++ [v]) = VT.mkv ks vs ++ [(Sum.inr k, v)] := fun {ks vs k v} h => by
  unfold VT.mkv
  rw [List.zip_append h, List.map_append]
  rfl
theorem lc_relX {J : It} {n : Nat} {G : Hp → Prop} {Y : Nat → Hp → V → Hp → Prop} (w : Walk J n G Y) {g : TG} {te : TE} {vs : List Nat} {σ : L2.St} {H1 : Hp} {D : Addr} {Qd : Hp → Prop} (hD : H1 D = none) (hz : n < sizeLine) (R : Nat → Hp → V → Prop)
    (mS : ∀ i H H' v, Same H H' → R i H v → R i H' v) (mD : ∀ i H H' v l, But D H H' → H D = some (.lst l) → R i H v → R i H' v) (hG : ∀ H', Same H1 H' → G H')
    (hs : ∀ i x H2 H3, i < n → Same H1 H2 → (∀ j, j < i → ∃ H v, R j H v) → Y i H2 x H3 → ∀ N : V → Hp → Prop, (∀ y H5, Same H2 H5 → R i H5 y → N y H5) → g x (wipe σ vs) H3 fun σ2 H4 => wipe σ2 vs = wipe σ vs ∧ te σ2 H4 N)
    (mono : ∀ x H3 (Q Q' : L2.St → Hp → Prop), (∀ σ2 H4, Q σ2 H4 → Q' σ2 H4) → g x (wipe σ vs) H3 Q → g x (wipe σ vs) H3 Q')
    (hd : ∀ H' ys, Same H1 H' → H' D = some (.lst ys) → ys.length = n → (∀ i v, ys[i]? = some v → R i H' v) → Qd H') :
    ∃ W : Nat → Nat → Hp → Prop, (∃ m, W 0 m (upd H1 D (.lst []))) ∧ ∀ i m H, W i m H →
      (J.stop i H ∧ Qd H) ∨ (J.go i H ∧ ∃ Nx : Hp → Prop, (∀ H', Nx H' → ∃ m', m' < m ∧ W (i + 1) m' H') ∧ ∀ x H', J.yld i H x H' → g x (wipe σ vs) H' fun σ2 H2 => wipe σ2 vs = wipe σ vs ∧ tYes σ2 H2 fun b H3 =>
        if b = true then te σ2 H3 fun y H4 => ∃ acc, H4 D = some (.lst acc) ∧ acc.length < sizeLine ∧ Nx (upd H4 D (.lst (acc ++ [y]))) else Nx H3) := by
  refine lc_it w (fun i H' => Same H1 H' ∧ ∃ acc, H' D = some (.lst acc) ∧ acc.length = i ∧ ∀ j v, acc[j]? = some v → R j H' v) ⟨same_new hD, [], upd_same, rfl, fun j v h => nomatch h⟩ (fun i H' _ q => hG H' q.1) ?_ ?_
  · rintro i x H2 H3 hi ⟨m, acc, f, hl, hr⟩ hy
    have pr : ∀ j, j < i → ∃ H v, R j H v := fun j hj => ⟨H2, _, hr j acc[j] (List.getElem?_eq_getElem (by omega))⟩
    refine mono x H3 _ _ (fun σ2 H4 q => ⟨q.1, yes_i q.2⟩) (hs i x H2 H3 hi m pr hy _ fun y H5 m5 ry => ?_)
    have f5 := m5 _ _ f
    have bu : But D H5 (upd H5 D (.lst (acc ++ [y]))) := But.upd
    refine ⟨acc, f5, by omega, fun b o e => ?_, acc ++ [y], upd_same, by rw [List.length_append, hl]; rfl, fun j v hj => ?_⟩
    · rw [upd_ne (ne_of_none e hD)]
      exact m5 _ _ (m _ _ e)
    · rcases app_get hj with ⟨_, q⟩ | ⟨q, q2⟩
      · exact mD j _ _ v _ bu f5 (mS j _ _ v m5 (hr j v q))
      · subst q q2
        rw [hl]
        exact mD i _ _ _ _ bu f5 ry
  · rintro H' ⟨m, acc, f, hl, hr⟩
    exact hd H' acc m f hl hr
theorem dc_rel {J : It} {n : Nat} {G : Hp → Prop} {Y : Nat → Hp → V → Hp → Prop} (w : Walk J n G Y) {g : TG} {tk tv : TE} {vs : List Nat} {σ : L2.St} {H1 : Hp} {D : Addr} {Qd : Hp → Prop} (hD : H1 D = none) (ks : List Str) (hk : ks.length = n) (nd : ks.Nodup) (hz : n < sizeLine) (R : Nat → Hp → V → Prop)
    (mS : ∀ i H H' v, Same H H' → R i H v → R i H' v) (mD : ∀ i H H' v, But D H H' → R i H v → R i H' v) (hG : ∀ H', Same H1 H' → G H')
    (hs : ∀ i x k H2 H3, ks[i]? = some k → Same H1 H2 → H2 D ≠ none → (∀ j, j < i → ∃ H v, R j H v) → Y i H2 x H3 → ∀ N : V → V → Hp → Prop, (∀ y H5, Same H2 H5 → R i H5 y → N (.str k) y H5) → g x (wipe σ vs) H3 fun σ2 H4 => wipe σ2 vs = wipe σ vs ∧ tk σ2 H4 fun y H5 => tv σ2 H5 (N y))
    (mono : ∀ x H3 (Q Q' : L2.St → Hp → Prop), (∀ σ2 H4, Q σ2 H4 → Q' σ2 H4) → g x (wipe σ vs) H3 Q → g x (wipe σ vs) H3 Q')
    (hd : ∀ H' ys, Same H1 H' → H' D = some (.dK (VT.mkv ks ys)) → ys.length = n → (∀ i v, ys[i]? = some v → R i H' v) → Qd H') :
    ∃ W : Nat → Nat → Hp → Prop, (∃ m, W 0 m (upd H1 D (.dK []))) ∧ ∀ i m H, W i m H →
      (J.stop i H ∧ Qd H) ∨ (J.go i H ∧ ∃ Nx : Hp → Prop, (∀ H', Nx H' → ∃ m', m' < m ∧ W (i + 1) m' H') ∧ ∀ x H', J.yld i H x H' → g x (wipe σ vs) H' fun σ2 H2 => wipe σ2 vs = wipe σ vs ∧ tYes σ2 H2 fun b H3 =>
        if b = true then tk σ2 H3 fun y H4 => tv σ2 H4 fun z H5 => ∃ kvs k, y = kV k ∧ H5 D = some (.dK kvs) ∧ kvs.length < sizeLine ∧ Nx (upd H5 D (.dK (putK kvs k z))) else Nx H3) := by
  refine dc_it w (fun i H' => Same H1 H' ∧ ∃ acc : List V, H' D = some (.dK (VT.mkv (ks.take i) acc)) ∧ acc.length = i ∧ ∀ j v, acc[j]? = some v → R j H' v) ⟨same_new hD, [], by rw [upd_same]; rfl, rfl, fun j v h => nomatch h⟩ (fun i H' _ q => hG H' q.1) ?_ ?_
  · rintro i x H2 H3 hi ⟨m, acc, f, hl, hr⟩ hy
    have hki : ks[i]? = some ks[i] := List.getElem?_eq_getElem (by omega)
    have pr : ∀ j, j < i → ∃ H v, R j H v := fun j hj => ⟨H2, _, hr j acc[j] (List.getElem?_eq_getElem (by omega))⟩
    refine mono x H3 _ _ (fun σ2 H4 q => ⟨q.1, ?_⟩) (hs i x ks[i] H2 H3 hki m (by rw [f]; intro z; cases z) pr hy (fun k0 z H5 => ∃ kvs k, k0 = kV k ∧ H5 D = some (.dK kvs) ∧ kvs.length < sizeLine ∧ (Same H1 (upd H5 D (.dK (putK kvs k z))) ∧ ∃ acc : List V, (upd H5 D (.dK (putK kvs k z))) D = some (.dK (VT.mkv (ks.take (i + 1)) acc)) ∧ acc.length = i + 1 ∧ ∀ j v, acc[j]? = some v → R j (upd H5 D (.dK (putK kvs k z))) v)) fun y H5 m5 ry => ?_)
    · exact yes_t q.2
    have f5 := m5 _ _ f
    have lt : (ks.take i).length = acc.length := by rw [List.length_take, hl]; omega
    have nk : ks[i] ∉ ks.take i := fun hm => by
      obtain ⟨j, hj, ej⟩ := List.mem_iff_getElem.mp hm
      rw [List.length_take] at hj
      rw [List.getElem_take] at ej
      have := (List.pairwise_iff_getElem.mp nd) j i (by omega) (by omega) (by omega)
      exact this ej
    have ep : putK (VT.mkv (ks.take i) acc) (Sum.inr ks[i]) y = VT.mkv (ks.take (i + 1)) (acc ++ [y]) := by
      rw [putK_new y (VT.mkv_none (vs := acc) nk), List.take_add_one, hki]
      exact (mkv_snoc lt).symm
    refine ⟨_, Sum.inr ks[i], rfl, f5, by rw [VT.mkv_length lt, List.length_take]; omega, ?_⟩
    rw [ep]
    have bu : But D H5 (upd H5 D (.dK (VT.mkv (ks.take (i + 1)) (acc ++ [y])))) := But.upd
    refine ⟨fun b o e => ?_, acc ++ [y], upd_same, by rw [List.length_append, hl]; rfl, fun j v hj => ?_⟩
    · rw [upd_ne (ne_of_none e hD)]
      exact m5 _ _ (m _ _ e)
    · rcases app_get hj with ⟨_, q⟩ | ⟨q, q2⟩
      · exact mD j _ _ v bu (mS j _ _ v m5 (hr j v q))
      · subst q q2
        rw [hl]
        exact mD i _ _ _ bu ry
  · rintro H' ⟨m, acc, f, hl, hr⟩
    rw [← hk, List.take_length] at f
    exact hd H' acc m f hl hr
end XR

/-! trees within a part of the heap -/
namespace VT
open PySem L2 XR
open Classical in
noncomputable def keepH (P : Addr → Prop) (H : Hp) : Hp := fun b => if P b then H b else none
variable {CU : Addr} {P : Addr → Prop} {H H' : Hp} {v : V} {d : D}
theorem keep_at {b : Addr} (h : P b) : keepH P H b = H b := by unfold keepH; rw [if_pos h]
theorem keep_some {b : Addr} {o : HO} (h : keepH P H b = some o) : P b ∧ H b = some o := by
  unfold keepH at h
  split at h
  · exact ⟨by assumption, h⟩
  · cases h
theorem keep_same (m : Same H H') : Same (keepH P H) (keepH P H') := fun b o e => by
  obtain ⟨p, e'⟩ := keep_some e
  rw [keep_at p]
  exact m b o e'
theorem Rep.ofKeep (h : Rep CU (keepH P H) v d) : Rep CU H v d := h.mono fun a o e _ => (keep_some e).2
theorem Rep.all (h : Rep CU H v d) : Rep CU (keepH (fun _ => True) H) v d := h.mono fun a o e _ => by rw [keep_at trivial]; exact e
theorem Rep.keepS (m : Same H H') (h : Rep CU (keepH P H) v d) : Rep CU (keepH P H') v d := h.same (keep_same m)
theorem Rep.within {P' : Addr → Prop} (hp : ∀ b o, P b → H b = some o → P' b) (h : Rep CU (keepH P H) v d) : Rep CU (keepH P' H) v d := h.mono fun a o e _ => by
  obtain ⟨p, e'⟩ := keep_some e
  rw [keep_at (hp a o p e')]
  exact e'
/-- a new object does not stand in it -/
theorem Rep.notNew {D : Addr} (hD : H D = none) (m : Same H H') (h : Rep CU (keepH P H) v d) : Rep CU (keepH (fun b => P b ∧ b ≠ D) H') v d := (h.within (P' := fun b => P b ∧ b ≠ D) fun b o p e => ⟨p, ne_of_none e hD⟩).keepS m
theorem keep_but {D : Addr} (m : But D H H') : Same (keepH (fun b => P b ∧ b ≠ D) H) (keepH (fun b => P b ∧ b ≠ D) H') := fun b o e => by
  obtain ⟨p, e'⟩ := keep_some e
  rw [keep_at p]
  exact m b o e' p.2
theorem keep_upd {a : Addr} {o : HO} (h : P a) : keepH P (upd H a o) = upd (keepH P H) a o := by
  funext b
  by_cases hb : b = a
  · subst hb
    rw [upd_same, keep_at h, upd_same]
  · rw [upd_ne hb]
    unfold keepH
    rw [upd_ne hb]
theorem keep_unlock {a : Addr} {od : Obj} {u w : HO} (e : H a = some (.frz od w)) (h : Rep CU (keepH P H) v d) : Rep CU (keepH P (upd H a u)) v d := h.mono fun b o e2 t => by
  obtain ⟨p, e'⟩ := keep_some e2
  have nb : b ≠ a := fun z => by
    rw [z, e] at e'
    cases e'
    rcases t with ⟨_, q⟩ | ⟨_, q⟩ | ⟨_, q⟩ <;> cases q
  rw [keep_at p, upd_ne nb]
  exact e'
theorem Rep.keepL {D : Addr} {l : List V} (m : But D H H') (e : H D = some (.lst l)) (h : Rep CU (keepH P H) v d) : Rep CU (keepH P H') v d := h.mono fun b o e2 t => by
  obtain ⟨p, e'⟩ := keep_some e2
  rw [keep_at p]
  refine m b o e' fun z => ?_
  rw [z, e] at e'
  cases e'
  exact tr_lst t
theorem same_none {b : Addr} (m : Same H H') (h : H' b = none) : H b = none := by
  cases e : H b with
  | none => rfl
  | some o => rw [m _ _ e] at h; cases h
theorem Rep.tupKid {a : Addr} {xs : List V} {ds : List D} (h : Rep CU H (.ref a) (.tup ds)) (e : H a = some (.tup xs)) : xs.length = ds.length ∧ ds.length ≤ 60 ∧ ∀ (i : Nat) (v : V) (d : D), xs[i]? = some v → ds[i]? = some d → Rep CU H v d := by
  cases h with
  | tup h hl hz hs =>
    rw [h] at e
    cases e
    exact ⟨hl, hz, hs⟩
theorem Rep.mapKid {a : Addr} {kvs : List (Key × V)} {ks : List Str} {ds : List D} (h : Rep CU H (.ref a) (.map ks ds)) (e : H a = some (.dK kvs)) : ∃ vs, kvs = mkv ks vs ∧ vs.length = ds.length ∧ ks.length = ds.length ∧ ds.length ≤ 60 ∧ ks.Nodup ∧ (∀ k ∈ ks, TxOk k) ∧ ∀ (i : Nat) (v : V) (d : D), vs[i]? = some v → ds[i]? = some d → Rep CU H v d := by
  cases h with
  | map h hv hk hz nd ko hs =>
    rw [h] at e
    cases e
    exact ⟨_, rfl, hv, hk, hz, nd, ko, hs⟩
end VT

/-! xs != [] of any list; str(x) of a text or a whole number -/
namespace XR
open PySem PySem.Spec PyProof.Rows L2
section
variable {X : Cx}
def rNeNil (K : PySem.W.Frag) : R2 := fun x y H Q => ∃ (a b : Addr) (xs : List V), x = .ref a ∧ y = .ref b ∧ SqL K H a xs ∧ SqL K H b [] ∧ Q (.bl (!xs.isEmpty)) H
theorem op_neNil (hu : X.A.units < cLine) : OpR X (compareOp .NotEq) (rNeNil X.K) := by
  intro pins s σ H x y v u Q I rx ry h
  obtain ⟨a, b, xs, rfl, rfl, ha, hb, q⟩ := h
  obtain rfl : v = Value.ref a := rx
  obtain rfl : u = Value.ref b := ry
  obtain ⟨its, r1, l1, _⟩ := I.list ha
  obtain ⟨its2, r2, l2, _⟩ := I.list hb
  cases r2
  have len := r1.length
  show wpAny (model X.prog X.w) X.A (richCompare .NotEq (.ref a) (.ref b)) (EP X pins σ Q) X.xe s
  cases xs with
  | nil =>
    cases r1
    exact PySem.SeqAt.RcNeAt.lists (e := fun _ => true) l1.isList l2.isList rfl hu (fun j h1 _ => absurd h1 (Nat.not_lt_zero _)) X.prog X.w X.xe _ ⟨.bl false, H, I, rfl, q⟩
  | cons x xs =>
    refine PySem.SeqAt.RcNeAt.lists_lengths l1.isList l2.isList ?_ hu X.prog X.w X.xe _ ⟨.bl true, H, I, rfl, q⟩
    simp only [List.size_toArray, List.length_nil, bne_iff_ne, ne_eq]
    rw [← len]
    simp
/-- str(x) -/
theorem call_strSI : CallR X (.type "str") (fun xs H Q => (∃ a, xs = [.str a] ∧ Q (.str a) H) ∨ ∃ i : Int, xs = [.int i] ∧ i.natAbs.log2 < 1920 ∧ Q (.str (toString i)) H) := by
  intro pins s σ H xs us Q I r h
  rcases h with h | h
  · exact SkE.call_str_str pins s σ H xs us Q I r h
  · exact call_str_int pins s σ H xs us Q I r h
end
end XR

/-! xs == [] of any list -/
namespace XR
open PySem PySem.Spec PyProof.Rows L2
section
variable {X : Cx}
def rEqNil (K : PySem.W.Frag) : R2 := fun x y H Q => ∃ (a b : Addr) (xs : List V), x = .ref a ∧ y = .ref b ∧ SqL K H a xs ∧ SqL K H b [] ∧ Q (.bl xs.isEmpty) H
theorem op_eqNil (hu : X.A.units < cLine) : OpR X (compareOp .Eq) (rEqNil X.K) := by
  intro pins s σ H x y v u Q I rx ry h
  obtain ⟨a, b, xs, rfl, rfl, ha, hb, q⟩ := h
  obtain rfl : v = Value.ref a := rx
  obtain rfl : u = Value.ref b := ry
  obtain ⟨its, r1, l1, _⟩ := I.list ha
  obtain ⟨its2, r2, l2, _⟩ := I.list hb
  cases r2
  have len := r1.length
  show wpAny (model X.prog X.w) X.A (richCompare .Eq (.ref a) (.ref b)) (EP X pins σ Q) X.xe s
  cases xs with
  | nil =>
    cases r1
    exact PySem.SeqAt.RcAt.lists (e := fun _ => true) l1.isList l2.isList rfl hu (fun j h1 _ => absurd h1 (Nat.not_lt_zero _)) X.prog X.w X.xe _ ⟨.bl true, H, I, rfl, q⟩
  | cons x xs =>
    refine PySem.SeqAt.RcAt.lists_lengths l1.isList l2.isList ?_ hu X.prog X.w X.xe _ ⟨.bl false, H, I, rfl, q⟩
    simp only [List.size_toArray, List.length_nil, bne_iff_ne, ne_eq]
    rw [← len]
    simp
end
end XR

/-! value trees, in plain Lean: sorts, sameness -/
namespace VT
open PySem L2
def letters : List Nat := ("abcdefghijklmnopqrstuvwxyz" : Str).cps.toList
def isName (x : Str) : Bool := decide (1 ≤ x.length) && decide (x.length ≤ 12) && x.cps.toList.all fun c => decide (c ∈ letters)
def isTag : List D → Bool
  | [.str m, .str n, .int i] => decide (m = "#") && isName n && decide (1 ≤ i)
  | _ => false
def sort : D → Str
  | .tup l => if isTag l then "tag" else "tuple"
  | .bl _ => "bool"
  | .int _ => "integer"
  | .map _ _ => "map"
  | .str _ => "text"
  | .non => "none"
  | .unk => "none"
def isU : D → Bool
  | .unk => true
  | _ => false
def lsort (d : D) : Str := if isU d then "unknown" else sort d
def leqT : List D → List D → Bool
  | [.str m, .str n, .int i], [.str m', .str n', .int i'] => decide (m = m') && decide (n = n') && decide (i = i')
  | _, _ => false
def get (ks : List Str) (ds : List D) (k : Str) : D := ((ks.zip ds).lookup k).getD .non
def kids : D → D → Option (List (D × D))
  | .tup l, .tup l' => if isTag l then (if leqT l l' then some [] else none) else if l.length = l'.length then some (l.zip l') else none
  | .map ks ds, .map ks' ds' => if ks.Perm ks' then some ((ks.zip ds).map fun p => (p.2, get ks' ds' p.1)) else none
  | .non, .non => some []
  | .bl a, .bl b => if a = b then some [] else none
  | .int a, .int b => if a = b then some [] else none
  | .str a, .str b => if a = b then some [] else none
  | _, _ => none
def verdict (l : List D) : D := if (l.any fun d => match d with | .bl false => true | _ => false) then .bl false else if l.any isU then .unk else .bl true
def same : Nat → D → D → D
  | 0, _, _ => .bl false
  | n + 1, a, b => if (isU a || isU b) = true then .unk else if sort a = sort b then (match kids a b with | none => .bl false | some ps => verdict (ps.map fun p => same n p.1 p.2)) else .bl false
def may : Nat → D → D → Bool
  | 0, _, _ => false
  | n + 1, a, b => if (isU a || isU b) = true then true else if sort a = sort b then (match kids a b with | none => false | some ps => ps.all fun p => may n p.1 p.2) else false
def opn : Nat → D → Nat
  | 0, _ => 0
  | n + 1, d => match d with
    | .unk => 1
    | .tup l => if isTag l then 0 else (l.map (opn n)).sum
    | .map _ ds => (ds.map (opn n)).sum
    | _ => 0
def known : Nat → D → Bool
  | 0, _ => true
  | n + 1, d => match d with
    | .unk => false
    | .tup l => isTag l || l.all (known n)
    | .map _ ds => ds.all (known n)
    | _ => true
/-- keys of a map are unlike, and as many as its values -/
inductive Wf : D → Prop
  | leaf {d : D} (h1 : ∀ l, d ≠ .tup l) (h2 : ∀ ks ds, d ≠ .map ks ds) : Wf d
  | tup {l : List D} (h : ∀ d ∈ l, Wf d) : Wf (.tup l)
  | map {ks : List Str} {ds : List D} (nd : ks.Nodup) (hl : ks.length = ds.length) (h : ∀ d ∈ ds, Wf d) : Wf (.map ks ds)
theorem Rep.wf {CU : Addr} {H : Hp} {v : V} {d : D} (h : Rep CU H v d) : Wf d := by
  induction h with
  | non => exact .leaf (fun _ z => nomatch z) (fun _ _ z => nomatch z)
  | bl b => exact .leaf (fun _ z => nomatch z) (fun _ _ z => nomatch z)
  | int i => exact .leaf (fun _ z => nomatch z) (fun _ _ z => nomatch z)
  | str x h => exact .leaf (fun _ z => nomatch z) (fun _ _ z => nomatch z)
  | unk h => exact .leaf (fun _ z => nomatch z) (fun _ _ z => nomatch z)
  | @tup a xs ds h hl hz hs ih =>
    refine .tup fun d hd => ?_
    obtain ⟨i, hi, rfl⟩ := List.mem_iff_getElem.mp hd
    exact ih i xs[i] _ (List.getElem?_eq_getElem (by omega)) (List.getElem?_eq_getElem hi)
  | @map a vs ks ds h hv hk hz nd ko hs ih =>
    refine .map nd hk fun d hd => ?_
    obtain ⟨i, hi, rfl⟩ := List.mem_iff_getElem.mp hd
    exact ih i vs[i] _ (List.getElem?_eq_getElem (by omega)) (List.getElem?_eq_getElem hi)
theorem get_at : ∀ {ks : List Str} {ds : List D} {i : Nat} {k : Str} {d : D}, ks.Nodup → ks[i]? = some k → ds[i]? = some d → get ks ds k = d
  | k0 :: ks, d0 :: ds, 0, k, d, _, hk, hd => by
    cases hk; cases hd
    simp [get, List.lookup_cons]
  | k0 :: ks, d0 :: ds, i + 1, k, d, nd, hk, hd => by
    have hk' : ks[i]? = some k := hk
    have hd' : ds[i]? = some d := hd
    have nd' := List.nodup_cons.mp nd
    have ne : (k == k0) = false := beq_eq_false_iff_ne.mpr fun z => nd'.1 (by rw [← z]; exact List.mem_of_getElem? hk')
    have := get_at nd'.2 hk' hd'
    simpa [get, List.lookup_cons, ne] using this
theorem get_map {ks : List Str} {ds : List D} (nd : ks.Nodup) (hl : ks.length = ds.length) : ks.map (get ks ds) = ds := by
  refine List.ext_getElem (by rw [List.length_map]; exact hl) fun i h1 h2 => ?_
  rw [List.getElem_map]
  have h3 : i < ks.length := by rw [hl]; exact h2
  exact get_at nd (List.getElem?_eq_getElem h3) (List.getElem?_eq_getElem h2)
/-- what the two lists of a pair list add up to -/
theorem sum_pairs (f : D → Nat) : ∀ ps : List (D × D), ((ps.map (·.1)).map f).sum + ((ps.map (·.2)).map f).sum = (ps.map fun p => f p.1 + f p.2).sum
  | [] => rfl
  | p :: ps => by
    have := sum_pairs f ps
    simp only [List.map_cons, List.sum_cons]
    omega
theorem kids_sum {n : Nat} {a b : D} {ps : List (D × D)} (wa : Wf a) (wb : Wf b) (ua : isU a = false) (ub : isU b = false) (hs : sort a = sort b) (hk : kids a b = some ps) : opn (n + 1) a + opn (n + 1) b = (ps.map fun p => opn n p.1 + opn n p.2).sum := by
  rw [← sum_pairs]
  unfold kids at hk
  split at hk
  · rename_i l l'
    split at hk
    · rename_i ht
      split at hk
      · cases hk
        have ht' : isTag l' = true := by
          by_cases z : isTag l' = true
          · exact z
          · simp only [sort, if_pos ht, if_neg z] at hs
            exact absurd hs (by decide +kernel)
        simp [opn, ht, ht']
      · cases hk
    · rename_i ht
      have ht' : ¬ isTag l' = true := fun z => by
        simp only [sort, if_neg ht, if_pos z] at hs
        exact absurd hs (by decide +kernel)
      split at hk
      · rename_i hl
        cases hk
        rw [List.map_fst_zip (Nat.le_of_eq hl), List.map_snd_zip (Nat.le_of_eq hl.symm)]
        simp only [opn, if_neg ht, if_neg ht']
      · cases hk
  · rename_i ks ds ks' ds'
    split at hk
    · rename_i hp
      cases hk
      cases wa with
      | leaf _ h => exact absurd rfl (h _ _)
      | map nd hl hw =>
      cases wb with
      | leaf _ h => exact absurd rfl (h _ _)
      | map nd' hl' hw' =>
      have e1 : ((ks.zip ds).map fun p => (p.2, get ks' ds' p.1)).map (·.1) = ds := by
        rw [List.map_map]
        exact List.map_snd_zip (Nat.le_of_eq hl.symm)
      have e2 : ((ks.zip ds).map fun p => (p.2, get ks' ds' p.1)).map (·.2) = ks.map (get ks' ds') := by
        rw [List.map_map]
        have : (fun p : Str × D => get ks' ds' p.1) = (get ks' ds') ∘ (fun p : Str × D => p.1) := rfl
        show (ks.zip ds).map (fun p : Str × D => get ks' ds' p.1) = _
        rw [this, ← List.map_map, List.map_fst_zip (Nat.le_of_eq hl)]
      rw [e1, e2]
      have hq : (ks.map (get ks' ds')).Perm ds' := by
        have := hp.map (get ks' ds')
        rwa [get_map nd' hl'] at this
      have := (hq.map (opn n)).sum_nat
      simp only [opn]
      rw [this]
    · cases hk
  · cases hk; rfl
  · split at hk
    · cases hk; rfl
    · cases hk
  · split at hk
    · cases hk; rfl
    · cases hk
  · split at hk
    · cases hk; rfl
    · cases hk
  · cases hk
theorem get_mem {ks : List Str} {ds : List D} {k : Str} (nd : ks.Nodup) (hl : ks.length = ds.length) (h : k ∈ ks) : get ks ds k ∈ ds := by
  obtain ⟨i, hi, rfl⟩ := List.mem_iff_getElem.mp h
  have h2 : i < ds.length := by omega
  rw [get_at nd (List.getElem?_eq_getElem hi) (List.getElem?_eq_getElem h2)]
  exact List.getElem_mem h2
/-- the pairs of a and b are of children of a and children of b -/
theorem kids_of {a b : D} {ps : List (D × D)} (wa : Wf a) (wb : Wf b) (hk : kids a b = some ps) : ∀ p ∈ ps, Wf p.1 ∧ Wf p.2 ∧ dep p.1 < dep a ∧ dep p.2 < dep b := by
  unfold kids at hk
  intro p hp
  split at hk
  · rename_i l l'
    have h1 : ∀ {l : List D}, Wf (.tup l) → ∀ d ∈ l, Wf d ∧ dep d < dep (.tup l) := fun {l} w d hd => by
      cases w with
      | leaf h _ => exact absurd rfl (h _)
      | tup h =>
        have := dep_mem hd
        rw [dep]
        exact ⟨h d hd, by omega⟩
    split at hk
    · split at hk
      · cases hk; cases hp
      · cases hk
    · split at hk
      · cases hk
        obtain ⟨m1, m2⟩ := List.of_mem_zip (a := p.1) (b := p.2) hp
        exact ⟨(h1 wa _ m1).1, (h1 wb _ m2).1, (h1 wa _ m1).2, (h1 wb _ m2).2⟩
      · cases hk
  · rename_i ks ds ks' ds'
    split at hk
    · rename_i hpm
      cases hk
      cases wa with
      | leaf _ h => exact absurd rfl (h _ _)
      | map nd hl hw =>
      cases wb with
      | leaf _ h => exact absurd rfl (h _ _)
      | map nd' hl' hw' =>
      obtain ⟨q, hq, rfl⟩ := List.mem_map.mp hp
      obtain ⟨m1, m2⟩ := List.of_mem_zip (a := q.1) (b := q.2) hq
      have m3 := get_mem nd' hl' (hpm.mem_iff.mp m1)
      have d1 := dep_mem m2
      have d2 := dep_mem m3
      have f1 : dep (.map ks ds) = depL ds + 1 := by rw [dep]
      have f2 : dep (.map ks' ds') = depL ds' + 1 := by rw [dep]
      exact ⟨hw _ m2, hw' _ m3, by rw [f1]; exact Nat.lt_succ_of_le d1, by rw [f2]; exact Nat.lt_succ_of_le d2⟩
    · cases hk
  · cases hk; cases hp
  · split at hk
    · cases hk; cases hp
    · cases hk
  · split at hk
    · cases hk; cases hp
    · cases hk
  · split at hk
    · cases hk; cases hp
    · cases hk
  · cases hk
def res (m : Bool) (o : Nat) : D := if m then (if o = 0 then .bl true else .unk) else .bl false
theorem verdict_res {α : Type} (f : α → Bool) (g : α → Nat) (l : List α) : verdict (l.map fun x => res (f x) (g x)) = res (l.all f) (l.map g).sum := by
  unfold verdict
  rw [List.any_map, List.any_map]
  by_cases ha : l.all f = true
  · have h1 : (l.any ((fun d => match d with | D.bl false => true | _ => false) ∘ fun x => res (f x) (g x))) = false := by
      rw [List.any_eq_false]
      intro x hx
      have := List.all_eq_true.mp ha x hx
      simp only [Function.comp, res, this]
      by_cases z : g x = 0 <;> simp [z]
    rw [h1, ha]
    by_cases hs : (l.map g).sum = 0
    · rw [show res true (l.map g).sum = .bl true from by simp only [res, hs, if_true]]
      have h2 : l.any (isU ∘ fun x => res (f x) (g x)) = false := by
        rw [List.any_eq_false]
        intro x hx
        have e1 := List.all_eq_true.mp ha x hx
        have e2 : g x = 0 := (List.sum_eq_zero_iff_forall_eq_nat.mp hs) _ (List.mem_map.mpr ⟨x, hx, rfl⟩)
        simp [Function.comp, res, e1, e2, isU]
      rw [h2]
      rfl
    · rw [show res true (l.map g).sum = .unk from by simp only [res, if_neg hs, if_true]]
      have h2 : l.any (isU ∘ fun x => res (f x) (g x)) = true := by
        rw [List.any_eq_true]
        have : ∃ x ∈ l, g x ≠ 0 := by
          refine Classical.byContradiction fun z => hs (List.sum_eq_zero_iff_forall_eq_nat.mpr fun y hy => ?_)
          obtain ⟨x, hx, rfl⟩ := List.mem_map.mp hy
          exact Classical.byContradiction fun q => z ⟨x, hx, q⟩
        obtain ⟨x, hx, hg⟩ := this
        have e1 := List.all_eq_true.mp ha x hx
        exact ⟨x, hx, by simp [Function.comp, res, e1, hg, isU]⟩
      rw [h2]
      rfl
  · have ha' : l.all f = false := by simpa using ha
    have h1 : (l.any ((fun d => match d with | D.bl false => true | _ => false) ∘ fun x => res (f x) (g x))) = true := by
      rw [List.any_eq_true]
      have : ∃ x ∈ l, f x = false := by
        refine Classical.byContradiction fun z => ha (List.all_eq_true.mpr fun x hx => ?_)
        cases q : f x with
        | true => rfl
        | false => exact absurd ⟨x, hx, q⟩ z
      obtain ⟨x, hx, hf⟩ := this
      exact ⟨x, hx, by simp [Function.comp, res, hf]⟩
    rw [h1, ha']
    rfl
/-- same is what the law makes of may and of the unknown parts -/
theorem same_is : ∀ (n : Nat) (a b : D), Wf a → Wf b → dep a < n → dep b < n → same n a b = res (may n a b) (opn n a + opn n b)
  | 0, _, _, _, _, h, _ => absurd h (Nat.not_lt_zero _)
  | n + 1, a, b, wa, wb, ha, hb => by
    rw [same, may]
    by_cases hu : (isU a || isU b) = true
    · rw [if_pos hu, if_pos hu]
      have : opn (n + 1) a + opn (n + 1) b ≠ 0 := by
        rcases Bool.or_eq_true_iff.mp hu with z | z
        · cases a <;> simp [isU] at z
          simp [opn]
        · cases b <;> simp [isU] at z
          simp [opn]
      simp only [res, if_true, if_neg this]
    · rw [if_neg hu, if_neg hu]
      have hu' : isU a = false ∧ isU b = false := by simpa using hu
      by_cases hs : sort a = sort b
      · rw [if_pos hs, if_pos hs]
        cases hk : kids a b with
        | none => rfl
        | some ps =>
          show verdict (ps.map fun p => same n p.1 p.2) = res (ps.all fun p => may n p.1 p.2) (opn (n + 1) a + opn (n + 1) b)
          rw [kids_sum wa wb hu'.1 hu'.2 hs hk, ← verdict_res]
          congr 1
          refine List.map_congr_left fun p hp => ?_
          obtain ⟨w1, w2, d1, d2⟩ := kids_of wa wb hk p hp
          exact same_is n p.1 p.2 w1 w2 (by omega) (by omega)
      · rw [if_neg hs, if_neg hs]
        rfl
theorem known_is : ∀ (n : Nat) (d : D), dep d < n → known n d = decide (opn n d = 0)
  | 0, _, h => absurd h (Nat.not_lt_zero _)
  | n + 1, d, h => by
    have key : ∀ l : List D, depL l < n → l.all (known n) = decide ((l.map (opn n)).sum = 0) := fun l hl => by
      rw [Bool.eq_iff_iff, List.all_eq_true, decide_eq_true_iff, List.sum_eq_zero_iff_forall_eq_nat]
      constructor
      · intro z y hy
        obtain ⟨x, hx, rfl⟩ := List.mem_map.mp hy
        have := z x hx
        rw [known_is n x (Nat.lt_of_le_of_lt (dep_mem hx) hl)] at this
        exact of_decide_eq_true this
      · intro z x hx
        rw [known_is n x (Nat.lt_of_le_of_lt (dep_mem hx) hl)]
        exact decide_eq_true (z _ (List.mem_map.mpr ⟨x, hx, rfl⟩))
    cases d with
    | tup l =>
      rw [dep] at h
      have e1 : known (n + 1) (.tup l) = (isTag l || l.all (known n)) := rfl
      have e2 : opn (n + 1) (.tup l) = if isTag l then 0 else (l.map (opn n)).sum := rfl
      rw [e1, e2]
      by_cases ht : isTag l = true
      · simp [ht]
      · rw [if_neg ht, key l (by omega)]
        simp [ht]
    | map ks ds =>
      rw [dep] at h
      exact key ds (by omega)
    | non => simp [known, opn]
    | bl b => simp [known, opn]
    | int i => simp [known, opn]
    | str x => simp [known, opn]
    | unk => simp [known, opn]
end VT

namespace VT
open PySem L2
def pairAt (ks : List Str) (ds : List D) (ks' : List Str) (ds' : List D) (k : Str) : D × D := (get ks ds k, get ks' ds' k)
theorem zip_pairs {ks ks' : List Str} {ds ds' : List D} (nd : ks.Nodup) (hl : ks.length = ds.length) : (ks.zip ds).map (fun p => (p.2, get ks' ds' p.1)) = ks.map (pairAt ks ds ks' ds') := by
  refine List.ext_getElem (by simp [hl]) fun i h1 h2 => ?_
  have h3 : i < ks.length := by simpa using h2
  have h4 : i < ds.length := by omega
  simp only [List.getElem_map, List.getElem_zip, pairAt]
  rw [get_at nd (List.getElem?_eq_getElem h3) (List.getElem?_eq_getElem h4)]
theorem leqT_symm (l l' : List D) : leqT l l' = leqT l' l := by
  unfold leqT
  split
  · rename_i m n i m' n' i'
    simp only [eq_comm]
  · rename_i h
    split
    · rename_i m n i m' n' i'
      exact absurd rfl (h _ _ _ _ _ _ rfl)
    · rfl
def swp (p : D × D) : D × D := (p.2, p.1)
theorem zip_swp : ∀ l l' : List D, (l.zip l').map swp = l'.zip l
  | [], [] => rfl
  | [], _ :: _ => rfl
  | _ :: _, [] => rfl
  | x :: l, y :: l' => by
    show swp (x, y) :: (l.zip l').map swp = (y, x) :: l'.zip l
    rw [zip_swp l l']
    rfl
theorem kids_symm {a b : D} (wa : Wf a) (wb : Wf b) (hs : sort a = sort b) : (kids a b = none ∧ kids b a = none) ∨ ∃ ps qs, kids a b = some ps ∧ kids b a = some qs ∧ qs.Perm (ps.map swp) := by
  cases a with
  | tup l =>
    cases b with
    | tup l' =>
      have ht : isTag l = isTag l' := by
        cases h1 : isTag l <;> cases h2 : isTag l' <;> simp only [sort, h1, h2] at hs <;> first | rfl | exact absurd hs (by decide +kernel)
      show ((if isTag l then (if leqT l l' then some [] else none) else if l.length = l'.length then some (l.zip l') else none) = none ∧ (if isTag l' then (if leqT l' l then some [] else none) else if l'.length = l.length then some (l'.zip l) else none) = none) ∨
        ∃ ps qs, (if isTag l then (if leqT l l' then some [] else none) else if l.length = l'.length then some (l.zip l') else none) = some ps ∧ (if isTag l' then (if leqT l' l then some [] else none) else if l'.length = l.length then some (l'.zip l) else none) = some qs ∧ qs.Perm (ps.map swp)
      rw [← ht, leqT_symm l' l]
      by_cases h1 : isTag l = true
      · rw [if_pos h1, if_pos h1]
        by_cases h2 : leqT l l' = true
        · rw [if_pos h2]
          exact .inr ⟨[], [], rfl, rfl, .nil⟩
        · rw [if_neg h2]
          exact .inl ⟨rfl, rfl⟩
      · rw [if_neg h1, if_neg h1]
        by_cases h2 : l.length = l'.length
        · rw [if_pos h2, if_pos h2.symm]
          refine .inr ⟨_, _, rfl, rfl, ?_⟩
          rw [zip_swp]
        · rw [if_neg h2, if_neg fun z => h2 z.symm]
          exact .inl ⟨rfl, rfl⟩
    | _ => exact .inl ⟨rfl, rfl⟩
  | map ks ds =>
    cases b with
    | map ks' ds' =>
      cases wa with
      | leaf _ h => exact absurd rfl (h _ _)
      | map nd hl hw =>
      cases wb with
      | leaf _ h => exact absurd rfl (h _ _)
      | map nd' hl' hw' =>
      show ((if ks.Perm ks' then some ((ks.zip ds).map fun p => (p.2, get ks' ds' p.1)) else none) = none ∧ (if ks'.Perm ks then some ((ks'.zip ds').map fun p => (p.2, get ks ds p.1)) else none) = none) ∨
        ∃ ps qs, (if ks.Perm ks' then some ((ks.zip ds).map fun p => (p.2, get ks' ds' p.1)) else none) = some ps ∧ (if ks'.Perm ks then some ((ks'.zip ds').map fun p => (p.2, get ks ds p.1)) else none) = some qs ∧ qs.Perm (ps.map swp)
      by_cases h : ks.Perm ks'
      · rw [if_pos h, if_pos h.symm, zip_pairs nd hl, zip_pairs nd' hl']
        refine .inr ⟨_, _, rfl, rfl, ?_⟩
        rw [List.map_map]
        exact h.symm.map _
      · rw [if_neg h, if_neg fun z => h z.symm]
        exact .inl ⟨rfl, rfl⟩
    | _ => exact .inl ⟨rfl, rfl⟩
  | non => cases b <;> first | exact .inl ⟨rfl, rfl⟩ | exact .inr ⟨[], [], rfl, rfl, .nil⟩
  | unk => cases b <;> exact .inl ⟨rfl, rfl⟩
  | bl x =>
    cases b with
    | bl y =>
      show ((if x = y then some [] else none) = none ∧ (if y = x then some [] else none) = none) ∨ ∃ ps qs, (if x = y then some [] else none) = some ps ∧ (if y = x then some [] else none) = some qs ∧ qs.Perm (ps.map swp)
      by_cases h : x = y
      · rw [if_pos h, if_pos h.symm]; exact .inr ⟨[], [], rfl, rfl, .nil⟩
      · rw [if_neg h, if_neg fun z => h z.symm]; exact .inl ⟨rfl, rfl⟩
    | _ => exact .inl ⟨rfl, rfl⟩
  | int x =>
    cases b with
    | int y =>
      show ((if x = y then some [] else none) = none ∧ (if y = x then some [] else none) = none) ∨ ∃ ps qs, (if x = y then some [] else none) = some ps ∧ (if y = x then some [] else none) = some qs ∧ qs.Perm (ps.map swp)
      by_cases h : x = y
      · rw [if_pos h, if_pos h.symm]; exact .inr ⟨[], [], rfl, rfl, .nil⟩
      · rw [if_neg h, if_neg fun z => h z.symm]; exact .inl ⟨rfl, rfl⟩
    | _ => exact .inl ⟨rfl, rfl⟩
  | str x =>
    cases b with
    | str y =>
      show ((if x = y then some [] else none) = none ∧ (if y = x then some [] else none) = none) ∨ ∃ ps qs, (if x = y then some [] else none) = some ps ∧ (if y = x then some [] else none) = some qs ∧ qs.Perm (ps.map swp)
      by_cases h : x = y
      · rw [if_pos h, if_pos h.symm]; exact .inr ⟨[], [], rfl, rfl, .nil⟩
      · rw [if_neg h, if_neg fun z => h z.symm]; exact .inl ⟨rfl, rfl⟩
    | _ => exact .inl ⟨rfl, rfl⟩
theorem all_perm {α : Type} {f : α → Bool} {l l' : List α} (h : l.Perm l') : l.all f = l'.all f := by
  rw [Bool.eq_iff_iff, List.all_eq_true, List.all_eq_true]
  exact ⟨fun z x hx => z x (h.mem_iff.mpr hx), fun z x hx => z x (h.mem_iff.mp hx)⟩
theorem any_perm {α : Type} {f : α → Bool} {l l' : List α} (h : l.Perm l') : l.any f = l'.any f := by
  rw [Bool.eq_iff_iff, List.any_eq_true, List.any_eq_true]
  exact ⟨fun ⟨x, hx, z⟩ => ⟨x, h.mem_iff.mp hx, z⟩, fun ⟨x, hx, z⟩ => ⟨x, h.mem_iff.mpr hx, z⟩⟩
theorem verdict_perm {l l' : List D} (h : l.Perm l') : verdict l = verdict l' := by
  unfold verdict
  rw [any_perm h, any_perm (f := isU) h]
theorem may_symm : ∀ (n : Nat) (a b : D), Wf a → Wf b → may n a b = may n b a
  | 0, _, _, _, _ => rfl
  | n + 1, a, b, wa, wb => by
    rw [may, may, Bool.or_comm (isU b)]
    by_cases hu : (isU a || isU b) = true
    · rw [if_pos hu, if_pos hu]
    · rw [if_neg hu, if_neg hu]
      by_cases hs : sort a = sort b
      · rw [if_pos hs, if_pos hs.symm]
        rcases kids_symm wa wb hs with ⟨h1, h2⟩ | ⟨ps, qs, h1, h2, hp⟩
        · rw [h1, h2]
        · rw [h1, h2]
          show (ps.all fun p => may n p.1 p.2) = qs.all fun p => may n p.1 p.2
          rw [all_perm hp, List.all_map]
          refine Bool.eq_iff_iff.mpr ?_
          rw [List.all_eq_true, List.all_eq_true]
          have key : ∀ p ∈ ps, may n p.1 p.2 = may n p.2 p.1 := fun p hp' => by
            obtain ⟨w1, w2, _⟩ := kids_of wa wb h1 p hp'
            exact may_symm n p.1 p.2 w1 w2
          exact ⟨fun z p hp' => (key p hp').symm.trans (z p hp'), fun z p hp' => (key p hp').trans (z p hp')⟩
      · rw [if_neg hs, if_neg fun z => hs z.symm]
theorem same_symm (n : Nat) (a b : D) (wa : Wf a) (wb : Wf b) (ha : dep a < n) (hb : dep b < n) : same n b a = res (may n a b) (opn n a + opn n b) := by
  rw [same_is n b a wb wa hb ha, may_symm n b a wb wa, Nat.add_comm]
end VT

/-! == of an own instance with any value; x in a list of bools and such instances -/
namespace XR
open PySem PySem.Spec PyProof.Rows L2
section
variable {X : Cx} {C f : Addr} {fd : FuncData} {ps : List Str} {n : Nat} {sp : Sp}
/-- the own __eq__ called from inside richCompare -/
theorem own_eq_call {A : Around} {pins : List (Addr × Obj)} {σ : L2.St} {H : Hp} {s : Shared} {x y : V} {u v : Value} {Q : VK} (F : FnOk X.prog X.w X.K X.mg X.base CX0 n f fd ps sp) (hb : Binds X.K fd ps []) (sb : Sub X n A) (I : Inv X pins σ H s) (rx : RelV x u) (ry : RelV y v)
    (hsp : sp [x, y] H (fun v H' => (∃ b, v = .bl b) ∧ Q v H') E0) : wpAny (model X.prog X.w) A (call (.ref f) [u, v]) (fun w' s' => ∃ b H', w' = .bool b ∧ Inv X pins σ H' s' ∧ Q (.bl b) H') X.xe s := by
  have e0 : Env0 X.prog X.w X.K X.mg X.base A X.stack s H := by
    have e := I.env0
    exact ⟨by rw [sb.fr]; exact e.frames, e.mod, e.bs, e.bsz, e.funs, e.frf, e.hok, e.bare⟩
  have hl := F.len _ _ _ _ hsp
  have r2 : Vals [x, y] [u, v] := .cons rx (.cons ry .nil)
  refine wpAny_call (codeAny_mono (F.run A X.stack s H ⟨[u, v], []⟩ [u, v] [x, y] _ E0 sb.room e0 (by
    have := hb s [u, v] I.kIn (by simpa using hl)
    simpa using this) r2 hsp) fun r s' hq => ?_)
  cases r with
  | error e => exact (show False from hq).elim
  | ok fl =>
    cases fl with
    | ret w =>
      obtain ⟨z, H', I', rz, ⟨b, ez⟩, q⟩ := I.after hq
      subst ez
      cases rz
      exact ⟨b, H', rfl, I', q⟩
    | next => exact False.elim hq
    | brk => exact False.elim hq
    | cont => exact False.elim hq
/-- the left one an own instance, the right one anything -/
theorem rc_own {A : Around} {pins : List (Addr × Obj)} {σ : L2.St} {H : Hp} {s : Shared} {a dx : Addr} {fs : List (Str × V)} {y : V} {v t : Value} {Q : VK} (F : FnOk X.prog X.w X.K X.mg X.base CX0 n f fd ps sp)
    (hs : PySem.W.findIn X.K (.ref C) "__eq__" = some (some (.ref f))) (hf : PySem.W.isFn X.K (.ref f) = true) (hb : Binds X.K fd ps []) (sb : Sub X n A) (I : Inv X pins σ H s) (ry : RelV y v) (ha : H a = some (.ins C dx fs)) (ty : TyX X.K H y t) (hn : PySem.W.notFirst X.K C t = true)
    (hsp : sp [.ref a, y] H (fun v H' => (∃ b, v = .bl b) ∧ Q v H') E0) : wpAny (model X.prog X.w) A (richCompare .Eq (.ref a) v) (fun w' s' => ∃ b H', w' = .bool b ∧ Inv X pins σ H' s' ∧ Q (.bl b) H') X.xe s := by
  obtain ⟨mA, J, _⟩ := ins_get I.hok ha
  obtain ⟨od, J, _⟩ := J.look
  obtain ⟨m, hF⟩ := I.fr
  obtain ⟨Pk, Z, hP, _⟩ := kit_of I ry ty
  refine PySem.W.cmp_K (op := .Eq) (tb := t) sb.room.units0 hF I.ok.mod.kin J (Z.ty _ _ I.kIn hP) hn hs hf ?_
  refine wpAny_mono (own_eq_call F hb sb I (x := .ref a) rfl ry hsp) (fun w' s' hq => ?_) fun _ _ x => x
  obtain ⟨b, H', rfl, q⟩ := hq
  exact ⟨b, H', rfl, q⟩
def rEqU (K : PySem.W.Frag) (C : Addr) (sp : Sp) : R2 := fun x y H Q => ∃ a dx fs t, x = .ref a ∧ H a = some (.ins C dx fs) ∧ TyX K H y t ∧ PySem.W.notFirst K C t = true ∧ sp [x, y] H (fun v H' => (∃ b, v = .bl b) ∧ Q v H') E0
theorem op_eqU (F : FnOk X.prog X.w X.K X.mg X.base CX0 n f fd ps sp) (hs : PySem.W.findIn X.K (.ref C) "__eq__" = some (some (.ref f))) (hf : PySem.W.isFn X.K (.ref f) = true) (hb : Binds X.K fd ps []) (hr : Room n X.A) :
    OpR X (compareOp .Eq) (rEqU X.K C sp) := by
  intro pins s σ H x y v u Q I rx ry h
  obtain ⟨a, dx, fs, t, rfl, ha, ty, hn, hsp⟩ := h
  obtain rfl : v = Value.ref a := rx
  show wpAny (model X.prog X.w) X.A (richCompare .Eq (.ref a) u) (EP X pins σ Q) X.xe s
  refine wpAny_mono (rc_own F hs hf hb ⟨hr, rfl⟩ I ry ha ty hn hsp) (fun w' s' hq => ?_) fun _ _ x => x
  obtain ⟨b, H', rfl, I', q⟩ := hq
  exact ⟨.bl b, H', I', rfl, q⟩
theorem int_declines_plain (b : Bool) (l : Addr) (c : Value) (dd : Option Addr) (sl : Array (Option Value)) :
    Meets (Builtin.«int.__eq__» ⟨[.bool b, .ref l], []⟩) (fun _ R s => s.heap.get? l = some { cls := c, dict := dd, data := .plain, slots := sl } ∧ R (.ok (.ret .notImplemented)) s) :=
  .of_wp fun prog w A R s h => by obtain ⟨hp, g, d, tk, os⟩ := s; obtain ⟨hl, h⟩ := h; wp_walk using AutoSeq1.wpAny_loadPart' hl, wpAny_load hl; exact ⟨_, rfl, h⟩
/-- a bool on the left, an own instance on the right -/
theorem rc_bool_own {A : Around} {pins : List (Addr × Obj)} {σ : L2.St} {H : Hp} {s : Shared} {a dx : Addr} {fs : List (Str × V)} {b : Bool} {Q : VK} (F : FnOk X.prog X.w X.K X.mg X.base CX0 n f fd ps sp)
    (hs : PySem.W.findIn X.K (.ref C) "__eq__" = some (some (.ref f))) (hf : PySem.W.isFn X.K (.ref f) = true) (hb : Binds X.K fd ps []) (sb : Sub X n A) (I : Inv X pins σ H s) (ha : H a = some (.ins C dx fs)) (hsub : PySem.W.subIn X.K (.ref C) (.type "bool") = some false)
    (hsp : sp [.ref a, .bl b] H (fun v H' => (∃ b, v = .bl b) ∧ Q v H') E0) : wpAny (model X.prog X.w) A (richCompare .Eq (.bool b) (.ref a)) (fun w' s' => ∃ b H', w' = .bool b ∧ Inv X pins σ H' s' ∧ Q (.bl b) H') X.xe s := by
  obtain ⟨mA, J, _⟩ := ins_get I.hok ha
  obtain ⟨od, J, _⟩ := J.look
  obtain ⟨m, hF⟩ := I.fr
  have one : wpAny (model X.prog X.w) A (tryCompare (.ref a) "__eq__" (.bool b)) (fun r s' => ∃ v, r = some v ∧ ∃ b H', v = .bool b ∧ Inv X pins σ H' s' ∧ Q (.bl b) H') X.xe s := by
    unfold tryCompare
    refine wpAny_bind (PySem.W.ifBound_K I.kIn J hs hf (wpAny_mono (own_eq_call F hb sb I (x := .ref a) (y := .bl b) rfl rfl hsp) (fun v s' hv => ?_) fun _ _ e => e))
    obtain ⟨b', H', rfl, q⟩ := hv
    exact wpAny_pure ⟨_, rfl, b', H', rfl, q⟩
  have hT : s.TypeIs (.bool b) "bool" := rfl
  unfold richCompare
  simp only [hT.oneThing_none]
  refine wpAny_holding (wpAny_bind (wpAny_cRoomFor sb.room.units0 ?_))
  refine wpAny_bind (wpAny_typeOf hT (wpAny_bind (J.type.here ?_)))
  rw [if_pos (show ((Value.type "bool") != Value.ref C) = true from rfl)]
  refine wpAny_bind ((PySem.W.looks_subIn I.kIn hsub).here ?_)
  simp only [Bool.false_eq_true, if_false, Bool.not_false, if_true]
  have hda : s.heap.get? a = some (PySem.W.instObj C dx) := (show ObjOk _ _ _ _ a (.ins C dx fs) from I.hok a _ ha).2.2.2.1
  refine wpAny_bind (m := tryCompare (.bool b) _ _) (wpAny_tryCompare_declines hT PySem.F.slot_bool_eq (call_meets PySem.F.slot_bool_eq hT PySem.F.entry_int_eq (PySem.F.args_int_eq_2 _ _) (int_declines_plain b a _ _ _) ⟨hda, rfl, ?_⟩))
  refine wpAny_bind (m := tryCompare (.ref a) _ _) (wpAny_mono one (fun r s' z => ?_) fun _ _ e => e)
  obtain ⟨v, rfl, hq⟩ := z
  exact wpAny_pure hq
/-- x in the list at l, what stays true the while: Iv -/
theorem contains_loopG {prog : Program} {w : World} {A : Around} {R : Result → Shared → Prop} {l : Addr} {x : Value} (N : Nat) (e : Nat → Bool) (Iv : Shared → Prop)
    (ht : ∀ s, Iv s → ∃ items n dd sl, s.heap.get? l = some { cls := .type "list", dict := dd, data := .seq items n, slots := sl } ∧ items.size = N ∧
      ∀ (i : Nat) (h : i < items.size) (Q : Bool → Shared → Prop), (∀ s', Iv s' → Q (e i) s') → wpAny (model prog w) A.in1 (eqBool items[i] x) Q (fun er s' => R (.error er) s') s)
    (hR : ∀ s b, Iv s → (b = true ↔ ∃ i, i < N ∧ e i = true) → R (.ok (.ret (.bool b))) s) :
    ∀ (k i : Nat) (s : Shared), N - i = k → i ≤ N → (∀ j, j < i → e j = false) → Iv s →
      wpAny (model prog w) A.in1 (Builtin.«list.__contains__.loop» ⟨[.ref l, x, rawInt i], []⟩) (fun fin s' => match fin with | .done f => R (.ok f) s' | .again c' => c'.quiet = true ∧ codeAny (model prog w) A c' R s') (fun e s' => R (.error e) s') s := by
  intro k
  induction k with
  | zero =>
    intro i s hk hi hj I
    obtain ⟨items, n, dd, sl, hl, hN, _⟩ := ht s I
    have hin : i = N := by omega
    have fin := hR s false I ⟨fun z => Bool.noConfusion z, fun ⟨j, h1, h2⟩ => by rw [hj j (by omega)] at h2; cases h2⟩
    obtain ⟨hp, g, d, tk, os⟩ := s
    wp_walk using AutoSeq1.wpAny_loadPart' hl
    have hi : items[((i : Nat) : Int).toNat]? = none := by simp; omega
    rw [hi]
    wp_walk
    exact fin
  | succ k ih =>
    intro i s hk hi hj I
    obtain ⟨items, n, dd, sl, hl', hN, he⟩ := ht s I
    have hlt : i < items.size := by omega
    have heI := he i hlt
    obtain ⟨hp, g, d, tk, os⟩ := s
    wp_walk using AutoSeq1.wpAny_loadPart' hl'
    have hi2 : items[((i : Nat) : Int).toNat]? = some items[i] := by simp [hlt]
    rw [hi2]
    refine wpAny_bind (heI _ fun s' I' => ?_)
    cases hb : e i with
    | true =>
      have fin := hR s' true I' ⟨fun _ => ⟨i, by omega, hb⟩, fun _ => rfl⟩
      obtain ⟨hp, g, d, tk, os⟩ := s'
      wp_walk
      exact fin
    | false =>
      have nx := ih (i + 1) s' (by omega) (by omega) (fun j hj' => by
        rcases Nat.lt_succ_iff_lt_or_eq.mp hj' with z | z
        · exact hj j z
        · rw [z]; exact hb) I'
      have hc : ((i : Int) + 1) = ((i + 1 : Nat) : Int) := by push_cast; rfl
      obtain ⟨hp, g, d, tk, os⟩ := s'
      wp_walk
      rw [hc]
      exact ⟨plainId_quiet MeetsSeq.plain_contains_loop _, codeAny_builtin MeetsSeq.entry_contains_loop (by
        rw [Around.under_plainId MeetsSeq.plain_contains_loop _]
        exact nx)⟩
/-- the promise of «return isinstance(other, C)» -/
def spIsC (K : PySem.W.Frag) (C : Addr) : Sp := fun vs H Q _ => ∃ (a : Addr) (y : V) (t : Value) (b : Bool), vs = [.ref a, y] ∧ TyX K H y t ∧ PySem.W.kitOne K t (.ref C) = some b ∧ ∀ H', Same H H' → Q (.bl b) H'
structure UCls (K : PySem.W.Frag) (C f : Addr) : Prop where
  hs : PySem.W.findIn K (.ref C) "__eq__" = some (some (.ref f))
  hf : PySem.W.isFn K (.ref f) = true
  ty : ∀ (H : Hp) (a dx : Addr) (fs : List (Str × V)), H a = some (.ins C dx fs) → TyX K H (.ref a) (.ref C)
  kb : PySem.W.kitOne K (.type "bool") (.ref C) = some false
  kc : PySem.W.kitOne K (.ref C) (.ref C) = some true
  sb : PySem.W.subIn K (.ref C) (.type "bool") = some false
def isRefV : V → Bool
  | .ref _ => true
  | _ => false
theorem eqBool_bool {prog : Program} {w : World} {A : Around} {E : Value → Shared → Prop} {s : Shared} {b : Bool} {u : Addr} {Q : Bool → Shared → Prop} (h : wpAny (model prog w) A (richCompare .Eq (.bool b) (.ref u)) (fun v s' => ∃ r, v = .bool r ∧ Q r s') E s) : wpAny (model prog w) A (eqBool (.bool b) (.ref u)) Q E s := by
  unfold eqBool
  refine wpAny_holding ?_
  refine wpAny_ite_split (fun hab => by cases (eq_of_beq hab)) (fun _ => ?_)
  refine wpAny_bind (wpAny_mono h (fun v s' hv => ?_) fun _ _ x => x)
  obtain ⟨r, rfl, q⟩ := hv
  exact wpAny_truthy_bool q
theorem vals_at {xs : List V} {us : List Value} (h : Vals xs us) : ∀ {j : Nat} {v : V}, xs[j]? = some v → ∃ u, us[j]? = some u ∧ RelV v u := by
  induction h with
  | nil => intro j u e; cases e
  | cons r t ih =>
    intro j u e
    cases j with
    | zero => cases e; exact ⟨_, rfl, r⟩
    | succ j => exact ih e
def rInU (C : Addr) : R2 := fun x y H Q => ∃ u dx fs p zs, x = .ref u ∧ H u = some (.ins C dx fs) ∧ y = .ref p ∧ H p = some (.lst zs) ∧ (∀ z ∈ zs, (∃ b, z = .bl b) ∨ ∃ a dx fs, z = .ref a ∧ a ≠ u ∧ H a = some (.ins C dx fs)) ∧ ∀ H', Same H H' → Q (.bl (zs.any isRefV)) H'
theorem op_inU (U : UCls X.K C f) (F : FnOk X.prog X.w X.K X.mg X.base CX0 n f fd ps (spIsC X.K C)) (hb : Binds X.K fd ps []) (hr : Room (n + 1) X.A) : OpR X (compareOp .In) (rInU C) := by
  intro pins s σ H x y v u0 Q I rx ry h
  obtain ⟨u, dx, fs, p, zs, rfl, hu, rfl, hp, hz, q⟩ := h
  obtain rfl : v = Value.ref u := rx
  obtain rfl : u0 = Value.ref p := ry
  obtain ⟨z0, its, k0, r0, e0⟩ := I.hok p _ hp
  have hT : s.TypeIs (.ref p) "list" := ⟨_, e0, rfl⟩
  have sb : Sub X n X.A.in1 := (Sub.in1 ⟨hr, rfl⟩)
  show wpAny _ X.A (do return .bool (← contains (.ref p) (.ref u))) (EP X pins σ Q) X.xe s
  have len := r0.length
  have key : wpAny (model X.prog X.w) X.A.in1 (Builtin.«list.__contains__» ⟨[.ref p, .ref u], []⟩) (fun fin s' => match fin with | .done f => wants (fun v s' => ∃ b H', v = .bool b ∧ b = zs.any isRefV ∧ Inv X pins σ H' s' ∧ Same H H') X.xe (.ok f) s' | .again c' => c'.quiet = true ∧ codeAny (model X.prog X.w) X.A c' (wants (fun v s' => ∃ b H', v = .bool b ∧ b = zs.any isRefV ∧ Inv X pins σ H' s' ∧ Same H H') X.xe) s')
      (fun e s' => wants (fun v s' => ∃ b H', v = .bool b ∧ b = zs.any isRefV ∧ Inv X pins σ H' s' ∧ Same H H') X.xe (.error e) s') s := by
    have lp := contains_loopG (prog := X.prog) (w := X.w) (A := X.A) (R := wants (fun v s' => ∃ b H', v = .bool b ∧ b = zs.any isRefV ∧ Inv X pins σ H' s' ∧ Same H H') X.xe) (l := p) (x := .ref u) zs.length (fun i => (zs[i]?.map isRefV).getD false) (fun s' => ∃ H', Inv X pins σ H' s' ∧ Same H H')
      (fun s' ⟨H', I', m⟩ => by
        obtain ⟨z1, its, k1, r0, e1⟩ := I'.hok p _ (m _ _ hp)
        have len := r0.length
        refine ⟨its.toArray, k1, _, _, e1, by rw [List.size_toArray]; omega, fun i hi Q' hQ => ?_⟩
        have hi' : i < its.length := by simpa using hi
        have hiz : i < zs.length := by omega
        have hzi : zs[i]? = some zs[i] := List.getElem?_eq_getElem hiz
        obtain ⟨w', hw', rw'⟩ := vals_at r0 hzi
        have ew : its.toArray[i] = w' := by
          have : its[i]? = some its[i] := List.getElem?_eq_getElem hi'
          rw [this] at hw'
          simpa using hw'
        rw [ew]
        have eb : ((zs[i]?.map isRefV).getD false) = isRefV zs[i] := by rw [hzi]; rfl
        rw [eb] at hQ
        rcases hz _ (List.getElem_mem hiz) with ⟨b, ez⟩ | ⟨a, dxa, fsa, ez, nau, ha⟩
        · rw [ez] at rw' hQ
          obtain rfl : w' = .bool b := rw'
          refine eqBool_bool (wpAny_mono (rc_bool_own F U.hs U.hf hb sb I' (m _ _ hu) U.sb (Q := fun v H'' => v = .bl false ∧ Same H H'') ⟨u, .bl b, _, false, rfl, .base (.bl b), U.kb, fun H'' m' => ⟨⟨_, rfl⟩, rfl, m.trans m'⟩⟩) (fun r s'' hq => ?_) fun _ _ x => x)
          obtain ⟨b', H'', rfl, I'', eb', m''⟩ := hq
          cases eb'
          exact ⟨false, rfl, hQ s'' ⟨H'', I'', m''⟩⟩
        · rw [ez] at rw' hQ
          obtain rfl : w' = .ref a := rw'
          refine GQ.eqBool_refG nau (wpAny_mono (rc_own F U.hs U.hf hb sb I' (y := .ref u) rfl (m _ _ ha) (U.ty _ _ _ _ (m _ _ hu)) (by simp [PySem.W.notFirst]) (Q := fun v H'' => v = .bl true ∧ Same H H'') ⟨a, .ref u, _, true, rfl, U.ty _ _ _ _ (m _ _ hu), U.kc, fun H'' m' => ⟨⟨_, rfl⟩, rfl, m.trans m'⟩⟩) (fun r s'' hq => ?_) fun _ _ x => x)
          obtain ⟨b', H'', rfl, I'', eb', m''⟩ := hq
          cases eb'
          exact ⟨true, rfl, hQ s'' ⟨H'', I'', m''⟩⟩)
      (fun s' b ⟨H', I', m⟩ hb' => ⟨b, H', rfl, by
        rw [Bool.eq_iff_iff, hb', List.any_eq_true]
        constructor
        · rintro ⟨i, hiz, e⟩
          rw [List.getElem?_eq_getElem hiz] at e
          exact ⟨zs[i], List.getElem_mem hiz, e⟩
        · rintro ⟨z, hz', e⟩
          obtain ⟨i, hi, rfl⟩ := List.mem_iff_getElem.mp hz'
          refine ⟨i, hi, ?_⟩
          rw [List.getElem?_eq_getElem hi]
          exact e, I', m⟩)
      zs.length 0 s (Nat.sub_zero _) (Nat.zero_le _) (fun j hj => absurd hj (Nat.not_lt_zero _)) ⟨H, I, fun _ _ z => z⟩
    obtain ⟨hp', g, d, tk, os⟩ := s
    wp_walk
    exact ⟨plainId_quiet MeetsSeq.plain_contains_loop _, codeAny_builtin MeetsSeq.entry_contains_loop (by
      rw [Around.under_plainId MeetsSeq.plain_contains_loop _]
      exact lp)⟩
  refine wpAny_bind (wpAny_contains_slot hT PySem.F.slot_list_contains (wpAny_mono (wpAny_call (codeAny_call_builtin PySem.F.slot_list_contains.plain PySem.F.entry_list_contains (PySem.F.slot_list_contains.check _ _ _ _ _ _ _ _ hT (PySem.F.args_list_contains_2 _ _) key))) (fun v s' hv => ?_) fun _ _ e => e))
  obtain ⟨b, H', rfl, rfl, I', m⟩ := hv
  exact wpAny_truthy_bool (wpAny_pure ⟨.bl _, H', I', rfl, q H' m⟩)
end
end XR

/-! trees of any plain objects -/
namespace ET
open PySem L2 XR VT
inductive E where
  | non
  | bl (b : Bool)
  | int (i : Int)
  | str (x : Str)
  | tup (l : List E)
  | lst (l : List E)
  | map (ks : List L2.Key) (ds : List E)
  | ins (C : Addr) (ns : List Str) (ds : List E)
def mk (ks : List L2.Key) (vs : List V) : List (L2.Key × V) := ks.zip vs
mutual
def dep : E → Nat
  | .tup l => depL l + 1
  | .lst l => depL l + 1
  | .map _ ds => depL ds + 1
  | .ins _ _ ds => depL ds + 1
  | _ => 0
def depL : List E → Nat
  | [] => 0
  | d :: r => max (dep d) (depL r)
end
theorem dep_mem : ∀ {l : List E} {d : E}, d ∈ l → dep d ≤ depL l
  | x :: r, d, h => by
    rw [depL]
    rcases List.mem_cons.mp h with rfl | h
    · exact Nat.le_max_left _ _
    · exact Nat.le_trans (dep_mem h) (Nat.le_max_right _ _)
theorem depL_le {n : Nat} : ∀ {l : List E}, (∀ d ∈ l, dep d ≤ n) → depL l ≤ n
  | [], _ => Nat.zero_le _
  | x :: r, h => by
    rw [depL]
    exact Nat.max_le.mpr ⟨h x List.mem_cons_self, depL_le fun d hd => h d (List.mem_cons_of_mem _ hd)⟩
/-- the value v stands for the tree d; no more than 900 items in one object -/
inductive Rp (H : Hp) : V → E → Prop
  | non : Rp H .non .non
  | bl (b : Bool) : Rp H (.bl b) (.bl b)
  | int (i : Int) : Rp H (.int i) (.int i)
  | str (x : Str) (h : TxOk x) : Rp H (.str x) (.str x)
  | tup {a : Addr} {xs : List V} {ds : List E} (h : H a = some (.tup xs)) (hl : xs.length = ds.length) (hz : ds.length ≤ 900) (hs : ∀ (i : Nat) (v : V) (d : E), xs[i]? = some v → ds[i]? = some d → Rp H v d) : Rp H (.ref a) (.tup ds)
  | lst {a : Addr} {xs : List V} {ds : List E} (h : H a = some (.lst xs)) (hl : xs.length = ds.length) (hz : ds.length ≤ 900) (hs : ∀ (i : Nat) (v : V) (d : E), xs[i]? = some v → ds[i]? = some d → Rp H v d) : Rp H (.ref a) (.lst ds)
  | map {a : Addr} {vs : List V} {ks : List L2.Key} {ds : List E} (h : H a = some (.dK (mk ks vs))) (hv : vs.length = ds.length) (hk : ks.length = ds.length) (hz : ds.length ≤ 900) (nd : ks.Nodup)
      (hs : ∀ (i : Nat) (v : V) (d : E), vs[i]? = some v → ds[i]? = some d → Rp H v d) : Rp H (.ref a) (.map ks ds)
  | ins {a dx C : Addr} {vs : List V} {ns : List Str} {ds : List E} (h : H a = some (.ins C dx (ns.zip vs))) (hv : vs.length = ds.length) (hk : ns.length = ds.length) (hz : ds.length ≤ 900)
      (hs : ∀ (i : Nat) (v : V) (d : E), vs[i]? = some v → ds[i]? = some d → Rp H v d) : Rp H (.ref a) (.ins C ns ds)
section
variable {H H' : Hp} {v : V} {d : E} {P : Addr → Prop}
theorem Rp.mono (m : ∀ a o, H a = some o → H' a = some o) (h : Rp H v d) : Rp H' v d := by
  induction h with
  | non => exact .non
  | bl b => exact .bl b
  | int i => exact .int i
  | str x h => exact .str x h
  | tup h hl hz _ ih => exact .tup (m _ _ h) hl hz ih
  | lst h hl hz _ ih => exact .lst (m _ _ h) hl hz ih
  | map h hv hk hz nd _ ih => exact .map (m _ _ h) hv hk hz nd ih
  | ins h hv hk hz _ ih => exact .ins (m _ _ h) hv hk hz ih
theorem Rp.same (m : Same H H') (h : Rp H v d) : Rp H' v d := h.mono m
theorem Rp.keepS (m : Same H H') (h : Rp (keepH P H) v d) : Rp (keepH P H') v d := h.same (keep_same m)
theorem Rp.ofKeep (h : Rp (keepH P H) v d) : Rp H v d := h.mono fun _ _ e => (keep_some e).2
theorem Rp.all (h : Rp H v d) : Rp (keepH (fun _ => True) H) v d := h.mono fun a o e => by rw [keep_at trivial]; exact e
theorem Rp.within {P' : Addr → Prop} (hp : ∀ b o, P b → H b = some o → P' b) (h : Rp (keepH P H) v d) : Rp (keepH P' H) v d := h.mono fun a o e => by
  obtain ⟨p, e'⟩ := keep_some e
  rw [keep_at (hp a o p e')]
  exact e'
/-- a new object that is still filled does not stand in it -/
theorem keep_off {D : Addr} (hD : H D = none) (m : ∀ b o, H b = some o → H' b = some o) : ∀ a o, keepH P H a = some o → keepH (fun b => P b ∧ b ≠ D) H' a = some o := fun a o e => by
  obtain ⟨p, e'⟩ := keep_some e
  rw [keep_at ⟨p, ne_of_none e' hD⟩]
  exact m _ _ e'
end
/-- the free places are of the part -/
def Fr (P : Addr → Prop) (H : Hp) : Prop := ∀ b, H b = none → P b
theorem Fr.same {P : Addr → Prop} {H H' : Hp} (h : Fr P H) (m : Same H H') : Fr P H' := fun b e => h b (same_none m e)
/-- the slots that hold trees -/
def En (H : Hp) (σ : L2.St) (env : List (Option E)) : Prop := σ.length = env.length ∧ ∀ (i : Nat) (d : E), env[i]? = some (some d) → ∃ v, σ[i]? = some (some v) ∧ Rp H v d
theorem En.mono {H H' : Hp} {σ : L2.St} {env : List (Option E)} (h : En H σ env) (m : ∀ a o, H a = some o → H' a = some o) : En H' σ env := ⟨h.1, fun i d e => let ⟨v, a, b⟩ := h.2 i d e; ⟨v, a, b.mono m⟩⟩
theorem En.keepS {P : Addr → Prop} {H H' : Hp} {σ : L2.St} {env : List (Option E)} (h : En (keepH P H) σ env) (m : Same H H') : En (keepH P H') σ env := h.mono (keep_same m)
theorem En.set {H : Hp} {σ : L2.St} {env : List (Option E)} {i : Nat} {v : V} {d : E} (h : En H σ env) (r : Rp H v d) : En H (σ.set i (some v)) (env.set i (some d)) := by
  refine ⟨by rw [List.length_set, List.length_set, h.1], fun j e he => ?_⟩
  by_cases hj : i = j
  · subst hj
    have hl : i < env.length := by
      have := (List.getElem?_eq_some_iff.mp he).1
      rwa [List.length_set] at this
    rw [List.getElem?_set_self hl] at he
    cases he
    exact ⟨v, List.getElem?_set_self (by rw [h.1]; exact hl), r⟩
  · rw [List.getElem?_set_ne hj] at he ⊢
    exact h.2 j e he
theorem En.wipe {H : Hp} {σ : L2.St} {env : List (Option E)} (h : En H σ env) : ∀ vs : List Nat, En H (wipe σ vs) (vs.foldr (fun v e => e.set v none) env)
  | [] => h
  | v :: vs => by
    have ih := En.wipe h vs
    refine ⟨by rw [List.foldr_cons, List.length_set]; show ((L2.wipe σ vs).set v none).length = _; rw [List.length_set]; exact ih.1, fun j e he => ?_⟩
    rw [List.foldr_cons] at he
    by_cases hj : v = j
    · subst hj
      have hl := (List.getElem?_eq_some_iff.mp he).1
      rw [List.length_set] at hl
      rw [List.getElem?_set_self hl] at he
      cases he
    · rw [List.getElem?_set_ne hj] at he
      show ∃ u, ((L2.wipe σ vs).set v none)[j]? = _ ∧ _
      rw [List.getElem?_set_ne hj]
      exact ih.2 j e he
abbrev FE := List (Option E) → Option E
abbrev FT := List (Option E) → Option Bool
abbrev FA := List (Option E) → Option (List E)
inductive RpL (H : Hp) : List V → List E → Prop
  | nil : RpL H [] []
  | cons {v : V} {d : E} {vs : List V} {ds : List E} (h : Rp H v d) (t : RpL H vs ds) : RpL H (v :: vs) (d :: ds)
theorem RpL.length {H : Hp} {vs : List V} {ds : List E} (h : RpL H vs ds) : vs.length = ds.length := by
  induction h with
  | nil => rfl
  | cons _ _ ih => rw [List.length_cons, List.length_cons, ih]
theorem RpL.get {H : Hp} {vs : List V} {ds : List E} (h : RpL H vs ds) : ∀ (i : Nat) (v : V) (d : E), vs[i]? = some v → ds[i]? = some d → Rp H v d := by
  induction h with
  | nil => intro i v d h; cases h
  | cons h t ih =>
    intro i v d h1 h2
    cases i with
    | zero => cases h1; cases h2; exact h
    | succ i => exact ih i v d h1 h2
theorem RpL.mono {H H' : Hp} {vs : List V} {ds : List E} (h : RpL H vs ds) (m : ∀ a o, H a = some o → H' a = some o) : RpL H' vs ds := by
  induction h with
  | nil => exact .nil
  | cons h t ih => exact .cons (h.mono m) ih
theorem RpL.of {H : Hp} : ∀ {vs : List V} {ds : List E}, vs.length = ds.length → (∀ (i : Nat) (v : V) (d : E), vs[i]? = some v → ds[i]? = some d → Rp H v d) → RpL H vs ds
  | [], [], _, _ => .nil
  | v :: vs, d :: ds, h, hs => .cons (hs 0 v d rfl rfl) (RpL.of (Nat.succ.inj h) fun i v d h1 h2 => hs (i + 1) v d h1 h2)
/-- a reading that makes nothing but new objects gives the tree f -/
def PuE (te : TE) (f : FE) : Prop := ∀ (P : Addr → Prop) (σ : L2.St) (H : Hp) (env : List (Option E)) (d : E) (Q : VK), En (keepH P H) σ env → Fr P H → f env = some d → (∀ v H', Same H H' → Rp (keepH P H') v d → Q v H') → te σ H Q
def PuT (tt : TT) (f : FT) : Prop := ∀ (P : Addr → Prop) (σ : L2.St) (H : Hp) (env : List (Option E)) (d : Bool) (Q : Bool → Hp → Prop), En (keepH P H) σ env → Fr P H → f env = some d → (∀ H', Same H H' → Q d H') → tt σ H Q
def PuA (ta : TA) (f : FA) : Prop := ∀ (P : Addr → Prop) (σ : L2.St) (H : Hp) (env : List (Option E)) (d : List E) (Q : List V → Hp → Prop), En (keepH P H) σ env → Fr P H → f env = some d → (∀ v H', Same H H' → RpL (keepH P H') v d → Q v H') → ta σ H Q
/-- an operator by values -/
def PuR (r : R2) (f : E → E → Option E) : Prop := ∀ (P : Addr → Prop) (x y : V) (H : Hp) (d e c : E) (Q : VK), Rp (keepH P H) x d → Rp (keepH P H) y e → Fr P H → f d e = some c → (∀ v H', Same H H' → Rp (keepH P H') v c → Q v H') → r x y H Q
def PuC (r : List V → Hp → VK → Prop) (f : List E → Option E) : Prop := ∀ (P : Addr → Prop) (xs : List V) (H : Hp) (ds : List E) (c : E) (Q : VK), RpL (keepH P H) xs ds → Fr P H → f ds = some c → (∀ v H', Same H H' → Rp (keepH P H') v c → Q v H') → r xs H Q
section
variable {ta tb tc : TE} {fa fb fc : FE} {tx ty : TT} {fx fy : FT} {tl : TA} {fl : FA} {r r' : R2} {fr fr' : E → E → Option E}
theorem pu_var (i : Nat) : PuE (tVar i) (fun env => (env[i]?).bind id) := fun P σ H env d Q he hf e k => by
  have e : (env[i]?).bind id = some d := e
  have e' : env[i]? = some (some d) := by
    cases h : env[i]? with
    | none => rw [h] at e; cases e
    | some o => rw [h] at e; cases o with | none => cases e | some x => cases e; rfl
  obtain ⟨v, h1, h2⟩ := he.2 i d e'
  exact ⟨v, h1, k v H (fun _ _ z => z) h2⟩
theorem pu_non : PuE (tC .non) (fun _ => some .non) := fun P σ H env d Q he hf e k => by cases e; exact k _ H (fun _ _ z => z) .non
theorem pu_bl (b : Bool) : PuE (tC (.bl b)) (fun _ => some (.bl b)) := fun P σ H env d Q he hf e k => by cases e; exact k _ H (fun _ _ z => z) (.bl b)
theorem pu_int (i : Int) : PuE (tC (.int i)) (fun _ => some (.int i)) := fun P σ H env d Q he hf e k => by cases e; exact k _ H (fun _ _ z => z) (.int i)
theorem pu_str (x : Str) (h : TxOk x := by first | exact ⟨by decide +kernel, by decide +kernel⟩) : PuE (tC (.str x)) (fun _ => some (.str x)) := fun P σ H env d Q he hf e k => by cases e; exact k _ H (fun _ _ z => z) (.str x h)
theorem pu_nil : PuA tNil (fun _ => some []) := fun P σ H env d Q he hf e k => by cases e; exact k _ H (fun _ _ z => z) .nil
theorem pu_cons (ha : PuE ta fa) (hl : PuA tl fl) : PuA (tCons ta tl) (fun env => (fa env).bind fun d => (fl env).map (d :: ·)) := fun P σ H env ds Q he hf e k => by
  obtain ⟨d, e1, e2⟩ := Option.bind_eq_some_iff.mp e
  obtain ⟨l, e3, rfl⟩ := Option.map_eq_some_iff.mp e2
  exact ha P σ H env d _ he hf e1 fun v H1 m1 r1 => hl P σ H1 env l _ (he.keepS m1) (hf.same m1) e3 fun vs H2 m2 r2 => k _ H2 (m1.trans m2) (.cons (r1.keepS m2) r2)
theorem pu_tup (hl : PuA tl fl) : PuE (tTup tl) (fun env => (fl env).bind fun l => if l.length ≤ 900 then some (.tup l) else none) := fun P σ H env d Q he hf e k => by
  obtain ⟨l, e1, e2⟩ := Option.bind_eq_some_iff.mp e
  split at e2
  · rename_i hz
    cases e2
    refine hl P σ H env l _ he hf e1 fun vs H1 m1 r1 => ⟨?_, fun p hp => ?_⟩
    · rw [r1.length, sizeLine_eq]
      omega
    · have n := same_new (o := .tup vs) hp
      refine k _ _ (m1.trans n) (.tup (by rw [keep_at (hf _ (same_none m1 hp))]; exact upd_same) r1.length hz fun i v d h1 h2 => (r1.get i v d h1 h2).keepS n)
  · cases e2
theorem pu_lst (hl : PuA tl fl) : PuE (tLst tl) (fun env => (fl env).bind fun l => if l.length ≤ 900 then some (.lst l) else none) := fun P σ H env d Q he hf e k => by
  obtain ⟨l, e1, e2⟩ := Option.bind_eq_some_iff.mp e
  split at e2
  · rename_i hz
    cases e2
    refine hl P σ H env l _ he hf e1 fun vs H1 m1 r1 => ⟨?_, fun p hp => ?_⟩
    · rw [r1.length, sizeLine_eq]
      omega
    · have n := same_new (o := .lst vs) hp
      refine k _ _ (m1.trans n) (.lst (by rw [keep_at (hf _ (same_none m1 hp))]; exact upd_same) r1.length hz fun i v d h1 h2 => (r1.get i v d h1 h2).keepS n)
  · cases e2
theorem pu_op (ha : PuE ta fa) (hb : PuE tb fb) (hr : PuR r fr) : PuE (tOp r ta tb) (fun env => (fa env).bind fun d => (fb env).bind fun e => fr d e) := fun P σ H env c Q he hf e k => by
  obtain ⟨d, e1, e2⟩ := Option.bind_eq_some_iff.mp e
  obtain ⟨u, e3, e4⟩ := Option.bind_eq_some_iff.mp e2
  exact ha P σ H env d _ he hf e1 fun v H1 m1 r1 => hb P σ H1 env u _ (he.keepS m1) (hf.same m1) e3 fun w H2 m2 r2 => hr P v w H2 d u c Q (r1.keepS m2) r2 (hf.same (m1.trans m2)) e4 fun z H3 m3 r3 => k z H3 ((m1.trans m2).trans m3) r3
theorem pu_cb {r : List V → Hp → VK → Prop} {f : List E → Option E} (hl : PuA tl fl) (hr : PuC r f) : PuE (tCB r tl) (fun env => (fl env).bind f) := fun P σ H env c Q he hf e k => by
  obtain ⟨l, e1, e2⟩ := Option.bind_eq_some_iff.mp e
  exact hl P σ H env l _ he hf e1 fun vs H1 m1 r1 => hr P vs H1 l c Q r1 (hf.same m1) e2 fun z H3 m3 r3 => k z H3 (m1.trans m3) r3
def toB : E → Option Bool
  | .bl b => some b
  | _ => none
theorem toB_eq {d : E} {b : Bool} (h : toB d = some b) : d = .bl b := by
  cases d <;> first | (cases h; rfl) | cases h
theorem pu_test (ha : PuE ta fa) : PuT (tTest ta) (fun env => (fa env).bind toB) := fun P σ H env b Q he hf e k => by
  obtain ⟨d, e1, e2⟩ := Option.bind_eq_some_iff.mp e
  cases toB_eq e2
  exact ha P σ H env _ _ he hf e1 fun v H1 m1 r1 => by
    cases r1
    exact ⟨b, rfl, k H1 m1⟩
theorem pu_b (ha : PuE ta fa) : PuT (tB ta) (fun env => (fa env).bind toB) := pu_test ha
theorem pu_and (hx : PuT tx fx) (hy : PuT ty fy) : PuT (tAnd tx ty) (fun env => (fx env).bind fun b => if b = true then fy env else some false) := fun P σ H env b Q he hf e k => by
  obtain ⟨c, e1, e2⟩ := Option.bind_eq_some_iff.mp e
  refine hx P σ H env c _ he hf e1 fun H1 m1 => ?_
  cases c with
  | true => exact iteT (hy P σ H1 env b Q (he.keepS m1) (hf.same m1) e2 fun H2 m2 => k H2 (m1.trans m2))
  | false => cases e2; exact iteF (k H1 m1)
theorem pu_or (hx : PuT tx fx) (hy : PuT ty fy) : PuT (tOr tx ty) (fun env => (fx env).bind fun b => if b = true then some true else fy env) := fun P σ H env b Q he hf e k => by
  obtain ⟨c, e1, e2⟩ := Option.bind_eq_some_iff.mp e
  refine hx P σ H env c _ he hf e1 fun H1 m1 => ?_
  cases c with
  | false => exact iteF (hy P σ H1 env b Q (he.keepS m1) (hf.same m1) e2 fun H2 m2 => k H2 (m1.trans m2))
  | true => cases e2; exact iteT (k H1 m1)
theorem pu_not (hx : PuT tx fx) : PuT (tNot tx) (fun env => (fx env).map (!·)) := fun P σ H env b Q he hf e k => by
  obtain ⟨c, e1, rfl⟩ := Option.map_eq_some_iff.mp e
  exact hx P σ H env c _ he hf e1 fun H1 m1 => k H1 m1
theorem pu_andV (ha : PuE ta fa) (hb : PuE tb fb) : PuE (tAndV ta tb) (fun env => ((fa env).bind toB).bind fun b => if b = true then fb env else some (.bl false)) := fun P σ H env d Q he hf e k => by
  obtain ⟨c, e1, e2⟩ := Option.bind_eq_some_iff.mp e
  refine pu_test ha P σ H env c (fun b H1 => if b = true then tb σ H1 Q else Q (.bl false) H1) he hf e1 fun H1 m1 => ?_
  cases c with
  | true => exact iteT (hb P σ H1 env d Q (he.keepS m1) (hf.same m1) e2 fun v H2 m2 r2 => k v H2 (m1.trans m2) r2)
  | false => cases e2; exact iteF (k _ H1 m1 (.bl false))
theorem pu_orV (ha : PuE ta fa) (hb : PuE tb fb) : PuE (tOrV ta tb) (fun env => ((fa env).bind toB).bind fun b => if b = true then some (.bl true) else fb env) := fun P σ H env d Q he hf e k => by
  obtain ⟨c, e1, e2⟩ := Option.bind_eq_some_iff.mp e
  refine pu_test ha P σ H env c (fun b H1 => if b = true then Q (.bl true) H1 else tb σ H1 Q) he hf e1 fun H1 m1 => ?_
  cases c with
  | false => exact iteF (hb P σ H1 env d Q (he.keepS m1) (hf.same m1) e2 fun v H2 m2 r2 => k v H2 (m1.trans m2) r2)
  | true => cases e2; exact iteT (k _ H1 m1 (.bl true))
theorem pu_notV (ha : PuE ta fa) : PuE (tNotV ta) (fun env => ((fa env).bind toB).map fun b => .bl (!b)) := fun P σ H env d Q he hf e k => by
  obtain ⟨c, e1, rfl⟩ := Option.map_eq_some_iff.mp e
  exact pu_test ha P σ H env c (fun b H1 => Q (.bl (!b)) H1) he hf e1 fun H1 m1 => k _ H1 m1 (.bl _)
theorem pu_if (hx : PuT tx fx) (ha : PuE ta fa) (hb : PuE tb fb) : PuE (tIf tx ta tb) (fun env => (fx env).bind fun b => if b = true then fa env else fb env) := fun P σ H env d Q he hf e k => by
  obtain ⟨c, e1, e2⟩ := Option.bind_eq_some_iff.mp e
  refine hx P σ H env c _ he hf e1 fun H1 m1 => ?_
  cases c with
  | true => exact iteT (ha P σ H1 env d Q (he.keepS m1) (hf.same m1) e2 fun v H2 m2 r2 => k v H2 (m1.trans m2) r2)
  | false => exact iteF (hb P σ H1 env d Q (he.keepS m1) (hf.same m1) e2 fun v H2 m2 r2 => k v H2 (m1.trans m2) r2)
/-! statements without loops -/
abbrev FS := List (Option E) → Option (E ⊕ List (Option E))
def PuS (ts : TS) (f : FS) : Prop := ∀ (P : Addr → Prop) (σ : L2.St) (H : Hp) (env : List (Option E)) (D : Ends), En (keepH P H) σ env → Fr P H →
  (∀ d, f env = some (.inl d) → (∀ v H', Same H H' → Rp (keepH P H') v d → D.rt v H') → ts D σ H) ∧
  (∀ env', f env = some (.inr env') → (∀ σ' H', Same H H' → En (keepH P H') σ' env' → D.nx σ' H') → ts D σ H)
theorem pu_ret (ha : PuE ta fa) : PuS (tRet ta) (fun env => (fa env).map .inl) := fun P σ H env D he hf => by
  refine ⟨fun d e k => ?_, fun env' e k => ?_⟩
  · obtain ⟨c, e1, e2⟩ := Option.map_eq_some_iff.mp e
    cases e2
    exact ha P σ H env _ _ he hf e1 k
  · obtain ⟨c, e1, e2⟩ := Option.map_eq_some_iff.mp e
    cases e2
theorem pu_next : PuS tNext (fun env => some (.inr env)) := fun P σ H env D he hf => ⟨fun d e k => (by have e' : some (Sum.inr env) = some (Sum.inl d) := e; cases e'), fun env' e k => (by cases e; exact k σ H (fun _ _ z => z) he)⟩
theorem pu_asg {i : Nat} (ha : PuE ta fa) : PuS (tAsg ta (gName i)) (fun env => (fa env).map fun d => .inr (env.set i (some d))) := fun P σ H env D he hf => by
  refine ⟨fun d e k => ?_, fun env' e k => ?_⟩
  · obtain ⟨c, e1, e2⟩ := Option.map_eq_some_iff.mp e
    cases e2
  · obtain ⟨c, e1, e2⟩ := Option.map_eq_some_iff.mp e
    cases e2
    exact ha P σ H env c _ he hf e1 fun v H1 m1 r1 => k _ H1 m1 ((he.keepS m1).set r1)
theorem pu_seq {t u : TS} {f g : FS} (ht : PuS t f) (hu : PuS u g) : PuS (tSeq t u) (fun env => (f env).bind fun x => match x with | .inl d => some (.inl d) | .inr env' => g env') := fun P σ H env D he hf => by
  have go : ∀ z, ((f env).bind fun x => match x with | .inl d => some (.inl d) | .inr env' => g env') = some z → (∃ d, f env = some (.inl d) ∧ z = .inl d) ∨ ∃ env', f env = some (.inr env') ∧ g env' = some z := fun z e => by
    obtain ⟨x, e1, e2⟩ := Option.bind_eq_some_iff.mp e
    cases x with
    | inl d => cases e2; exact .inl ⟨d, e1, rfl⟩
    | inr env' => exact .inr ⟨env', e1, e2⟩
  refine ⟨fun d e k => ?_, fun env' e k => ?_⟩
  · rcases go _ e with ⟨d', e1, e2⟩ | ⟨env', e1, e2⟩
    · cases e2
      exact (ht P σ H env { D with nx := u D } he hf).1 _ e1 k
    · exact (ht P σ H env { D with nx := u D } he hf).2 _ e1 fun σ' H1 m1 he1 => (hu P σ' H1 env' D he1 (hf.same m1)).1 d e2 fun v H2 m2 r2 => k v H2 (m1.trans m2) r2
  · rcases go _ e with ⟨d', e1, e2⟩ | ⟨env1, e1, e2⟩
    · cases e2
    · exact (ht P σ H env { D with nx := u D } he hf).2 _ e1 fun σ' H1 m1 he1 => (hu P σ' H1 env1 D he1 (hf.same m1)).2 env' e2 fun σ2 H2 m2 r2 => k σ2 H2 (m1.trans m2) r2
theorem pu_ifS {t u : TS} {f g : FS} (hx : PuT tx fx) (ht : PuS t f) (hu : PuS u g) : PuS (tIfS tx t u) (fun env => (fx env).bind fun b => if b = true then f env else g env) := fun P σ H env D he hf => by
  refine ⟨fun d e k => ?_, fun env' e k => ?_⟩
  · obtain ⟨c, e1, e2⟩ := Option.bind_eq_some_iff.mp e
    refine hx P σ H env c _ he hf e1 fun H1 m1 => ?_
    cases c with
    | true => exact iteT ((ht P σ H1 env D (he.keepS m1) (hf.same m1)).1 d e2 fun v H2 m2 r2 => k v H2 (m1.trans m2) r2)
    | false => exact iteF ((hu P σ H1 env D (he.keepS m1) (hf.same m1)).1 d e2 fun v H2 m2 r2 => k v H2 (m1.trans m2) r2)
  · obtain ⟨c, e1, e2⟩ := Option.bind_eq_some_iff.mp e
    refine hx P σ H env c _ he hf e1 fun H1 m1 => ?_
    cases c with
    | true => exact iteT ((ht P σ H1 env D (he.keepS m1) (hf.same m1)).2 env' e2 fun v H2 m2 r2 => k v H2 (m1.trans m2) r2)
    | false => exact iteF ((hu P σ H1 env D (he.keepS m1) (hf.same m1)).2 env' e2 fun v H2 m2 r2 => k v H2 (m1.trans m2) r2)
end
/-! a def that makes nothing but new objects -/
def spP (f : List E → Option E) : Sp := fun vs H Q _ => ∃ (P : Addr → Prop) (ds : List E) (d : E), RpL (keepH P H) vs ds ∧ Fr P H ∧ f ds = some d ∧ ∀ v H', Same H H' → Rp (keepH P H') v d → Q v H'
theorem pu_call {tl : TA} {fl : FA} {f : List E → Option E} {E0 : XK} (hl : PuA tl fl) : PuE (tCall (spP f) [] E0 tl) (fun env => (fl env).bind f) := fun P σ H env c Q he hf e k => by
  obtain ⟨l, e1, e2⟩ := Option.bind_eq_some_iff.mp e
  exact hl P σ H env l _ he hf e1 fun vs H1 m1 r1 => ⟨P, l, c, by rw [List.append_nil]; exact r1, hf.same m1, e2, fun z H3 m3 r3 => k z H3 (m1.trans m3) r3⟩
end ET

/-! operators and calls on trees -/
namespace ET
open PySem L2 XR VT
def tyN : E → String
  | .non => "NoneType"
  | .bl _ => "bool"
  | .int _ => "int"
  | .str _ => "str"
  | .tup _ => "tuple"
  | .lst _ => "list"
  | .map _ _ => "dict"
  | .ins _ _ _ => ""
def tyE : E → Value
  | .ins C _ _ => .ref C
  | d => .type (tyN d)
abbrev tys : List String := ["tuple", "bool", "int", "dict", "str", "list"]
def isN (t : String) (d : E) : Bool := tyN d == t || (tyN d == "bool" && t == "int")
/-- an own class whose instances stand in trees -/
structure CF (K : PySem.W.Frag) (C : Addr) : Prop where
  cl : Cls K C
  c1 : PySem.W.findIn K (.ref C) "__class__" = some (some (.builtin "object.__class__"))
  c2 : PySem.W.specialIn K (.builtin "object.__class__") "__get__" = some (some (.builtin "getset_descriptor.__get__"))
  c3 : PySem.W.takesIn K (.builtin "object.__class__") = some true
  c4 : PySem.W.mroIn K C (.type "object") = some true
  no : ∀ t ∈ tys, PySem.W.kitOne K (.ref C) (.type t) = some false
def isT (CS : List Addr) (t : String) : E → Option E
  | .ins C _ _ => if C ∈ CS then some (.bl false) else none
  | d => some (.bl (isN t d))
def isC (CS : List Addr) (sb : Addr → Bool) : E → Option E
  | .ins C _ _ => if C ∈ CS then some (.bl (sb C)) else none
  | _ => some (.bl false)
section
variable {K : PySem.W.Frag} {CS : List Addr} {ta tb tc : TE} {fa fb fc : FE} {tl : TA} {fl : FA} {P : Addr → Prop} {H : Hp} {v : V} {d : E}
theorem Rp.ty (hC : ∀ C ∈ CS, CF K C) (h : Rp H v d) (hi : ∀ C ns ds, d = .ins C ns ds → C ∈ CS) : TyX K H v (tyE d) := by
  cases h with
  | non => exact .base .non
  | bl b => exact .base (.bl b)
  | int i => exact .base (.int i)
  | str x h => exact .base (.str x)
  | tup h => exact .base (.tup h)
  | lst h => exact .base (.lst h)
  | map h => exact .base (.dK h)
  | ins h =>
    have F := hC _ (hi _ _ _ rfl)
    exact .base (.ins h F.cl F.c1 F.c2 F.c3 F.c4)
theorem kit_is (t : String) (ht : t ∈ tys) (d : E) (hd : ∀ C ns ds, d ≠ .ins C ns ds) : PySem.W.kitOne K (tyE d) (.type t) = some (isN t d) := by
  have tb : ∀ a ∈ ["NoneType", "bool", "int", "str", "tuple", "dict", "list"], ∀ t ∈ tys, kitB a t = some (a == t || (a == "bool" && t == "int")) := by decide +kernel
  cases d with
  | non => exact kit_ty (tb "NoneType" (by decide) t ht)
  | bl b => exact kit_ty (tb "bool" (by decide) t ht)
  | int i => exact kit_ty (tb "int" (by decide) t ht)
  | str x => exact kit_ty (tb "str" (by decide) t ht)
  | tup l => exact kit_ty (tb "tuple" (by decide) t ht)
  | lst l => exact kit_ty (tb "list" (by decide) t ht)
  | map ks ds => exact kit_ty (tb "dict" (by decide) t ht)
  | ins C ns ds => exact absurd rfl (hd _ _ _)
theorem pu_isi (hC : ∀ C ∈ CS, CF K C) {t : String} (ha : PuE ta fa) (ht : t ∈ tys := by decide) : PuE (tCB (rIsi K) (tCons ta (tCons (tC (.ty t)) tNil))) (fun env => (fa env).bind (isT CS t)) := fun P σ H env c Q he hf e k => by
  obtain ⟨d, e1, e2⟩ := Option.bind_eq_some_iff.mp e
  refine ha P σ H env d _ he hf e1 fun v H1 m1 r1 => ?_
  have fin : ∀ b, c = .bl b → Q (.bl b) H1 := fun b z => by subst z; exact k _ H1 m1 (.bl b)
  cases d with
  | ins C ns ds =>
    have e3 : (if C ∈ CS then some (E.bl false) else none) = some c := e2
    split at e3
    · rename_i hm
      cases e3
      exact ⟨v, .ty t, _, _, false, rfl, .ty t, r1.ofKeep.ty hC (fun C' ns' ds' z => by cases z; exact hm), (hC C hm).no t ht, fin false rfl⟩
    · cases e3
  | _ =>
    cases e2
    exact ⟨v, .ty t, _, _, _, rfl, .ty t, r1.ofKeep.ty hC (fun C' ns' ds' z => nomatch z), kit_is t ht _ (fun _ _ _ z => nomatch z), fin _ rfl⟩
theorem pu_isC (hC : ∀ C ∈ CS, CF K C) {C0 : Addr} {sb : Addr → Bool} (own : ∀ C ∈ CS, PySem.W.kitOne K (.ref C) (.ref C0) = some (sb C)) (bas : ∀ t ∈ ["NoneType", "bool", "int", "str", "tuple", "dict", "list"], PySem.W.kitOne K (.type t) (.ref C0) = some false) (ha : PuE ta fa) :
    PuE (tCB (rIsi K) (tCons ta (tCons (tC (.ref C0)) tNil))) (fun env => (fa env).bind (isC CS sb)) := fun P σ H env c Q he hf e k => by
  obtain ⟨d, e1, e2⟩ := Option.bind_eq_some_iff.mp e
  refine ha P σ H env d _ he hf e1 fun v H1 m1 r1 => ?_
  have fin : ∀ b, c = .bl b → Q (.bl b) H1 := fun b z => by subst z; exact k _ H1 m1 (.bl b)
  cases d with
  | ins C ns ds =>
    have e3 : (if C ∈ CS then some (E.bl (sb C)) else none) = some c := e2
    split at e3
    · rename_i hm
      cases e3
      exact ⟨v, .ref C0, _, _, _, rfl, .own C0, r1.ofKeep.ty hC (fun C' ns' ds' z => by cases z; exact hm), own C hm, fin _ rfl⟩
    · cases e3
  | non => cases e2; exact ⟨v, .ref C0, _, _, _, rfl, .own C0, r1.ofKeep.ty hC (fun C' ns' ds' z => nomatch z), bas "NoneType" (by decide), fin _ rfl⟩
  | bl b => cases e2; exact ⟨v, .ref C0, _, _, _, rfl, .own C0, r1.ofKeep.ty hC (fun C' ns' ds' z => nomatch z), bas "bool" (by decide), fin _ rfl⟩
  | int b => cases e2; exact ⟨v, .ref C0, _, _, _, rfl, .own C0, r1.ofKeep.ty hC (fun C' ns' ds' z => nomatch z), bas "int" (by decide), fin _ rfl⟩
  | str b => cases e2; exact ⟨v, .ref C0, _, _, _, rfl, .own C0, r1.ofKeep.ty hC (fun C' ns' ds' z => nomatch z), bas "str" (by decide), fin _ rfl⟩
  | tup b => cases e2; exact ⟨v, .ref C0, _, _, _, rfl, .own C0, r1.ofKeep.ty hC (fun C' ns' ds' z => nomatch z), bas "tuple" (by decide), fin _ rfl⟩
  | lst b => cases e2; exact ⟨v, .ref C0, _, _, _, rfl, .own C0, r1.ofKeep.ty hC (fun C' ns' ds' z => nomatch z), bas "list" (by decide), fin _ rfl⟩
  | map b c => cases e2; exact ⟨v, .ref C0, _, _, _, rfl, .own C0, r1.ofKeep.ty hC (fun C' ns' ds' z => nomatch z), bas "dict" (by decide), fin _ rfl⟩
/-! len, all -/
def lenE : List E → Option E
  | [.str x] => some (.int x.length)
  | [.tup l] => some (.int l.length)
  | [.lst l] => some (.int l.length)
  | [.map _ ds] => some (.int ds.length)
  | _ => none
def rLenE (K : PySem.W.Frag) : List V → Hp → VK → Prop := fun xs H Q => (∃ x n, xs = [x] ∧ LenV K x H n ∧ Q (.int n) H) ∨ ∃ d kvs, xs = [.ref d] ∧ H d = some (.dK kvs) ∧ Q (.int kvs.length) H
theorem call_lenE {X : Cx} : CallR X (.builtin "len") (rLenE X.K) := by
  intro pins s σ H xs us Q I r h
  rcases h with h | h
  · exact call_len pins s σ H xs us Q I r h
  · exact call_lenD pins s σ H xs us Q I r h
theorem mk_length {ks : List L2.Key} {vs : List V} (h : ks.length = vs.length) : (mk ks vs).length = ks.length := by
  unfold mk
  rw [List.length_zip, ← h, Nat.min_self]
theorem pu_len : PuC (rLenE K) lenE := fun P xs H ds c Q r hf e k => by
  unfold lenE at e
  split at e
  · cases e
    cases r with
    | cons h t =>
      cases t
      cases h with
      | str x hx => exact .inl ⟨_, _, rfl, ⟨Nat.le_trans hx.2 (by rw [sizeLine_eq]; omega), rfl⟩, k _ H (fun _ _ z => z) (.int _)⟩
  · cases e
    cases r with
    | cons h t =>
      cases t
      cases h with
      | tup h hl hz hs =>
        rw [← hl] at k
        exact .inl ⟨_, _, rfl, .inr ⟨_, SqT.of (keep_some h).2, rfl⟩, k _ H (fun _ _ z => z) (.int _)⟩
  · cases e
    cases r with
    | cons h t =>
      cases t
      cases h with
      | lst h hl hz hs =>
        rw [← hl] at k
        exact .inl ⟨_, _, rfl, .inl ⟨_, SqL.of (keep_some h).2, rfl⟩, k _ H (fun _ _ z => z) (.int _)⟩
  · cases e
    cases r with
    | cons h t =>
      cases t
      cases h with
      | map h hv hk hz nd hs =>
        refine .inr ⟨_, _, rfl, (keep_some h).2, ?_⟩
        rw [mk_length (hk.trans hv.symm), hk]
        exact k _ H (fun _ _ z => z) (.int _)
  · cases e
def bools : List E → Option (List Bool)
  | [] => some []
  | .bl b :: l => (bools l).map (b :: ·)
  | _ :: _ => none
theorem bools_rep : ∀ {l : List E} {bs : List Bool} {xs : List V}, bools l = some bs → RpL H xs l → xs = bs.map V.bl
  | [], bs, xs, h, r => by
    cases h
    cases r
    rfl
  | .bl b :: l, bs, xs, h, r => by
    obtain ⟨bs', e, rfl⟩ := Option.map_eq_some_iff.mp h
    cases r with
    | cons h1 t =>
      cases h1
      rw [bools_rep e t]
      rfl
def allE : List E → Option E
  | [.lst l] => (bools l).map fun bs => .bl (bs.all id)
  | _ => none
theorem pu_all : PuC (rAll K) allE := fun P xs H ds c Q r hf e k => by
  unfold allE at e
  split at e
  · obtain ⟨bs, e1, rfl⟩ := Option.map_eq_some_iff.mp e
    cases r with
    | cons h t =>
      cases t
      cases h with
      | lst h hl hz hs =>
        have ex := bools_rep e1 (RpL.of hl hs)
        subst ex
        exact ⟨_, bs, rfl, SqL.of (keep_some h).2, k _ H (fun _ _ z => z) (.bl _)⟩
  · cases e
def anyE : List E → Option E
  | [.lst l] => (bools l).map fun bs => .bl (bs.any id)
  | _ => none
theorem pu_any : PuC (rAny K) anyE := fun P xs H ds c Q r hf e k => by
  unfold anyE at e
  split at e
  · obtain ⟨bs, e1, rfl⟩ := Option.map_eq_some_iff.mp e
    cases r with
    | cons h t =>
      cases t
      cases h with
      | lst h hl hz hs =>
        have ex := bools_rep e1 (RpL.of hl hs)
        subst ex
        exact ⟨_, bs, rfl, SqL.of (keep_some h).2, k _ H (fun _ _ z => z) (.bl _)⟩
  · cases e
/-! items -/
def ixT : E → E → Option E
  | .tup l, .int i => atI l i
  | _, _ => none
def ixL : E → E → Option E
  | .lst l, .int i => atI l i
  | _, _ => none
theorem atI_rel {xs : List V} {ds : List E} {i : Int} {c : E} (hl : xs.length = ds.length) (hs : ∀ (i : Nat) (v : V) (d : E), xs[i]? = some v → ds[i]? = some d → Rp H v d) (e : atI ds i = some c) : ∃ v, atI xs i = some v ∧ Rp H v c := by
  obtain ⟨j, e1, e2⟩ := Option.bind_eq_some_iff.mp e
  have hj : j < xs.length := by rw [hl]; exact (List.getElem?_eq_some_iff.mp e2).1
  refine ⟨xs[j], ?_, hs j _ c (List.getElem?_eq_getElem hj) e2⟩
  unfold atI
  rw [hl, e1]
  exact List.getElem?_eq_getElem hj
theorem pu_ixT : PuR (rIxT K) ixT := fun P x y H d e c Q rx ry hf h k => by
  unfold ixT at h
  split at h
  · cases ry
    cases rx with
    | tup h1 hl hz hs =>
      obtain ⟨v, e1, r1⟩ := atI_rel hl hs h
      exact ⟨_, _, _, v, rfl, rfl, SqT.of (keep_some h1).2, e1, k v H (fun _ _ z => z) r1⟩
  · cases h
theorem pu_ixL : PuR (rIxL K) ixL := fun P x y H d e c Q rx ry hf h k => by
  unfold ixL at h
  split at h
  · cases ry
    cases rx with
    | lst h1 hl hz hs =>
      obtain ⟨v, e1, r1⟩ := atI_rel hl hs h
      exact ⟨_, _, _, v, rfl, rfl, SqL.of (keep_some h1).2, e1, k v H (fun _ _ z => z) r1⟩
  · cases h
/-! is None -/
def isNo : E → E → Option E
  | d, .non => some (.bl (match d with | .non => true | _ => false))
  | _, _ => none
def notNo : E → E → Option E
  | d, .non => some (.bl (match d with | .non => false | _ => true))
  | _, _ => none
theorem pu_isN : PuR (fun x y H Q => y = .non ∧ Q (.bl (decide (x = .non))) H) isNo := fun P x y H d e c Q rx ry hf h k => by
  cases ry <;> (try (cases d <;> cases h))
  all_goals (cases rx; exact ⟨rfl, k _ H (fun _ _ z => z) (by first | exact .bl _ | (simp; exact .bl _))⟩)
theorem pu_notN : PuR (fun x y H Q => y = .non ∧ Q (.bl (!decide (x = .non))) H) notNo := fun P x y H d e c Q rx ry hf h k => by
  cases ry <;> (try (cases d <;> cases h))
  all_goals (cases rx; exact ⟨rfl, k _ H (fun _ _ z => z) (by first | exact .bl _ | (simp; exact .bl _))⟩)
/-! == of simple values -/
def toV : E → Option V
  | .non => some .non
  | .bl b => some (.bl b)
  | .int i => some (.int i)
  | .str x => some (.str x)
  | _ => none
theorem toV_rep {d : E} {x : V} (h : toV d = some x) (r : Rp H v d) : v = x := by
  cases r <;> first | (cases h; rfl) | cases h
theorem toV_rp {d : E} {x : V} (h : toV d = some x) (r : Rp H v d) : toV d = some v := by rw [h, toV_rep h r]
def sc : E → E → Option Bool
  | .non, .non => some true
  | .int i, .int j => some (decide (i = j))
  | .bl a, .bl b => some (decide (a = b))
  | .str x, .str y => some (decide (x = y))
  | .non, .int _ => some false | .int _, .non => some false | .non, .bl _ => some false | .bl _, .non => some false | .non, .str _ => some false | .str _, .non => some false
  | .int _, .str _ => some false | .str _, .int _ => some false | .bl _, .str _ => some false | .str _, .bl _ => some false
  | _, _ => none
theorem sc_ok {H : Hp} {x y : V} {d e : E} {b : Bool} (rx : Rp H x d) (ry : Rp H y e) (h : sc d e = some b) : scal x y = true ∧ decide (x = y) = b := by
  cases rx <;> cases ry <;> first
    | (cases h; done)
    | (cases h; exact ⟨rfl, rfl⟩)
    | (cases h; refine ⟨rfl, ?_⟩; simp; done)
    | (cases h; exact ⟨rfl, by simp⟩)
def eqS (d e : E) : Option E := (sc d e).map .bl
def neS (d e : E) : Option E := (sc d e).map fun b => .bl (!b)
theorem pu_eqS : PuR rEq eqS := fun P x y H d e c Q rx ry hf h k => by
  obtain ⟨b, e1, rfl⟩ := Option.map_eq_some_iff.mp h
  obtain ⟨h1, h2⟩ := sc_ok rx ry e1
  exact ⟨h1, by rw [h2]; exact k _ H (fun _ _ z => z) (.bl _)⟩
theorem pu_neS : PuR rNe neS := fun P x y H d e c Q rx ry hf h k => by
  obtain ⟨b, e1, rfl⟩ := Option.map_eq_some_iff.mp h
  obtain ⟨h1, h2⟩ := sc_ok rx ry e1
  exact ⟨h1, by rw [h2]; exact k _ H (fun _ _ z => z) (.bl _)⟩
/-! comparisons of whole numbers -/
def cmI (p : Int → Int → Bool) : E → E → Option E
  | .int i, .int j => some (.bl (p i j))
  | _, _ => none
theorem pu_cm {p : Int → Int → Bool} : PuR (rI0 fun i j => .bl (p i j)) (cmI p) := fun P x y H d e c Q rx ry hf h k => by
  unfold cmI at h
  split at h
  · cases h
    cases rx
    cases ry
    exact ⟨_, _, rfl, rfl, k _ H (fun _ _ z => z) (.bl _)⟩
  · cases h
def arI (p : Int → Int → Int) : E → E → Option E
  | .int i, .int j => some (.int (p i j))
  | _, _ => none
theorem pu_ar {p : Int → Int → Int} : PuR (rI0 fun i j => .int (p i j)) (arI p) := fun P x y H d e c Q rx ry hf h k => by
  unfold arI at h
  split at h
  · cases h
    cases rx
    cases ry
    exact ⟨_, _, rfl, rfl, k _ H (fun _ _ z => z) (.int _)⟩
  · cases h
/-! in -/
def vals : List E → Option (List V)
  | [] => some []
  | d :: l => (toV d).bind fun x => (vals l).map (x :: ·)
theorem vals_rep : ∀ {l : List E} {vs xs : List V}, vals l = some vs → RpL H xs l → xs = vs
  | [], vs, xs, h, r => by
    cases h
    cases r
    rfl
  | d :: l, vs, xs, h, r => by
    obtain ⟨x, e1, e2⟩ := Option.bind_eq_some_iff.mp h
    obtain ⟨w, e3, rfl⟩ := Option.map_eq_some_iff.mp e2
    cases r with
    | cons h1 t => rw [toV_rep e1 h1, vals_rep e3 t]
theorem toV_flat {d : E} {x : V} (h : toV d = some x) : flatV x = true := by
  cases d <;> first | (cases h; rfl) | cases h
theorem vals_flat : ∀ {l : List E} {vs : List V}, vals l = some vs → vs.all flatV = true
  | [], vs, h => by cases h; rfl
  | d :: l, vs, h => by
    obtain ⟨x, e1, e2⟩ := Option.bind_eq_some_iff.mp h
    obtain ⟨w, e3, rfl⟩ := Option.map_eq_some_iff.mp e2
    rw [List.all_cons, toV_flat e1, vals_flat e3]
    rfl
def items : E → Option (List E)
  | .tup l => some l
  | .lst l => some l
  | _ => none
def eqF : E → E → Bool
  | .non, .non => true
  | .bl a, .bl b => a == b
  | .bl a, .int b => (if a then 1 else 0) == b
  | .int a, .bl b => a == (if b then 1 else 0)
  | .int a, .int b => a == b
  | .str a, .str b => a == b
  | _, _ => false
def flatE : E → Bool
  | .non => true | .bl _ => true | .int _ => true | .str _ => true | _ => false
theorem flat_rp {H : Hp} {v : V} {d : E} (r : Rp H v d) (h : flatE d = true) : flatV v = true := by
  cases r <;> first | rfl | cases h
theorem eqF_rp {H : Hp} {x y : V} {d e : E} (rx : Rp H x d) (ry : Rp H y e) (hd : flatE d = true) (he : flatE e = true) : eqV x y = eqF d e := by
  cases rx <;> cases ry <;> first | rfl | cases hd | cases he
def anyIn (l : List E) (d : E) : Bool := l.any (eqF · d)
theorem any_rp {H : Hp} {x : V} {d : E} (rx : Rp H x d) (hd : flatE d = true) : ∀ {xs : List V} {l : List E}, RpL H xs l → l.all flatE = true → inV x xs = anyIn l d ∧ xs.all flatV = true
  | [], [], .nil, _ => ⟨rfl, rfl⟩
  | y :: xs, e :: l, .cons h t, hl => by
    rw [List.all_cons, Bool.and_eq_true] at hl
    obtain ⟨i1, i2⟩ := any_rp rx hd t hl.2
    refine ⟨?_, ?_⟩
    · show (eqV y x || inV x xs) = (eqF e d || anyIn l d)
      rw [i1, eqF_rp h rx hl.1 hd]
    · rw [List.all_cons, flat_rp h hl.1, i2]
      rfl
def inE (neg : Bool) (d e : E) : Option E := (items e).bind fun l => if (flatE d && l.all flatE) = true then some (.bl (if neg then !(anyIn l d) else anyIn l d)) else none
theorem pu_in {neg : Bool} : PuR (rIn K neg) (inE neg) := fun P x y H d e c Q rx ry hf h k => by
  obtain ⟨l, e2, h⟩ := Option.bind_eq_some_iff.mp h
  split at h
  · rename_i hfl
    obtain ⟨f1, f2⟩ := Bool.and_eq_true_iff.mp hfl
    cases h
    cases ry with
    | tup h1 hl hz hs =>
      cases e2
      obtain ⟨g1, g2⟩ := any_rp rx f1 (RpL.of hl hs) f2
      refine ⟨_, _, rfl, .inr (SqT.of (keep_some h1).2), flat_rp rx f1, g2, ?_⟩
      rw [g1]
      exact k _ H (fun _ _ z => z) (.bl _)
    | lst h1 hl hz hs =>
      cases e2
      obtain ⟨g1, g2⟩ := any_rp rx f1 (RpL.of hl hs) f2
      refine ⟨_, _, rfl, .inl (SqL.of (keep_some h1).2), flat_rp rx f1, g2, ?_⟩
      rw [g1]
      exact k _ H (fun _ _ z => z) (.bl _)
    | _ => cases e2
  · cases h
theorem rpl_strs {H : Hp} : ∀ {xs : List Str}, (∀ x ∈ xs, TxOk x) → RpL H (xs.map V.str) (xs.map E.str)
  | [], _ => .nil
  | x :: xs, h => .cons (.str x (h x List.mem_cons_self)) (rpl_strs fun y hy => h y (List.mem_cons_of_mem _ hy))
theorem flat_strs : ∀ xs : List Str, (xs.map E.str).all flatE = true
  | [] => rfl
  | _ :: xs => flat_strs xs
/-- in a tuple of texts of the top -/
theorem pu_inK {neg : Bool} {aS : Addr} {xs : List Str} (hS : ∀ H, SqT K H aS (xs.map V.str)) (hx : ∀ x ∈ xs, TxOk x) (ha : PuE ta fa) : PuE (tOp (rIn K neg) ta (tC (.ref aS))) (fun env => (fa env).bind fun d => if flatE d = true then some (.bl (if neg then !(anyIn (xs.map E.str) d) else anyIn (xs.map E.str) d)) else none) := fun P σ H env c Q he hf e k => by
  obtain ⟨d, e1, e2⟩ := Option.bind_eq_some_iff.mp e
  split at e2
  · rename_i hd
    cases e2
    refine ha P σ H env d _ he hf e1 fun v H1 m1 r1 => ?_
    obtain ⟨g1, g2⟩ := any_rp r1 hd (rpl_strs hx) (flat_strs xs)
    refine ⟨aS, _, rfl, .inr (hS H1), flat_rp r1 hd, g2, ?_⟩
    rw [g1]
    exact k _ H1 m1 (.bl _)
  · cases e2
/-! chains -/
theorem pu_chain {r r' : R2} {fr fr' : E → E → Option E} (hr : PuR r fr) (hr' : PuR r' fr') (ha : PuE ta fa) (hb : PuE tb fb) (hc : PuE tc fc) : PuE (tChain r r' ta tb tc) (fun env => (fa env).bind fun d => (fb env).bind fun e => (fr d e).bind fun z => (toB z).bind fun b => if b = true then (fc env).bind fun u => fr' e u else some (.bl false)) := fun P σ H env c Q he hf e k => by
  obtain ⟨d, e1, e⟩ := Option.bind_eq_some_iff.mp e
  obtain ⟨u, e2, e⟩ := Option.bind_eq_some_iff.mp e
  obtain ⟨z, e3, e⟩ := Option.bind_eq_some_iff.mp e
  obtain ⟨b, e4, e⟩ := Option.bind_eq_some_iff.mp e
  cases toB_eq e4
  refine ha P σ H env d _ he hf e1 fun v H1 m1 r1 => hb P σ H1 env u _ (he.keepS m1) (hf.same m1) e2 fun y H2 m2 r2 => hr P v y H2 d u _ _ (r1.keepS m2) r2 (hf.same (m1.trans m2)) e3 fun w H3 m3 r3 => ?_
  cases r3
  refine ⟨b, rfl, ?_⟩
  have m := (m1.trans m2).trans m3
  cases b with
  | true =>
    have e' : ((fc env).bind fun u' => fr' u u') = some c := e
    obtain ⟨t, e5, e6⟩ := Option.bind_eq_some_iff.mp e'
    exact iteT (hc P σ H3 env t _ (he.keepS m) (hf.same m) e5 fun q H4 m4 r4 => hr' P y q H4 u t c Q ((r2.keepS m3).keepS m4) r4 (hf.same (m.trans m4)) e6 fun q' H5 m5 r5 => k q' H5 ((m.trans m4).trans m5) r5)
  | false =>
    cases e
    exact iteF (k _ H3 m (.bl false))
end
end ET

/-! comprehensions, slices, joins of trees -/
namespace ET
open PySem L2 XR VT
section
variable {K : PySem.W.Frag} {ta tb tc : TE} {fa fb fc : FE} {tx : TT} {fx : FT}
/-- what is walked -/
def PuI (wi : TI) (f : FA) : Prop := ∀ (P : Addr → Prop) (σ : L2.St) (H : Hp) (env : List (Option E)) (l : List E) (R : It → Hp → Prop), En (keepH P H) σ env → Fr P H → f env = some l → l.length ≤ 900 ∧
  ((∀ (J : It) (H1 : Hp) (G : Hp → Prop) (Y : Nat → Hp → V → Hp → Prop), Walk J l.length G Y → Same H H1 → (∀ H', Same H1 H' → G H') → (∀ i x H2 H3 d, Same H1 H2 → Y i H2 x H3 → l[i]? = some d → H3 = H2 ∧ Rp (keepH P H1) x d) → R J H1) → wi σ H R)
theorem pu_iTup (ha : PuE ta fa) : PuI (iTup K ta) (fun env => (fa env).bind fun d => match d with | .tup l => if l.length ≤ 900 then some l else none | _ => none) := fun P σ H env l R he hf e => by
  obtain ⟨d, e1, e2⟩ := Option.bind_eq_some_iff.mp e
  cases d with
  | tup l' =>
    have e3 : (if l'.length ≤ 900 then some l' else none) = some l := e2
    split at e3
    · rename_i hz
      cases e3
      refine ⟨hz, fun k => ha P σ H env _ _ he hf e1 fun v H1 m1 r1 => ?_⟩
      cases r1 with
      | @tup a xs ds h hl hz hs =>
        have h' := (keep_some h).2
        refine ⟨a, rfl, ⟨xs, SqT.of h'⟩, k _ H1 _ _ (hl ▸ walk_tup (K := K) (a := a) (xs := xs)) m1 (fun H' m => SqT.of (m _ _ h')) fun i x H2 H3 d m hy hd => ?_⟩
        obtain ⟨rfl, hx⟩ := hy
        exact ⟨rfl, hs i x d hx hd⟩
    · cases e3
  | _ => cases e2
theorem pu_iLst (ha : PuE ta fa) : PuI (iList K ta) (fun env => (fa env).bind fun d => match d with | .lst l => if l.length ≤ 900 then some l else none | _ => none) := fun P σ H env l R he hf e => by
  obtain ⟨d, e1, e2⟩ := Option.bind_eq_some_iff.mp e
  cases d with
  | lst l' =>
    have e3 : (if l'.length ≤ 900 then some l' else none) = some l := e2
    split at e3
    · rename_i hz
      cases e3
      refine ⟨hz, fun k => ha P σ H env _ _ he hf e1 fun v H1 m1 r1 => ?_⟩
      cases r1 with
      | @lst a xs ds h hl hz hs =>
        have h' := (keep_some h).2
        refine ⟨a, rfl, ⟨xs, SqL.of h'⟩, k _ H1 _ _ (hl ▸ walk_list (K := K) (a := a) (xs := xs)) m1 (fun H' m => SqL.of (m _ _ h')) fun i x H2 H3 d m hy hd => ?_⟩
        obtain ⟨rfl, hx⟩ := hy
        exact ⟨rfl, hs i x d hx hd⟩
    · cases e3
  | _ => cases e2
theorem pu_yes : PuT tYes (fun _ => some true) := fun P σ H env d Q he hf e k => by cases e; exact k H (fun _ _ z => z)
def lcE (ft : FT) (fe : FE) (env : List (Option E)) (i : Nat) : List E → Option (List E)
  | [] => some []
  | x :: l => (ft (env.set i (some x))).bind fun b => if b = true then (fe (env.set i (some x))).bind fun d => (lcE ft fe env i l).map (d :: ·) else lcE ft fe env i l
theorem lcE_split {ft : FT} {fe : FE} {env : List (Option E)} {i : Nat} : ∀ {l : List E} {ds : List E} {k : Nat} {x : E}, lcE ft fe env i l = some ds → l[k]? = some x →
    ∃ d1 b, lcE ft fe env i (l.take k) = some d1 ∧ ft (env.set i (some x)) = some b ∧ (b = true → ∃ d, fe (env.set i (some x)) = some d ∧ lcE ft fe env i (l.take (k + 1)) = some (d1 ++ [d])) ∧ (b = false → lcE ft fe env i (l.take (k + 1)) = some d1)
  | y :: l, ds, 0, x, h, hx => by
    cases hx
    rw [lcE] at h
    obtain ⟨b, e1, e2⟩ := Option.bind_eq_some_iff.mp h
    refine ⟨[], b, rfl, e1, fun hb => ?_, fun hb => ?_⟩
    · rw [if_pos hb] at e2
      obtain ⟨d, e3, e4⟩ := Option.bind_eq_some_iff.mp e2
      refine ⟨d, e3, ?_⟩
      show lcE ft fe env i [y] = _
      rw [lcE, e1, Option.bind_some, if_pos hb, e3]
      rfl
    · show lcE ft fe env i [y] = _
      rw [lcE, e1, Option.bind_some, if_neg (by rw [hb]; decide)]
      rfl
  | y :: l, ds, k + 1, x, h, hx => by
    have hx' : l[k]? = some x := hx
    rw [lcE] at h
    obtain ⟨b0, e1, e2⟩ := Option.bind_eq_some_iff.mp h
    cases b0 with
    | true =>
      rw [if_pos rfl] at e2
      obtain ⟨d0, e3, e4⟩ := Option.bind_eq_some_iff.mp e2
      obtain ⟨ds', e5, _⟩ := Option.map_eq_some_iff.mp e4
      obtain ⟨d1, b, f1, f2, f3, f4⟩ := lcE_split e5 hx'
      refine ⟨d0 :: d1, b, ?_, f2, fun hb => ?_, fun hb => ?_⟩
      · show lcE ft fe env i (y :: l.take k) = _
        rw [lcE, e1, Option.bind_some, if_pos rfl, e3, Option.bind_some, f1]
        rfl
      · obtain ⟨d, g1, g2⟩ := f3 hb
        refine ⟨d, g1, ?_⟩
        show lcE ft fe env i (y :: l.take (k + 1)) = _
        rw [lcE, e1, Option.bind_some, if_pos rfl, e3, Option.bind_some, g2]
        rfl
      · show lcE ft fe env i (y :: l.take (k + 1)) = _
        rw [lcE, e1, Option.bind_some, if_pos rfl, e3, Option.bind_some, f4 hb]
        rfl
    | false =>
      rw [if_neg (by decide)] at e2
      obtain ⟨d1, b, f1, f2, f3, f4⟩ := lcE_split e2 hx'
      refine ⟨d1, b, ?_, f2, fun hb => ?_, fun hb => ?_⟩
      · show lcE ft fe env i (y :: l.take k) = _
        rw [lcE, e1, Option.bind_some, if_neg (by decide), f1]
      · obtain ⟨d, g1, g2⟩ := f3 hb
        refine ⟨d, g1, ?_⟩
        show lcE ft fe env i (y :: l.take (k + 1)) = _
        rw [lcE, e1, Option.bind_some, if_neg (by decide), g2]
      · show lcE ft fe env i (y :: l.take (k + 1)) = _
        rw [lcE, e1, Option.bind_some, if_neg (by decide), f4 hb]
theorem lcE_len {ft : FT} {fe : FE} {env : List (Option E)} {i : Nat} : ∀ {l ds : List E}, lcE ft fe env i l = some ds → ds.length ≤ l.length
  | [], ds, h => by cases h; exact Nat.le_refl _
  | y :: l, ds, h => by
    rw [lcE] at h
    obtain ⟨b0, e1, e2⟩ := Option.bind_eq_some_iff.mp h
    cases b0 with
    | true =>
      rw [if_pos rfl] at e2
      obtain ⟨d0, e3, e4⟩ := Option.bind_eq_some_iff.mp e2
      obtain ⟨ds', e5, rfl⟩ := Option.map_eq_some_iff.mp e4
      have := lcE_len e5
      rw [List.length_cons, List.length_cons]
      omega
    | false =>
      rw [if_neg (by decide)] at e2
      have := lcE_len e2
      rw [List.length_cons]
      omega
theorem RpL.snoc {H : Hp} {vs : List V} {ds : List E} {v : V} {d : E} (h : RpL H vs ds) (r : Rp H v d) : RpL H (vs ++ [v]) (ds ++ [d]) := by
  induction h with
  | nil => exact .cons r .nil
  | cons h t ih => exact .cons h ih
theorem keep_updD {P : Addr → Prop} {H : Hp} {D : Addr} {o : HO} : ∀ a u, keepH (fun b => P b ∧ b ≠ D) H a = some u → keepH (fun b => P b ∧ b ≠ D) (upd H D o) a = some u := fun a u e => by
  obtain ⟨p, e'⟩ := keep_some e
  rw [keep_at p, upd_ne p.2]
  exact e'
theorem pu_lc {wi : TI} {fi : FA} {tt : TT} {ft : FT} {te : TE} {fe : FE} {i : Nat} (hi : PuI wi fi) (ht : PuT tt ft) (hE : PuE te fe) : PuE (tLc wi (gName i) tt te [i]) (fun env => (fi env).bind fun l => (lcE ft fe env i l).map .lst) := fun P σ H env d Q he hf e k => by
  obtain ⟨l, e1, e2⟩ := Option.bind_eq_some_iff.mp e
  obtain ⟨ds, e3, rfl⟩ := Option.map_eq_some_iff.mp e2
  obtain ⟨h900, hw⟩ := hi P σ H env l (fun J H1 => ∀ D, H1 D = none → ∃ W : Nat → Nat → Hp → Prop, (∃ m, W 0 m (upd H1 D (.lst []))) ∧ ∀ i' m H, W i' m H →
    (J.stop i' H ∧ Q (.ref D) H) ∨ (J.go i' H ∧ ∃ Nx : Hp → Prop, (∀ H', Nx H' → ∃ m', m' < m ∧ W (i' + 1) m' H') ∧ ∀ x H', J.yld i' H x H' → gName i x (wipe σ [i]) H' fun σ2 H2 => wipe σ2 [i] = wipe σ [i] ∧ tt σ2 H2 fun b H3 =>
      if b = true then te σ2 H3 fun y H4 => ∃ acc, H4 D = some (.lst acc) ∧ acc.length < sizeLine ∧ Nx (upd H4 D (.lst (acc ++ [y]))) else Nx H3)) he hf e1
  refine hw fun J H1 G Y w m1 hG hY D hD => ?_
  have he1 := he.keepS m1
  have fr1 := hf.same m1
  have dl := lcE_len e3
  refine lc_it w (fun k' H' => Same H1 H' ∧ ∃ acc ds', H' D = some (.lst acc) ∧ RpL (keepH (fun b => P b ∧ b ≠ D) H') acc ds' ∧ lcE ft fe env i (l.take k') = some ds') ⟨same_new hD, [], [], upd_same, .nil, rfl⟩ (fun k' H' _ q => hG H' q.1) ?_ ?_
  · rintro k' x H2 H3 hk ⟨m2, acc, ds', hDa, hR, hL⟩ hy
    have hlk : l[k']? = some l[k'] := List.getElem?_eq_getElem hk
    obtain ⟨rfl, rx⟩ := hY k' x H2 H3 _ m2 hy hlk
    obtain ⟨d1, b, f1, f2, f3, f4⟩ := lcE_split e3 hlk
    rw [hL] at f1
    cases f1
    have hal : acc.length < sizeLine := by
      have := hR.length
      have := lcE_len hL
      rw [List.length_take] at this
      rw [sizeLine_eq]
      omega
    have en : En (keepH (fun b => P b ∧ b ≠ D) H3) ((wipe σ [i]).set i (some x)) (env.set i (some l[k'])) := by
      have q := ((he1.mono (keep_off hD m2)).wipe [i]).set (i := i) (rx.mono (keep_off hD m2))
      have z : ([i].foldr (fun v e => e.set v none) env).set i (some l[k']) = env.set i (some l[k']) := by
        show (env.set i none).set i (some l[k']) = _
        rw [List.set_set]
      rw [z] at q
      exact q
    have fr : Fr (fun b => P b ∧ b ≠ D) H3 := fun b hb => ⟨fr1.same m2 b hb, fun z => by rw [z, hDa] at hb; cases hb⟩
    refine ⟨?_, ht _ _ H3 _ b _ en fr f2 fun H4 m4 => ?_⟩
    · show ((σ.set i none).set i (some x)).set i none = σ.set i none
      rw [List.set_set, List.set_set]
    · cases b with
      | true =>
        obtain ⟨d, g1, g2⟩ := f3 rfl
        refine iteT (hE _ _ H4 _ d _ (en.keepS m4) (fr.same m4) g1 fun y H5 m5 r5 => ⟨acc, m5 _ _ (m4 _ _ hDa), hal, fun q o e => ?_, acc ++ [y], ds' ++ [d], upd_same, ?_, g2⟩)
        · rw [upd_ne (ne_of_none e hD)]
          exact m5 _ _ (m4 _ _ (m2 _ _ e))
        · exact ((hR.mono (keep_same (m4.trans m5))).snoc r5).mono keep_updD
      | false => exact iteF ⟨m2.trans m4, acc, ds', m4 _ _ hDa, hR.mono (keep_same m4), f4 rfl⟩
  · rintro H' ⟨m2, acc, ds', hDa, hR, hL⟩
    rw [List.take_of_length_le (Nat.le_refl _), e3] at hL
    cases hL
    refine k _ H' (m1.trans m2) (.lst (by rw [keep_at (fr1 D hD)]; exact hDa) hR.length (by omega) fun j v d h1 h2 => ?_)
    exact (hR.get j v d h1 h2).within fun b o p _ => p.1
/-! tuple(x), list(x) -/
def tupE : List E → Option E
  | [.lst l] => if l.length ≤ 900 then some (.tup l) else none
  | [.tup l] => some (.tup l)
  | _ => none
end
end ET

/-! dicts made of trees, tuple(x), list(x), slices, joins, == of data -/
namespace ET
open PySem L2 XR VT
section
variable {K : PySem.W.Frag} {ta tb tc : TE} {fa fb fc : FE}
def toK : E → Option L2.Key
  | .int i => some (.inl i)
  | .str x => some (.inr x)
  | _ => none
theorem toK_rep {H : Hp} {d : E} {k : L2.Key} {v : V} (h : toK d = some k) (r : Rp H v d) : v = kV k := by
  cases r <;> first | (cases h; rfl) | cases h
def putE (kvs : List (L2.Key × E)) (k : L2.Key) (d : E) : List (L2.Key × E) :=
  if (kvs.any fun kv => decide (kv.1 = k)) = true then kvs.map (fun kv => if kv.1 = k then (kv.1, d) else kv) else kvs ++ [(k, d)]
inductive RpK (H : Hp) : List (L2.Key × V) → List (L2.Key × E) → Prop
  | nil : RpK H [] []
  | cons {k : L2.Key} {v : V} {d : E} {vs : List (L2.Key × V)} {ds : List (L2.Key × E)} (h : Rp H v d) (t : RpK H vs ds) : RpK H ((k, v) :: vs) ((k, d) :: ds)
section
variable {H H' : Hp}
theorem RpK.mono {vs : List (L2.Key × V)} {ds : List (L2.Key × E)} (h : RpK H vs ds) (m : ∀ a o, H a = some o → H' a = some o) : RpK H' vs ds := by
  induction h with
  | nil => exact .nil
  | cons h t ih => exact .cons (h.mono m) ih
theorem RpK.keys {vs : List (L2.Key × V)} {ds : List (L2.Key × E)} (h : RpK H vs ds) : vs.map (·.1) = ds.map (·.1) := by
  induction h with
  | nil => rfl
  | cons h t ih => rw [List.map_cons, List.map_cons, ih]
theorem RpK.any {vs : List (L2.Key × V)} {ds : List (L2.Key × E)} (h : RpK H vs ds) (k : L2.Key) : (vs.any fun kv => decide (kv.1 = k)) = ds.any fun kv => decide (kv.1 = k) := by
  induction h with
  | nil => rfl
  | cons h t ih => rw [List.any_cons, List.any_cons, ih]
theorem RpK.rep {vs : List (L2.Key × V)} {ds : List (L2.Key × E)} {k : L2.Key} {v : V} {d : E} (h : RpK H vs ds) (r : Rp H v d) : RpK H (vs.map fun kv => if kv.1 = k then (kv.1, v) else kv) (ds.map fun kv => if kv.1 = k then (kv.1, d) else kv) := by
  induction h with
  | nil => exact .nil
  | @cons k0 v0 d0 vs ds h t ih =>
    rw [List.map_cons, List.map_cons]
    by_cases e : k0 = k
    · rw [if_pos e, if_pos e]
      exact .cons r ih
    · rw [if_neg e, if_neg e]
      exact .cons h ih
theorem RpK.snoc {vs : List (L2.Key × V)} {ds : List (L2.Key × E)} {k : L2.Key} {v : V} {d : E} (h : RpK H vs ds) (r : Rp H v d) : RpK H (vs ++ [(k, v)]) (ds ++ [(k, d)]) := by
  induction h with
  | nil => exact .cons r .nil
  | cons h t ih => exact .cons h ih
theorem RpK.put {vs : List (L2.Key × V)} {ds : List (L2.Key × E)} {k : L2.Key} {v : V} {d : E} (h : RpK H vs ds) (r : Rp H v d) : RpK H (putK vs k v) (putE ds k d) := by
  unfold putK putE
  rw [h.any k]
  split
  · exact h.rep r
  · exact h.snoc r
theorem RpK.lists {vs : List (L2.Key × V)} {ds : List (L2.Key × E)} (h : RpK H vs ds) : vs = mk (ds.map (·.1)) (vs.map (·.2)) ∧ RpL H (vs.map (·.2)) (ds.map (·.2)) := by
  induction h with
  | nil => exact ⟨rfl, .nil⟩
  | cons h t ih =>
    refine ⟨?_, .cons h ih.2⟩
    show _ = _ :: mk _ _
    rw [← ih.1]
end
theorem putE_len (kvs : List (L2.Key × E)) (k : L2.Key) (d : E) : (putE kvs k d).length ≤ kvs.length + 1 := by
  unfold putE
  split
  · rw [List.length_map]
    omega
  · rw [List.length_append]
    exact Nat.le_refl _
theorem putE_nd {kvs : List (L2.Key × E)} (k : L2.Key) (d : E) (h : (kvs.map (·.1)).Nodup) : ((putE kvs k d).map (·.1)).Nodup := by
  unfold putE
  split
  · have : (kvs.map fun kv => if kv.1 = k then (kv.1, d) else kv).map (·.1) = kvs.map (·.1) := by
      rw [List.map_map]
      refine List.map_congr_left fun x _ => ?_
      show (if x.1 = k then (x.1, d) else x).1 = x.1
      split <;> rfl
    rw [this]
    exact h
  · rename_i hn
    rw [List.map_append, List.nodup_append]
    refine ⟨h, by simp, fun a ha b hb => ?_⟩
    obtain ⟨x, hx, rfl⟩ := List.mem_map.mp ha
    have hb' : b = k := by simpa using hb
    subst hb'
    intro z
    exact hn (List.any_eq_true.mpr ⟨x, hx, decide_eq_true z⟩)
def dcE (fk fv : FE) (env : List (Option E)) (i : Nat) : List E → List (L2.Key × E) → Option (List (L2.Key × E))
  | [], acc => some acc
  | x :: l, acc => ((fk (env.set i (some x))).bind toK).bind fun k => (fv (env.set i (some x))).bind fun d => dcE fk fv env i l (putE acc k d)
theorem dcE_split {fk fv : FE} {env : List (Option E)} {i : Nat} : ∀ {l : List E} {a0 r : List (L2.Key × E)} {n : Nat} {x : E}, dcE fk fv env i l a0 = some r → l[n]? = some x →
    ∃ acc k d, dcE fk fv env i (l.take n) a0 = some acc ∧ (fk (env.set i (some x))).bind toK = some k ∧ fv (env.set i (some x)) = some d ∧ dcE fk fv env i (l.take (n + 1)) a0 = some (putE acc k d)
  | y :: l, a0, r, 0, x, h, hx => by
    cases hx
    rw [dcE] at h
    obtain ⟨k, e1, e2⟩ := Option.bind_eq_some_iff.mp h
    obtain ⟨d, e3, e4⟩ := Option.bind_eq_some_iff.mp e2
    refine ⟨a0, k, d, rfl, e1, e3, ?_⟩
    show dcE fk fv env i [y] a0 = _
    rw [dcE, e1, Option.bind_some, e3]
    rfl
  | y :: l, a0, r, n + 1, x, h, hx => by
    have hx' : l[n]? = some x := hx
    rw [dcE] at h
    obtain ⟨k, e1, e2⟩ := Option.bind_eq_some_iff.mp h
    obtain ⟨d, e3, e4⟩ := Option.bind_eq_some_iff.mp e2
    obtain ⟨acc, k', d', f1, f2, f3, f4⟩ := dcE_split e4 hx'
    refine ⟨acc, k', d', ?_, f2, f3, ?_⟩
    · show dcE fk fv env i (y :: l.take n) a0 = _
      rw [dcE, e1, Option.bind_some, e3, Option.bind_some, f1]
    · show dcE fk fv env i (y :: l.take (n + 1)) a0 = _
      rw [dcE, e1, Option.bind_some, e3, Option.bind_some, f4]
theorem pu_dc {wi : TI} {fi : FA} {tk tv : TE} {fk fv : FE} {i : Nat} (hi : PuI wi fi) (hk : PuE tk fk) (hv : PuE tv fv) : PuE (tDc wi (gName i) tYes tk tv [i]) (fun env => (fi env).bind fun l => (dcE fk fv env i l []).map fun kvs => .map (kvs.map (·.1)) (kvs.map (·.2))) := fun P σ H env d Q he hf e k => by
  obtain ⟨l, e1, e2⟩ := Option.bind_eq_some_iff.mp e
  obtain ⟨kvs, e3, rfl⟩ := Option.map_eq_some_iff.mp e2
  obtain ⟨h900, hw⟩ := hi P σ H env l (fun J H1 => ∀ D, H1 D = none → ∃ W : Nat → Nat → Hp → Prop, (∃ m, W 0 m (upd H1 D (.dK []))) ∧ ∀ i' m H, W i' m H →
    (J.stop i' H ∧ Q (.ref D) H) ∨ (J.go i' H ∧ ∃ Nx : Hp → Prop, (∀ H', Nx H' → ∃ m', m' < m ∧ W (i' + 1) m' H') ∧ ∀ x H', J.yld i' H x H' → gName i x (wipe σ [i]) H' fun σ2 H2 => wipe σ2 [i] = wipe σ [i] ∧ tYes σ2 H2 fun b H3 =>
      if b = true then tk σ2 H3 fun y H4 => tv σ2 H4 fun z H5 => ∃ kvs k, y = kV k ∧ H5 D = some (.dK kvs) ∧ kvs.length < sizeLine ∧ Nx (upd H5 D (.dK (putK kvs k z))) else Nx H3)) he hf e1
  refine hw fun J H1 G Y w m1 hG hY D hD => ?_
  have he1 := he.keepS m1
  have fr1 := hf.same m1
  refine dc_it w (fun n H' => Same H1 H' ∧ ∃ (vs : List (L2.Key × V)) (acc : List (L2.Key × E)), H' D = some (.dK vs) ∧ RpK (keepH (fun b => P b ∧ b ≠ D) H') vs acc ∧ dcE fk fv env i (l.take n) [] = some acc ∧ acc.length ≤ n ∧ (acc.map (·.1)).Nodup) ⟨same_new hD, [], [], upd_same, .nil, rfl, Nat.le_refl _, by simp⟩ (fun n H' _ q => hG H' q.1) ?_ ?_
  · rintro n x H2 H3 hn ⟨m2, vs, acc, hDa, hR, hL, hlen, nd⟩ hy
    have hlk : l[n]? = some l[n] := List.getElem?_eq_getElem hn
    obtain ⟨rfl, rx⟩ := hY n x H2 H3 _ m2 hy hlk
    obtain ⟨a1, kk, dd, f1, f2, f3, f4⟩ := dcE_split e3 hlk
    rw [hL] at f1
    cases f1
    have en : En (keepH (fun b => P b ∧ b ≠ D) H3) ((wipe σ [i]).set i (some x)) (env.set i (some l[n])) := by
      have q := ((he1.mono (keep_off hD m2)).wipe [i]).set (i := i) (rx.mono (keep_off hD m2))
      have z : ([i].foldr (fun v e => e.set v none) env).set i (some l[n]) = env.set i (some l[n]) := by
        show (env.set i none).set i (some l[n]) = _
        rw [List.set_set]
      rw [z] at q
      exact q
    have fr : Fr (fun b => P b ∧ b ≠ D) H3 := fun b hb => ⟨fr1.same m2 b hb, fun z => by rw [z, hDa] at hb; cases hb⟩
    obtain ⟨kd, g1, g2⟩ := Option.bind_eq_some_iff.mp f2
    refine ⟨?_, yes_t (hk _ _ H3 _ kd _ en fr g1 fun y H4 m4 r4 => hv _ _ H4 _ dd _ (en.keepS m4) (fr.same m4) f3 fun z H5 m5 r5 => ?_)⟩
    · show ((σ.set i none).set i (some x)).set i none = σ.set i none
      rw [List.set_set, List.set_set]
    · have lvs : vs.length = acc.length := by
        have := congrArg List.length hR.keys
        rwa [List.length_map, List.length_map] at this
      refine ⟨vs, kk, toK_rep g2 r4, m5 _ _ (m4 _ _ hDa), by rw [sizeLine_eq]; omega, fun q o e => ?_, _, _, upd_same, ((hR.mono (keep_same (m4.trans m5))).put r5).mono keep_updD, f4, ?_, putE_nd _ _ nd⟩
      · rw [upd_ne (ne_of_none e hD)]
        exact m5 _ _ (m4 _ _ (m2 _ _ e))
      · have := putE_len acc kk dd
        omega
  · rintro H' ⟨m2, vs, acc, hDa, hR, hL, hlen, nd⟩
    rw [List.take_of_length_le (Nat.le_refl _), e3] at hL
    cases hL
    obtain ⟨ev, rl⟩ := hR.lists
    refine k _ H' (m1.trans m2) (.map (vs := vs.map (·.2)) (by rw [keep_at (fr1 D hD), ← ev]; exact hDa) rl.length (by rw [List.length_map, List.length_map]) (by rw [List.length_map]; omega) nd fun j v d h1 h2 => ?_)
    exact (rl.get j v d h1 h2).within fun b o p _ => p.1
/-! tuple(x), list(x) -/
def rTupOf (K : PySem.W.Frag) : List V → Hp → VK → Prop := fun xs H Q => ∃ p ys, xs = [.ref p] ∧ ((SqL K H p ys ∧ ∀ l, H l = none → Q (.ref l) (upd H l (.tup ys))) ∨ (SqT K H p ys ∧ Q (.ref p) H))
theorem call_tupE {X : Cx} : CallR X (.type "tuple") (rTupOf X.K) := call_tuple_of
theorem pu_tupOf : PuC (rTupOf K) tupE := fun P xs H ds c Q r hf e k => by
  unfold tupE at e
  split at e
  · split at e
    · rename_i hz
      cases e
      cases r with
      | cons h t =>
        cases t
        cases h with
        | @lst a ys ds h hl _ hs =>
          refine ⟨_, ys, rfl, .inl ⟨SqL.of (keep_some h).2, fun l hl' => ?_⟩⟩
          have n := same_new (o := .tup ys) hl'
          exact k _ _ n (.tup (by rw [keep_at (hf _ hl')]; exact upd_same) hl hz fun i v d h1 h2 => (hs i v d h1 h2).keepS n)
    · cases e
  · cases e
    cases r with
    | cons h t =>
      cases t
      cases h with
      | @tup a ys ds h hl hz hs => exact ⟨_, ys, rfl, .inr ⟨SqT.of (keep_some h).2, k _ H (fun _ _ z => z) (.tup h hl hz hs)⟩⟩
  · cases e
def lstE : List E → Option E
  | [.lst l] => some (.lst l)
  | [.tup l] => some (.lst l)
  | _ => none
def rLstOf (K : PySem.W.Frag) : List V → Hp → VK → Prop := fun xs H Q => ∃ p ys, xs = [.ref p] ∧ (SqL K H p ys ∨ SqT K H p ys) ∧ ∀ l, H l = none → Q (.ref l) (upd H l (.lst ys))
theorem call_lstE {X : Cx} : CallR X (.type "list") (rLstOf X.K) := call_list_of
theorem pu_lstOf : PuC (rLstOf K) lstE := fun P xs H ds c Q r hf e k => by
  unfold lstE at e
  split at e
  · cases e
    cases r with
    | cons h t =>
      cases t
      cases h with
      | @lst a ys ds h hl hz hs =>
        refine ⟨_, ys, rfl, .inl (SqL.of (keep_some h).2), fun l hl' => ?_⟩
        have n := same_new (o := .lst ys) hl'
        exact k _ _ n (.lst (by rw [keep_at (hf _ hl')]; exact upd_same) hl hz fun i v d h1 h2 => (hs i v d h1 h2).keepS n)
  · cases e
    cases r with
    | cons h t =>
      cases t
      cases h with
      | @tup a ys ds h hl hz hs =>
        refine ⟨_, ys, rfl, .inr (SqT.of (keep_some h).2), fun l hl' => ?_⟩
        have n := same_new (o := .lst ys) hl'
        exact k _ _ n (.lst (by rw [keep_at (hf _ hl')]; exact upd_same) hl hz fun i v d h1 h2 => (hs i v d h1 h2).keepS n)
  · cases e
/-! slices -/
def cutE {α : Type} (xs : List α) (lo hi : Option Int) : List α := (xs.drop (HT.sIx xs.length 0 lo)).take (HT.sIx xs.length xs.length hi - HT.sIx xs.length 0 lo)
theorem cut_rp {H : Hp} {xs : List V} {ds : List E} {lo hi : Option Int} (hl : xs.length = ds.length) (hs : ∀ (i : Nat) (v : V) (d : E), xs[i]? = some v → ds[i]? = some d → Rp H v d) : (cutV xs lo hi).length = (cutE ds lo hi).length ∧ ∀ (i : Nat) (v : V) (d : E), (cutV xs lo hi)[i]? = some v → (cutE ds lo hi)[i]? = some d → Rp H v d := by
  unfold cutV cutE
  rw [hl]
  refine ⟨by rw [List.length_take, List.length_take, List.length_drop, List.length_drop, hl], fun i v d h1 h2 => ?_⟩
  rw [List.getElem?_take] at h1 h2
  split at h1
  · rename_i hi'
    rw [if_pos hi'] at h2
    rw [List.getElem?_drop] at h1 h2
    exact hs _ v d h1 h2
  · cases h1
theorem cutE_len {α : Type} (xs : List α) (lo hi : Option Int) : (cutE xs lo hi).length ≤ xs.length := by
  unfold cutE
  rw [List.length_take, List.length_drop]
  omega
def PuO (to : TO) (o : Option Int) : Prop := ∀ (σ : L2.St) (H : Hp) (Q : Option Int → Hp → Prop), Q o H → to σ H Q
theorem pu_noPart : PuO tNoPart none := fun σ H Q q => q
theorem pu_part (i : Int) : PuO (tPart (tC (.int i))) (some i) := fun σ H Q q => ⟨i, rfl, q⟩
theorem pu_slT {tl th : TO} {lo hi : Option Int} (ha : PuE ta fa) (hl : PuO tl lo) (hh : PuO th hi) : PuE (tSl (rSlT K) ta tl th) (fun env => (fa env).bind fun d => match d with | .tup l => if HT.sIx l.length 0 lo = 0 ∧ HT.sIx l.length l.length hi = l.length then none else some (.tup (cutE l lo hi)) | _ => none) := fun P σ H env c Q he hf e k => by
  obtain ⟨d, e1, e2⟩ := Option.bind_eq_some_iff.mp e
  cases d with
  | tup l =>
    have e3 : (if HT.sIx l.length 0 lo = 0 ∧ HT.sIx l.length l.length hi = l.length then none else some (E.tup (cutE l lo hi))) = some c := e2
    split at e3
    · cases e3
    · rename_i hn
      cases e3
      refine ha P σ H env _ _ he hf e1 fun v H1 m1 r1 => hl _ _ _ (hh _ _ _ ?_)
      cases r1 with
      | @tup a xs ds h hle hz hs =>
        refine ⟨a, xs, rfl, SqT.of (keep_some h).2, by rw [hle]; exact hn, fun p hp => ?_⟩
        obtain ⟨c1, c2⟩ := cut_rp (lo := lo) (hi := hi) hle hs
        have n := same_new (o := .tup (cutV xs lo hi)) hp
        exact k _ _ (m1.trans n) (.tup (by rw [keep_at (hf _ (same_none m1 hp))]; exact upd_same) c1 (Nat.le_trans (cutE_len _ _ _) hz) fun i v d h1 h2 => (c2 i v d h1 h2).keepS n)
  | _ => cases e2
theorem pu_slL {tl th : TO} {lo hi : Option Int} (ha : PuE ta fa) (hl : PuO tl lo) (hh : PuO th hi) : PuE (tSl (rSlL K) ta tl th) (fun env => (fa env).bind fun d => match d with | .lst l => some (.lst (cutE l lo hi)) | _ => none) := fun P σ H env c Q he hf e k => by
  obtain ⟨d, e1, e2⟩ := Option.bind_eq_some_iff.mp e
  cases d with
  | lst l =>
    cases e2
    refine ha P σ H env _ _ he hf e1 fun v H1 m1 r1 => hl _ _ _ (hh _ _ _ ?_)
    cases r1 with
    | @lst a xs ds h hle hz hs =>
      refine ⟨a, xs, rfl, SqL.of (keep_some h).2, fun p hp => ?_⟩
      obtain ⟨c1, c2⟩ := cut_rp (lo := lo) (hi := hi) hle hs
      have n := same_new (o := .lst (cutV xs lo hi)) hp
      exact k _ _ (m1.trans n) (.lst (by rw [keep_at (hf _ (same_none m1 hp))]; exact upd_same) c1 (Nat.le_trans (cutE_len _ _ _) hz) fun i v d h1 h2 => (c2 i v d h1 h2).keepS n)
  | _ => cases e2
/-! joins -/
theorem RpL.app {H : Hp} {vs ws : List V} {ds es : List E} (h : RpL H vs ds) (h' : RpL H ws es) : RpL H (vs ++ ws) (ds ++ es) := by
  induction h with
  | nil => exact h'
  | cons h t ih => exact .cons h ih
def catT : E → E → Option E
  | .tup [], _ => none
  | .tup (x :: l), .tup m => if (x :: l).length + m.length ≤ 900 then some (.tup (x :: l ++ m)) else none
  | _, _ => none
theorem pu_catT : PuR (rCatT K) catT := fun P x y H d e c Q rx ry hf h k => by
  unfold catT at h
  split at h
  · cases h
  · rename_i x0 l m
    split at h
    · rename_i hz
      cases h
      cases rx with
      | @tup a xs ds h1 hl1 hz1 hs1 =>
      cases ry with
      | @tup b ys es h2 hl2 hz2 hs2 =>
      refine ⟨a, b, xs, ys, rfl, rfl, SqT.of (keep_some h1).2, SqT.of (keep_some h2).2, (fun z => by rw [z] at hl1; cases hl1), by rw [hl1, hl2, sizeLine_eq]; omega, fun z => ?_, fun z p hp => ?_⟩
      · have : m = [] := by
          rw [z] at hl2
          exact List.eq_nil_of_length_eq_zero hl2.symm
        subst this
        rw [List.append_nil] at k
        exact k _ H (fun _ _ z => z) (.tup h1 hl1 hz1 hs1)
      · have n := same_new (o := .tup (xs ++ ys)) hp
        have r := ((RpL.of hl1 hs1).app (RpL.of hl2 hs2)).mono (keep_same n)
        exact k _ _ n (.tup (by rw [keep_at (hf _ hp)]; exact upd_same) r.length (by rw [List.length_append]; exact hz) r.get)
    · cases h
  · cases h
def catL : E → E → Option E
  | .lst l, .lst m => if l.length + m.length ≤ 900 then some (.lst (l ++ m)) else none
  | _, _ => none
theorem pu_catL : PuR rCat catL := fun P x y H d e c Q rx ry hf h k => by
  unfold catL at h
  split at h
  · split at h
    · rename_i hz
      cases h
      cases rx with
      | @lst a xs ds h1 hl1 hz1 hs1 =>
      cases ry with
      | @lst b ys es h2 hl2 hz2 hs2 =>
      refine ⟨a, b, xs, ys, rfl, rfl, (keep_some h1).2, (keep_some h2).2, by rw [hl1, hl2, sizeLine_eq]; omega, fun p hp => ?_⟩
      have n := same_new (o := .lst (xs ++ ys)) hp
      have r := ((RpL.of hl1 hs1).app (RpL.of hl2 hs2)).mono (keep_same n)
      exact k _ _ n (.lst (by rw [keep_at (hf _ hp)]; exact upd_same) r.length (by rw [List.length_append]; exact hz) r.get)
    · cases h
  · cases h
/-! == of data -/
mutual
def toP : E → Option PyData
  | .non => some .none
  | .bl b => some (.bool b)
  | .int i => some (.int i)
  | .str x => some (.str x)
  | .tup l => (toPL l).map .tuple
  | .lst l => (toPL l).map .list
  | _ => none
def toPL : List E → Option (List PyData)
  | [] => some []
  | d :: l => (toP d).bind fun p => (toPL l).map (p :: ·)
end
theorem toPL_rep {H : Hp} (hP : ∀ (d : E) (v : V) (p : PyData), toP d = some p → Rp H v d → Dp K H v p) : ∀ {l : List E} {xs : List V} {ps : List PyData}, toPL l = some ps → RpL H xs l → DpAll K H xs ps
  | [], _, _, h, .nil => by cases h; exact .nil
  | d :: l, _, _, h, .cons h1 t => by
    obtain ⟨p, e1, e2⟩ := Option.bind_eq_some_iff.mp h
    obtain ⟨ps, e3, rfl⟩ := Option.map_eq_some_iff.mp e2
    exact .cons (hP d _ p e1 h1) (toPL_rep hP e3 t)
theorem Rp.dp {H : Hp} {v : V} {d : E} (r : Rp H v d) : ∀ {p : PyData}, toP d = some p → Dp K H v p := by
  induction r with
  | non => intro p h; cases h; exact .non
  | bl b => intro p h; cases h; exact .bl b
  | int i => intro p h; cases h; exact .int i
  | str x hx => intro p h; cases h; exact .str x
  | @tup a xs ds h hl hz hs ih =>
    intro p e
    obtain ⟨ps, e1, rfl⟩ := Option.map_eq_some_iff.mp e
    refine .tup (SqT.of h) ?_
    clear e
    have go : ∀ {l : List E} {ys : List V} {ps : List PyData}, toPL l = some ps → ys.length = l.length → (∀ (i : Nat) (v : V) (d : E), ys[i]? = some v → l[i]? = some d → ∀ {p : PyData}, toP d = some p → Dp K H v p) → DpAll K H ys ps := by
      intro l
      induction l with
      | nil =>
        intro ys ps h hl _
        cases h
        cases ys with
        | nil => exact .nil
        | cons y ys => cases hl
      | cons d l ihl =>
        intro ys ps h hl hh
        obtain ⟨p, e1, e2⟩ := Option.bind_eq_some_iff.mp h
        obtain ⟨ps', e3, rfl⟩ := Option.map_eq_some_iff.mp e2
        cases ys with
        | nil => cases hl
        | cons y ys => exact .cons (hh 0 y d rfl rfl e1) (ihl e3 (Nat.succ.inj hl) fun i v d h1 h2 => hh (i + 1) v d h1 h2)
    exact go e1 hl ih
  | @lst a xs ds h hl hz hs ih =>
    intro p e
    obtain ⟨ps, e1, rfl⟩ := Option.map_eq_some_iff.mp e
    refine .lst (SqL.of h) ?_
    clear e
    have go : ∀ {l : List E} {ys : List V} {ps : List PyData}, toPL l = some ps → ys.length = l.length → (∀ (i : Nat) (v : V) (d : E), ys[i]? = some v → l[i]? = some d → ∀ {p : PyData}, toP d = some p → Dp K H v p) → DpAll K H ys ps := by
      intro l
      induction l with
      | nil =>
        intro ys ps h hl _
        cases h
        cases ys with
        | nil => exact .nil
        | cons y ys => cases hl
      | cons d l ihl =>
        intro ys ps h hl hh
        obtain ⟨p, e1, e2⟩ := Option.bind_eq_some_iff.mp h
        obtain ⟨ps', e3, rfl⟩ := Option.map_eq_some_iff.mp e2
        cases ys with
        | nil => cases hl
        | cons y ys => exact .cons (hh 0 y d rfl rfl e1) (ihl e3 (Nat.succ.inj hl) fun i v d h1 h2 => hh (i + 1) v d h1 h2)
    exact go e1 hl ih
  | map h hv hk hz nd hs ih => intro p e; cases e
  | ins h hv hk hz hs ih => intro p e; cases e
def eqP (neg : Bool) (d e : E) : Option E := (toP d).bind fun p => (toP e).bind fun q => if (SeqAt.shaped p && SeqAt.shaped q) = true then some (.bl (if neg then !PyData.eqv p q else PyData.eqv p q)) else none
theorem pu_eqP : PuR (rEqD K) (eqP false) := fun P x y H d e c Q rx ry hf h k => by
  obtain ⟨p, e1, h⟩ := Option.bind_eq_some_iff.mp h
  obtain ⟨q, e2, h⟩ := Option.bind_eq_some_iff.mp h
  split at h
  · rename_i hs
    cases h
    obtain ⟨s1, s2⟩ := Bool.and_eq_true_iff.mp hs
    exact ⟨p, q, rx.ofKeep.dp e1, ry.ofKeep.dp e2, s1, s2, k _ H (fun _ _ z => z) (.bl _)⟩
  · cases h
theorem pu_neP : PuR (rNeD K) (eqP true) := fun P x y H d e c Q rx ry hf h k => by
  obtain ⟨p, e1, h⟩ := Option.bind_eq_some_iff.mp h
  obtain ⟨q, e2, h⟩ := Option.bind_eq_some_iff.mp h
  split at h
  · rename_i hs
    cases h
    obtain ⟨s1, s2⟩ := Bool.and_eq_true_iff.mp hs
    exact ⟨p, q, rx.ofKeep.dp e1, ry.ofKeep.dp e2, s1, s2, k _ H (fun _ _ z => z) (.bl _)⟩
  · cases h
end
end ET

/-! the rules with the written part by name; a def's promise from its reading -/
namespace ET
open PySem L2 XR VT
section
variable {X : Cx} {K : PySem.W.Frag}
theorem call_isiK (h : X.K = K) : CallR X (.builtin "isinstance") (rIsi K) := by subst h; exact call_isi
theorem call_lenK (h : X.K = K) : CallR X (.builtin "len") (rLenE K) := by subst h; exact call_lenE
theorem cr_allK (h : X.K = K) (hc : X.calm = true) : CallR X (.builtin "all") (rAll K) := by subst h; exact cr_all hc
theorem cr_anyK (h : X.K = K) (hc : X.calm = true) : CallR X (.builtin "any") (rAny K) := by subst h; exact cr_any hc
theorem call_tupK (h : X.K = K) : CallR X (.type "tuple") (rTupOf K) := by subst h; exact call_tupE
theorem call_lstK (h : X.K = K) : CallR X (.type "list") (rLstOf K) := by subst h; exact call_lstE
theorem ix_tupK (h : X.K = K) : IxR X (rIxT K) := by subst h; exact ix_tup
theorem ix_lstK (h : X.K = K) : IxR X (rIxL K) := by subst h; exact ix_list
theorem op_inK (h : X.K = K) : OpR X (compareOp .In) (rIn K false) := by subst h; exact op_in_seq
theorem op_ninK (h : X.K = K) : OpR X (compareOp .NotIn) (rIn K true) := by subst h; exact op_notIn_seq
theorem sl_tupK (h : X.K = K) : SlR X (rSlT K) := by subst h; exact sl_tup
theorem sl_lstK (h : X.K = K) : SlR X (rSlL K) := by subst h; exact sl_list
theorem op_catTK (h : X.K = K) : OpR X (binaryOp .Add) (rCatT K) := by subst h; exact op_catT
theorem op_eqPK (h : X.K = K) (hu : X.A.units + 64 < cLine) : OpR X (compareOp .Eq) (rEqD K) := by subst h; exact op_eqD hu
theorem op_nePK (h : X.K = K) (hu : X.A.units + 64 < cLine) : OpR X (compareOp .NotEq) (rNeD K) := by subst h; exact op_neD hu
theorem pi_tupK {tg e : Expr} {te : TE} (h : X.K = K) (he : PE X e te) : PI X tg e (iTup K te) := by subst h; exact pi_tup he
theorem pi_lstK {tg e : Expr} {te : TE} (h : X.K = K) (he : PE X e te) : PI X tg e (iList K te) := by subst h; exact pi_list he
def rIsNo : R2 := fun x y H Q => y = .non ∧ Q (.bl (decide (x = .non))) H
def rNotNo : R2 := fun x y H Q => y = .non ∧ Q (.bl (!decide (x = .non))) H
theorem op_isNo : OpR X (compareOp .Is) rIsNo := op_isN
theorem op_notNo : OpR X (compareOp .IsNot) rNotNo := op_notN
theorem pu_isNo : PuR rIsNo isNo := pu_isN
theorem pu_notNo : PuR rNotNo notNo := pu_notN
end
theorem pu_lcV {wi : TI} {fi : FA} {tt : TT} {ft : FT} {te : TE} {fe : FE} {i : Nat} {vs : List Nat} (hv : vs = [i]) (hi : PuI wi fi) (ht : PuT tt ft) (hE : PuE te fe) : PuE (tLc wi (gName i) tt te vs) (fun env => (fi env).bind fun l => (lcE ft fe env i l).map .lst) := by
  subst hv
  exact pu_lc hi ht hE
theorem pu_dcV {wi : TI} {fi : FA} {tk tv : TE} {fk fv : FE} {i : Nat} {vs : List Nat} (hv : vs = [i]) (hi : PuI wi fi) (hk : PuE tk fk) (hv' : PuE tv fv) : PuE (tDc wi (gName i) tYes tk tv vs) (fun env => (fi env).bind fun l => (dcE fk fv env i l []).map fun kvs => .map (kvs.map (·.1)) (kvs.map (·.2))) := by
  subst hv
  exact pu_dc hi hk hv'
def env0 (N : List Str) (ds : List E) : List (Option E) := ds.map some ++ List.replicate (N.length - ds.length) none
theorem en_start {H : Hp} {N : List Str} {vs : List V} {ds : List E} (r : RpL H vs ds) : En H (L2.start N vs) (env0 N ds) := by
  have hl := r.length
  refine ⟨?_, fun i d e => ?_⟩
  · show (vs.map some ++ List.replicate (N.length - vs.length) none).length = _
    unfold env0
    simp [hl]
  · unfold env0 at e
    by_cases hi : i < ds.length
    · rw [List.getElem?_append_left (by rw [List.length_map]; exact hi), List.getElem?_map] at e
      obtain ⟨d', e1, e2⟩ := Option.map_eq_some_iff.mp e
      cases e2
      have hv : i < vs.length := by omega
      refine ⟨vs[i], ?_, r.get i _ _ (List.getElem?_eq_getElem hv) e1⟩
      show (vs.map some ++ List.replicate (N.length - vs.length) none)[i]? = _
      rw [List.getElem?_append_left (by rw [List.length_map]; exact hv), List.getElem?_map, List.getElem?_eq_getElem hv]
      rfl
    · rw [List.getElem?_append_right (by rw [List.length_map]; omega), List.getElem?_replicate] at e
      split at e
      · cases e
      · cases e
theorem pu_def {t : TS} {f : FS} {F : List E → Option E} {N : List Str} {vs : List V} {H : Hp} {Q : VK} {E0 : XK} (pu : PuS t f) (hF : ∀ ds d, F ds = some d → f (env0 N ds) = some (.inl d)) (h : spP F vs H Q E0) : t { nx := fun _ H' => Q .non H', rt := Q } (L2.start N vs) H := by
  obtain ⟨P, ds, d, r, fr, e, k⟩ := h
  exact (pu P _ H (env0 N ds) { nx := fun _ H' => Q .non H', rt := Q } (en_start r) fr).1 d (hF ds d e) k
theorem spP_len {F : List E → Option E} {n : Nat} (hF : ∀ ds d, F ds = some d → ds.length = n) {vs : List V} {H : Hp} {Q : VK} {E0 : XK} (h : spP F vs H Q E0) : vs.length = n := by
  obtain ⟨P, ds, d, r, fr, e, k⟩ := h
  rw [r.length]
  exact hF ds d e
end ET

/-! t == (), t != () of any tuple -/
namespace ET
open PySem PySem.Spec PyProof.Rows L2 XR VT
section
variable {X : Cx} {K : PySem.W.Frag}
def rEqNilT (K : PySem.W.Frag) : R2 := fun x y H Q => ∃ (a b : Addr) (xs : List V), x = .ref a ∧ y = .ref b ∧ SqT K H a xs ∧ SqT K H b [] ∧ Q (.bl xs.isEmpty) H
def rNeNilT (K : PySem.W.Frag) : R2 := fun x y H Q => ∃ (a b : Addr) (xs : List V), x = .ref a ∧ y = .ref b ∧ SqT K H a xs ∧ SqT K H b [] ∧ Q (.bl (!xs.isEmpty)) H
theorem op_eqNilT (h : X.K = K) (hu : X.A.units < cLine) : OpR X (compareOp .Eq) (rEqNilT K) := by
  subst h
  intro pins s σ H x y v u Q I rx ry h
  obtain ⟨a, b, xs, rfl, rfl, ha, hb, q⟩ := h
  obtain rfl : v = Value.ref a := rx
  obtain rfl : u = Value.ref b := ry
  obtain ⟨its, r1, l1, _⟩ := I.tuple ha
  obtain ⟨its2, r2, l2, _⟩ := I.tuple hb
  cases r2
  have len := r1.length
  show wpAny (model X.prog X.w) X.A (richCompare .Eq (.ref a) (.ref b)) (EP X pins σ Q) X.xe s
  refine PySem.SeqAt.RcAt.tuples (e := fun _ => true) l1 l2 hu (fun j h1 h2 => absurd h2 (Nat.not_lt_zero _)) X.prog X.w X.xe _ ?_
  cases xs with
  | nil =>
    cases r1
    exact ⟨.bl true, H, I, rfl, q⟩
  | cons x xs =>
    cases r1
    exact ⟨.bl false, H, I, by first | rfl | simp, q⟩
theorem op_neNilT (h : X.K = K) (hu : X.A.units < cLine) : OpR X (compareOp .NotEq) (rNeNilT K) := by
  subst h
  intro pins s σ H x y v u Q I rx ry h
  obtain ⟨a, b, xs, rfl, rfl, ha, hb, q⟩ := h
  obtain rfl : v = Value.ref a := rx
  obtain rfl : u = Value.ref b := ry
  obtain ⟨its, r1, l1, _⟩ := I.tuple ha
  obtain ⟨its2, r2, l2, _⟩ := I.tuple hb
  cases r2
  have len := r1.length
  show wpAny (model X.prog X.w) X.A (richCompare .NotEq (.ref a) (.ref b)) (EP X pins σ Q) X.xe s
  refine PySem.SeqAt.RcNeAt.tuples (e := fun _ => true) l1 l2 hu (fun j h1 h2 => absurd h2 (Nat.not_lt_zero _)) X.prog X.w X.xe _ ?_
  cases xs with
  | nil =>
    cases r1
    exact ⟨.bl false, H, I, rfl, q⟩
  | cons x xs =>
    cases r1
    exact ⟨.bl true, H, I, by first | rfl | simp, q⟩
def eqNilT : E → E → Option E
  | .tup l, .tup [] => some (.bl l.isEmpty)
  | _, _ => none
def neNilT : E → E → Option E
  | .tup l, .tup [] => some (.bl (!l.isEmpty))
  | _, _ => none
theorem nil_emp {xs : List V} {l : List E} (h : xs.length = l.length) : xs.isEmpty = l.isEmpty := by
  cases xs <;> cases l <;> first | rfl | cases h
theorem pu_eqNilT : PuR (rEqNilT K) eqNilT := fun P x y H d e c Q rx ry hf h k => by
  unfold eqNilT at h
  split at h
  · cases h
    cases rx with
    | @tup a xs ds h1 hl1 hz1 hs1 =>
    cases ry with
    | @tup b ys es h2 hl2 hz2 hs2 =>
    have : ys = [] := List.eq_nil_of_length_eq_zero hl2
    subst this
    refine ⟨a, b, xs, rfl, rfl, SqT.of (keep_some h1).2, SqT.of (keep_some h2).2, ?_⟩
    rw [nil_emp hl1]
    exact k _ H (fun _ _ z => z) (.bl _)
  · cases h
theorem pu_neNilT : PuR (rNeNilT K) neNilT := fun P x y H d e c Q rx ry hf h k => by
  unfold neNilT at h
  split at h
  · cases h
    cases rx with
    | @tup a xs ds h1 hl1 hz1 hs1 =>
    cases ry with
    | @tup b ys es h2 hl2 hz2 hs2 =>
    have : ys = [] := List.eq_nil_of_length_eq_zero hl2
    subst this
    refine ⟨a, b, xs, rfl, rfl, SqT.of (keep_some h1).2, SqT.of (keep_some h2).2, ?_⟩
    rw [nil_emp hl1]
    exact k _ H (fun _ _ z => z) (.bl _)
  · cases h
end
end ET

/-! [e for a, b in zip(s, t)] of two tuples, its items True or False -/
namespace ET
open PySem L2 XR VT
theorem walk_zipT {K : PySem.W.Frag} {a b : Addr} {xs ys : List V} {n : Nat} (hn : n = xs.length) (hm : n = ys.length) : Walk (RZ.ItzT K a b) n (fun H => SqT K H a xs ∧ SqT K H b ys) (YPair (fun i => xs[i]?) (fun i => ys[i]?)) := by
  refine ⟨fun i _ hi q => ?_, fun _ q => ⟨xs, ys, q.1, q.2, by omega⟩, fun i H v H' _ q y => ?_⟩
  · have h1 : i < xs.length := by omega
    have h2 : i < ys.length := by omega
    exact ⟨xs, ys, xs[i], ys[i], q.1, q.2, by simp [h1], by simp [h2]⟩
  · obtain ⟨T, x, z, h1, h2, h3, h4, h5⟩ := y
    exact ⟨T, x, z, h1, h2, h3, h4 xs q.1, h5 ys q.2⟩
def lcZ (fe : FE) (env : List (Option E)) (i j : Nat) : List E → List E → Option (List Bool)
  | x :: l, y :: m => ((fe ((env.set i (some x)).set j (some y))).bind toB).bind fun b => (lcZ fe env i j l m).map (b :: ·)
  | [], [] => some []
  | _, _ => none
theorem lcZ_get {fe : FE} {env : List (Option E)} {i j : Nat} : ∀ {l m : List E} {bs : List Bool}, lcZ fe env i j l m = some bs → l.length = bs.length ∧ m.length = bs.length ∧ ∀ (k : Nat) x y b, l[k]? = some x → m[k]? = some y → bs[k]? = some b → fe ((env.set i (some x)).set j (some y)) = some (.bl b)
  | [], [], bs, h => by cases h; exact ⟨rfl, rfl, fun k x y b h => nomatch h⟩
  | x :: l, y :: m, bs, h => by
    obtain ⟨b, e1, e2⟩ := Option.bind_eq_some_iff.mp h
    obtain ⟨d, e3, e4⟩ := Option.bind_eq_some_iff.mp e1
    obtain ⟨bs', e5, rfl⟩ := Option.map_eq_some_iff.mp e2
    cases toB_eq e4
    obtain ⟨h1, h2, h3⟩ := lcZ_get e5
    refine ⟨by rw [List.length_cons, List.length_cons, h1], by rw [List.length_cons, List.length_cons, h2], fun k a c b' g1 g2 g3 => ?_⟩
    cases k with
    | zero => cases g1; cases g2; cases g3; exact e3
    | succ k => exact h3 k a c b' g1 g2 g3
  | [], _ :: _, _, h => by cases h
  | _ :: _, [], _, h => by cases h
theorem wipe2 {σ : L2.St} {i j : Nat} {a b : Option V} (hij : i ≠ j) : wipe (((wipe σ [i, j]).set i a).set j b) [i, j] = wipe σ [i, j] := by
  show ((((((σ.set j none).set i none).set i a).set j b).set j none).set i none) = (σ.set j none).set i none
  rw [List.set_set, List.set_set, List.set_comm _ _ hij, List.set_set, List.set_set]
theorem En.set2 {H : Hp} {σ : L2.St} {env : List (Option E)} {i j : Nat} {v w : V} {d e : E} (h : En H σ env) (r : Rp H v d) (q : Rp H w e) : En H (((L2.wipe σ [i, j]).set i (some v)).set j (some w)) ((env.set i (some d)).set j (some e)) := by
  have z := ((h.wipe [i, j]).set (i := i) r).set (i := j) q
  have e1 : ((([i, j].foldr (fun v e => e.set v none) env).set i (some d)).set j (some e)) = (env.set i (some d)).set j (some e) := by
    show ((((env.set j none).set i none).set i (some d)).set j (some e)) = _
    rw [List.set_set]
    by_cases hij : i = j
    · subst hij
      rw [List.set_set, List.set_set, List.set_set]
    · rw [List.set_comm _ _ (Ne.symm hij), List.set_set]
  rw [e1] at z
  exact z
theorem pu_lcZ {K : PySem.W.Frag} {ta tb te : TE} {fa fb fe : FE} {i j : Nat} {vs : List Nat} (hv : vs = [i, j]) (hij : i ≠ j) (ha : PuE ta fa) (hb : PuE tb fb) (hE : PuE te fe) : PuE (tLc (RZ.iZipA K (tCons ta (tCons tb tNil))) (gTup K 2 (gCons (gName i) (gCons (gName j) gNil))) tYes te vs)
    (fun env => (fa env).bind fun d => (fb env).bind fun e => match d, e with | .tup l, .tup m => (lcZ fe env i j l m).map fun bs => .lst (bs.map .bl) | _, _ => none) := fun P σ H env d Q he hf e k => by
  subst hv
  obtain ⟨d1, e1, e⟩ := Option.bind_eq_some_iff.mp e
  obtain ⟨d2, e2, e⟩ := Option.bind_eq_some_iff.mp e
  split at e
  case h_2 => cases e
  rename_i l m _
  obtain ⟨bs, e3, rfl⟩ := Option.map_eq_some_iff.mp e
  obtain ⟨l1, l2, l3⟩ := lcZ_get e3
  refine ha P σ H env _ _ he hf e1 fun v H1 m1 r1 => hb P σ H1 env _ _ (he.keepS m1) (hf.same m1) e2 fun u H2 m2 r2 => ?_
  have r1 := r1.keepS m2
  cases r1 with
  | @tup a xs _ h1 hl1 hz1 hs1 =>
  cases r2 with
  | @tup b ys _ h2 hl2 hz2 hs2 =>
  have m12 := m1.trans m2
  have g1 := (keep_some h1).2
  have g2 := (keep_some h2).2
  refine ⟨a, b, xs, ys, rfl, .inr ⟨SqT.of g1, SqT.of g2, fun D hD => ?_⟩⟩
  have hf2 := hf.same m12
  refine lc_pure (walk_zipT (xs := xs) (ys := ys) rfl (by omega)) hD (bs.map V.bl) (by rw [List.length_map]; omega) (small1000 (by omega)) (fun H' m => ⟨SqT.of (m _ _ g1), SqT.of (m _ _ g2)⟩) (fun n x H3 H4 y hy m3 hY N hN => ?_) mono_pair (fun H' m3 f => ?_)
  · obtain ⟨T0, x1, y1, rfl, hT, rfl, q1, q2⟩ := hY
    have q1 : xs[n]? = some x1 := q1
    have q2 : ys[n]? = some y1 := q2
    have hT2 : H2 T0 = none := same_none m3 hT
    have mT := same_new (o := .tup [x1, y1]) hT
    refine ⟨T0, _, rfl, SqT.of upd_same, rfl, _, _, rfl, _, _, rfl, rfl, wipe2 hij, ?_⟩
    rw [List.getElem?_map] at hy
    obtain ⟨b', hb', rfl⟩ := Option.map_eq_some_iff.mp hy
    have n1 : n < l.length := by
      have := (List.getElem?_eq_some_iff.mp hb').1
      omega
    have n2 : n < m.length := by omega
    have f := l3 n l[n] m[n] b' (List.getElem?_eq_getElem n1) (List.getElem?_eq_getElem n2) hb'
    refine hE P _ _ _ (.bl b') _ (((he.keepS m12).keepS (m3.trans mT)).set2 ((hs1 n x1 _ q1 (List.getElem?_eq_getElem n1)).keepS (m3.trans mT)) ((hs2 n y1 _ q2 (List.getElem?_eq_getElem n2)).keepS (m3.trans mT))) ((hf2.same m3).same mT) f fun z H5 m5 r5 => ?_
    cases r5
    exact hN H5 (mT.trans m5)
  · refine k _ H' (m12.trans m3) (.lst (by rw [keep_at (hf2 D hD)]; exact f) (by rw [List.length_map, List.length_map]) (by rw [List.length_map]; omega) fun n v d h1 h2 => ?_)
    rw [List.getElem?_map] at h1 h2
    obtain ⟨b1, z1, rfl⟩ := Option.map_eq_some_iff.mp h1
    obtain ⟨b2, z2, rfl⟩ := Option.map_eq_some_iff.mp h2
    rw [z1] at z2
    cases z2
    exact .bl _
theorem pi_zipAK {X : Cx} {K : PySem.W.Frag} {e e2 : Expr} {ta : TA} {p pos tpos : Pos} {elts : List Expr} {kk : Nat} (hK : X.K = K) (hg : Gl X "zip") (hm : X.mg "zip" = none) (ha : PA X [e, e2] ta)
    (hs : starEach [e, e2] X.env = (false, eval e X.env) :: starEach [e2] X.env := by rfl) (hpl : (backTo pos (starEach [e2] X.env)).any (·.1) = false := by rfl) :
    PI X (.Tuple elts kk tpos) (.Call (.Name "zip" p) [e, e2] [] pos) (RZ.iZipA K ta) := by subst hK; exact RZ.pi_zipA hg hm ha hs hpl
end ET

/-! != of an own instance whose class has __eq__ and no __ne__ of its own -/
namespace XR
open PySem PySem.Spec PyProof.Rows L2
section
variable {prog : Program} {w : World} {A : Around} {E : Value → Shared → Prop} {s : Shared} {K : PySem.W.Frag} {x C f : Addr} {ox : Obj} {od : Option Obj} {name : Str} {b tb : Value}
theorem ifBound_KB {M : Model} {id : String} {T : String} {args : List Value} {Q : Option Value → Shared → Prop} (X : K.In s.heap) (I : PySem.W.InstAt s.heap x ox C od) (hs : PySem.W.findIn K (.ref C) name = some (some (.builtin id))) (S : Slot T name id)
    (h : wpAny M A (call (.builtin id) (.ref x :: args)) (fun v => Q (some v)) E s) : wpAny M A (callSpecialIfBound? (.ref x) name args) Q E s := by
  simp only [callSpecialIfBound?, bindSpecialIfBound?]
  refine wpAny_holding (wpAny_bind (wpAny_bind (wpAny_bind (I.type.here ((PySem.W.looks_findIn X hs).here ?_)))))
  simp only [S.bind]
  refine wpAny_bind (wpAny_askSetting (wpAny_ite ?_))
  have fin : wpAny M A (call (.builtin id) ([.ref x] ++ args) >>= fun v => pure (some v)) Q E s := wpAny_bind (wpAny_mono h (fun v s' h' => wpAny_pure h') fun _ _ h' => h')
  split
  · exact wpAny_bind (wpAny_pure (wpAny_pure fin))
  · exact wpAny_tryCatch (wpAny_bind (wpAny_pure (wpAny_pure fin)))
theorem check_ne {M : Model} {rest : List Value} {Q : Unit → Shared → Prop} (X : K.In s.heap) (I : PySem.W.InstAt s.heap x ox C od) (hm : PySem.W.subIn K (.ref C) (.type "object") = some true) (ha : argsOk "object.__ne__" ⟨.ref x :: rest, []⟩) (hq : Q () s) :
    wpAny M A (checkBuiltinCall "object.__ne__" ⟨.ref x :: rest, []⟩) Q E s := by
  simp only [checkBuiltinCall, F.cmpKind_ne, F.cmpSplit_ne]
  refine wpAny_bind ?_
  unfold isInstance
  refine wpAny_bind (I.type.here ((PySem.W.looks_subIn X hm).here ?_))
  simp only [Bool.not_true, Bool.false_eq_true, if_false]
  cases hsig : Manifest.signature? "object.__ne__" with
  | none => exact wpAny_pure hq
  | some sig =>
    simp only [argsOk, hsig] at ha
    have h2 : Bind.checkArgs "object.__ne__" sig ⟨.ref x :: rest, []⟩ = pure () := ha
    show wpAny M A (Bind.checkArgs "object.__ne__" sig ⟨.ref x :: rest, []⟩) Q E _
    rw [h2]; exact wpAny_pure hq
theorem objNe_entry {Q : Fin → Shared → Prop} (hu : A.units < cLine) (X : K.In s.heap) (I : PySem.W.InstAt s.heap x ox C od) (hs : PySem.W.findIn K (.ref C) "__eq__" = some (some (.ref f))) (hf : PySem.W.isFn K (.ref f) = true)
    (hcall : wpAny (model prog w) A (call (.ref f) [.ref x, b]) (fun v s' => ∃ r, v = .bool r ∧ Q (.done (.ret (.bool (!r)))) s') E s) :
    wpAny (model prog w) A (Builtin.«object.__ne__» ⟨[.ref x, b], []⟩) Q E s := by
  unfold Builtin.«object.__ne__»
  repeat (first
    | with_reducible refine wpAny_cRoomFor hu ?_
    | (refine wpAny_bind (m := callSpecialIfBound? (.ref x) (Str.ofString "__eq__") [b])
        (PySem.W.ifBound_K X I hs hf (wpAny_mono hcall (fun r s' hr => by
          obtain ⟨b', rfl, hq⟩ := hr
          repeat (first | exact hq | exact wpAny_pure hq | exact wpAny_truthy_bool hq | (refine wpAny_bind (m := truthy (.bool _)) (wpAny_truthy_bool ?_)) | wp_step)) fun _ _ e => e)))
    | wp_step)
theorem ne_K {Q : Value → Shared → Prop} {L : Addr} {h₀ : Heap} {m : Str → Option Value} (hu : A.units + 1 < cLine) (F : Fr h₀ L s.heap m) (X₀ : K.In h₀) (I : PySem.W.InstAt s.heap x ox C od) (hb : PySem.W.Looks (model prog w) s.heap (typeOf b) tb) (hn : PySem.W.notFirst K C tb = true)
    (hne : PySem.W.findIn K (.ref C) "__ne__" = some (some (.builtin "object.__ne__"))) (hm : PySem.W.subIn K (.ref C) (.type "object") = some true) (hs : PySem.W.findIn K (.ref C) "__eq__" = some (some (.ref f))) (hf : PySem.W.isFn K (.ref f) = true)
    (h : wpAny (model prog w) A.in1 (call (.ref f) [.ref x, b]) (fun v s' => ∃ r, v = .bool r ∧ Q (.bool (!r)) s') E s) : wpAny (model prog w) A (richCompare .NotEq (.ref x) b) Q E s := by
  have X := X₀.keeps F.keep
  have one : wpAny (model prog w) A (tryCompare (.ref x) "__ne__" b) (fun r s' => ∃ v, r = some v ∧ Q v s') E s := by
    unfold tryCompare
    refine wpAny_bind (ifBound_KB X I hne PySem.F.cmp_object.ne (wpAny_call (codeAny_call_builtin PySem.F.cmp_object.ne.plain PySem.F.cmpEntry_ne (check_ne X I hm (PySem.F.cmpArgs_ne _ _) (objNe_entry (A := A.in1) hu X I hs hf (wpAny_mono h (fun v s' hv => ?_) fun _ _ e => e))))))
    obtain ⟨r, rfl, hq⟩ := hv
    first | exact ⟨r, rfl, wpAny_pure ⟨_, rfl, hq⟩⟩ | exact ⟨r, rfl, wpAny_pure (wpAny_pure ⟨_, rfl, hq⟩)⟩
  unfold richCompare
  simp only [oneThing_ref]
  refine wpAny_holding (wpAny_bind (wpAny_cRoomFor (Nat.lt_of_succ_lt hu) ?_))
  refine wpAny_bind (I.type.here (wpAny_bind (hb.here ?_)))
  rw [cmpInfo_NotEq]
  split
  · rename_i q
    have e : PySem.W.subIn K tb (.ref C) = some false := by
      rcases Bool.or_eq_true_iff.mp hn with e | e
      · rw [beq_iff_eq.mp e] at q; simp at q
      · exact beq_iff_eq.mp e
    refine wpAny_bind ((PySem.W.looks_subIn X e).here ?_)
    simp only [Bool.false_eq_true, if_false]
    refine wpAny_bind (wpAny_mono one (fun r s' z => ?_) fun _ _ e => e)
    obtain ⟨v, rfl, hq⟩ := z
    exact wpAny_pure hq
  · refine wpAny_bind (wpAny_pure ?_)
    simp only [Bool.false_eq_true, if_false]
    refine wpAny_bind (wpAny_mono one (fun r s' z => ?_) fun _ _ e => e)
    obtain ⟨v, rfl, hq⟩ := z
    exact wpAny_pure hq
end
section
variable {X : Cx} {C f : Addr} {fd : FuncData} {ps : List Str} {n : Nat} {sp : Sp}
def rNeU (K : PySem.W.Frag) (C : Addr) (sp : Sp) : R2 := fun x y H Q => ∃ a dx fs t, x = .ref a ∧ H a = some (.ins C dx fs) ∧ TyX K H y t ∧ PySem.W.notFirst K C t = true ∧ sp [x, y] H (fun v H' => ∃ b, v = .bl b ∧ Q (.bl (!b)) H') E0
theorem op_neU (F : FnOk X.prog X.w X.K X.mg X.base CX0 n f fd ps sp) (hs : PySem.W.findIn X.K (.ref C) "__eq__" = some (some (.ref f))) (hf : PySem.W.isFn X.K (.ref f) = true) (hne : PySem.W.findIn X.K (.ref C) "__ne__" = some (some (.builtin "object.__ne__"))) (hm : PySem.W.subIn X.K (.ref C) (.type "object") = some true)
    (hb : Binds X.K fd ps []) (hr : Room (n + 1) X.A) (mono : ∀ vs H Q Q' E, sp vs H Q E → (∀ v H', Q v H' → Q' v H') → sp vs H Q' E) : OpR X (compareOp .NotEq) (rNeU X.K C sp) := by
  intro pins s σ H x y v u Q I rx ry h
  obtain ⟨a, dx, fs, t, rfl, ha, ty, hn, hsp⟩ := h
  obtain rfl : v = Value.ref a := rx
  show wpAny (model X.prog X.w) X.A (richCompare .NotEq (.ref a) u) (EP X pins σ Q) X.xe s
  obtain ⟨mA, J, _⟩ := ins_get I.hok ha
  obtain ⟨od, J, _⟩ := J.look
  obtain ⟨m, hF⟩ := I.fr
  obtain ⟨Pk, Z, hP, _⟩ := kit_of I ry ty
  have hu : X.A.units + 1 < cLine := hu_of hr
  refine ne_K (tb := t) hu hF I.ok.mod.kin J (Z.ty _ _ I.kIn hP) hn hne hm hs hf ?_
  refine wpAny_mono (own_eq_call (A := X.A.in1) (Q := fun v H' => ∃ b, v = .bl b ∧ Q (.bl (!b)) H') F hb ⟨hr.in1, rfl⟩ I (x := .ref a) rfl ry (mono _ _ _ _ _ hsp fun v H' z => by obtain ⟨b, e, q⟩ := z; exact ⟨⟨b, e⟩, b, e, q⟩)) (fun w' s' hq => ?_) fun _ _ x => x
  obtain ⟨b, H', rfl, I', b', e, q⟩ := hq
  cases e
  exact ⟨b, rfl, .bl (!b), H', I', rfl, q⟩
end
end XR

/-! attributes and methods of instances; == and != by an own __eq__ -/
namespace ET
open PySem L2 XR VT
def getF (ns : List Str) (ds : List E) (f : Str) : Option E := (ns.zip ds).lookup f
theorem lookup_rp {H : Hp} : ∀ {ns : List Str} {vs : List V} {ds : List E} {f : Str} {d : E}, vs.length = ds.length → (∀ (i : Nat) (v : V) (d : E), vs[i]? = some v → ds[i]? = some d → Rp H v d) → (ns.zip ds).lookup f = some d → ∃ v, (ns.zip vs).lookup f = some v ∧ Rp H v d
  | n :: ns, v :: vs, e :: ds, f, d, hl, hs, h => by
    have h' : (match f == n with | true => some e | false => (ns.zip ds).lookup f) = some d := h
    show ∃ u, (match f == n with | true => some v | false => (ns.zip vs).lookup f) = some u ∧ _
    cases hb : f == n with
    | true =>
      rw [hb] at h'
      cases h'
      exact ⟨v, rfl, hs 0 v e rfl rfl⟩
    | false =>
      rw [hb] at h'
      exact lookup_rp (Nat.succ.inj hl) (fun i v d h1 h2 => hs (i + 1) v d h1 h2) h'
  | [], _, _, f, d, _, _, h => by cases h
  | n :: ns, [], [], f, d, _, _, h => by cases h
  | n :: ns, _ :: _, [], f, d, hl, _, _ => by cases hl
  | n :: ns, [], _ :: _, f, d, hl, _, _ => by cases hl
theorem lookup_none : ∀ {ns : List Str} {vs : List V} {f : Str}, f ∉ ns → (ns.zip vs).lookup f = none
  | [], _, _, _ => rfl
  | n :: ns, [], f, _ => rfl
  | n :: ns, v :: vs, f, h => by
    show (match f == n with | true => some v | false => (ns.zip vs).lookup f) = none
    have hb : (f == n) = false := beq_eq_false_iff_ne.mpr fun z => h (by rw [z]; exact List.mem_cons_self)
    rw [hb]
    exact lookup_none fun z => h (List.mem_cons_of_mem _ z)
def fldE (C : Addr) (f : Str) : E → Option E
  | .ins C' ns ds => if C' = C then getF ns ds f else none
  | _ => none
section
variable {K : PySem.W.Frag} {C : Addr} {CS : List Addr} {ta : TE} {fa : FE} {f m : Str} {X : Cx}
theorem pu_fld (cK : Cls K C) (nA : NoAttr K C f) (ha : PuE ta fa) : PuE (tFld K ta f) (fun env => (fa env).bind (fldE C f)) := fun P σ H env c Q he hf e k => by
  obtain ⟨d, e1, e2⟩ := Option.bind_eq_some_iff.mp e
  refine ha P σ H env d _ he hf e1 fun v H1 m1 r1 => ?_
  unfold fldE at e2
  split at e2
  case h_2 => cases e2
  split at e2
  case isFalse => cases e2
  rename_i hc
  subst hc
  cases r1 with
  | @ins a dx _ vs ns ds h hv hk hz hs =>
  obtain ⟨u, h1, h2⟩ := lookup_rp hv hs e2
  exact ⟨a, _, dx, _, u, rfl, (keep_some h).2, cK, nA, h1, k u H1 m1 h2⟩
def mthE (C : Addr) (m : Str) (F : List E → Option E) : E → Option E
  | .ins C' ns ds => if C' = C ∧ m ∉ ns then F [.ins C' ns ds] else none
  | _ => none
theorem pu_meth {F : List E → Option E} {E0 : XK} (ha : PuE ta fa) : PuE (tMeth C m (spP F) [] E0 ta tNil) (fun env => (fa env).bind (mthE C m F)) := fun P σ H env c Q he hf e k => by
  obtain ⟨d, e1, e2⟩ := Option.bind_eq_some_iff.mp e
  refine ha P σ H env d _ he hf e1 fun v H1 m1 r1 => ?_
  unfold mthE at e2
  split at e2
  case h_2 => cases e2
  split at e2
  case isFalse => cases e2
  rename_i hc
  obtain ⟨rfl, hm⟩ := hc
  cases r1 with
  | @ins a dx _ vs ns ds h hv hk hz hs =>
  exact ⟨a, dx, _, rfl, (keep_some h).2, lookup_none hm, P, _, c, .cons (.ins h hv hk hz hs) .nil, hf.same m1, e2, fun z H3 m3 r3 => k z H3 (m1.trans m3) r3⟩
def insOk (CS : List Addr) : E → Bool
  | .ins C _ _ => decide (C ∈ CS)
  | _ => true
def eqU (C : Addr) (CS : List Addr) (F : List E → Option E) (d e : E) : Option E := match d with
  | .ins C' ns ds => if C' = C ∧ insOk CS e = true then F [.ins C' ns ds, e] else none
  | _ => none
def neU (C : Addr) (CS : List Addr) (F : List E → Option E) (d e : E) : Option E := ((eqU C CS F d e).bind toB).map fun b => .bl (!b)
theorem nf_of (hn : ∀ t ∈ ["NoneType", "bool", "int", "str", "tuple", "dict", "list"], PySem.W.notFirst K C (.type t) = true) (hc : ∀ D ∈ CS, PySem.W.notFirst K C (.ref D) = true) {e : E} (h : insOk CS e = true) : PySem.W.notFirst K C (tyE e) = true := by
  cases e with
  | ins D ns ds => exact hc D (of_decide_eq_true h)
  | _ => exact hn _ (by simp [tyN])
theorem spP_mono {F : List E → Option E} (vs : List V) (H : Hp) (Q Q' : VK) (E0 : XK) (h : spP F vs H Q E0) (k : ∀ v H', Q v H' → Q' v H') : spP F vs H Q' E0 := by
  obtain ⟨P, ds, d, r, fr, e, z⟩ := h
  exact ⟨P, ds, d, r, fr, e, fun v H' m r => k v H' (z v H' m r)⟩
theorem pu_eqU {F : List E → Option E} (hC : ∀ C ∈ CS, CF K C) (hn : ∀ t ∈ ["NoneType", "bool", "int", "str", "tuple", "dict", "list"], PySem.W.notFirst K C (.type t) = true) (hc : ∀ D ∈ CS, PySem.W.notFirst K C (.ref D) = true) (hb : ∀ ds d, F ds = some d → ∃ b, d = .bl b) : PuR (rEqU K C (spP F)) (eqU C CS F) := fun P x y H d e c Q rx ry hf h k => by
  unfold eqU at h
  split at h
  case h_2 => cases h
  split at h
  case isFalse => cases h
  rename_i hq
  obtain ⟨rfl, hi⟩ := hq
  obtain ⟨b, rfl⟩ := hb _ _ h
  have ty : TyX K H y (tyE e) := ry.ofKeep.ty hC fun D ns ds z => by rw [z] at hi; exact of_decide_eq_true hi
  cases rx with
  | @ins a dx _ vs ns ds h' hv hk hz hs =>
  exact ⟨a, dx, _, _, rfl, (keep_some h').2, ty, nf_of hn hc hi, P, _, _, .cons (.ins h' hv hk hz hs) (.cons ry .nil), hf, h, fun v H' m r => by cases r; exact ⟨⟨b, rfl⟩, k _ H' m (.bl b)⟩⟩
theorem pu_neU {F : List E → Option E} (hC : ∀ C ∈ CS, CF K C) (hn : ∀ t ∈ ["NoneType", "bool", "int", "str", "tuple", "dict", "list"], PySem.W.notFirst K C (.type t) = true) (hc : ∀ D ∈ CS, PySem.W.notFirst K C (.ref D) = true) : PuR (rNeU K C (spP F)) (neU C CS F) := fun P x y H d e c Q rx ry hf h k => by
  obtain ⟨b, h0, rfl⟩ := Option.map_eq_some_iff.mp h
  clear h
  obtain ⟨c, h, hb⟩ := Option.bind_eq_some_iff.mp h0
  cases toB_eq hb
  unfold eqU at h
  split at h
  case h_2 => cases h
  split at h
  case isFalse => cases h
  rename_i hq
  obtain ⟨rfl, hi⟩ := hq
  have ty : TyX K H y (tyE e) := ry.ofKeep.ty hC fun D ns ds z => by rw [z] at hi; exact of_decide_eq_true hi
  cases rx with
  | @ins a dx _ vs ns ds h' hv hk hz hs =>
  exact ⟨a, dx, _, _, rfl, (keep_some h').2, ty, nf_of hn hc hi, P, _, _, .cons (.ins h' hv hk hz hs) (.cons ry .nil), hf, h, fun v H' m r => by cases r; exact ⟨b, rfl, k _ H' m (.bl _)⟩⟩
theorem pe_fldK {o : Expr} {pos : Pos} (h : X.K = K) (he : PE X o ta) (hb : attributeBase o f X.env (eval o X.env) = eval o X.env) : PE X (.Attribute o f pos) (tFld K ta f) := by subst h; exact pe_fld he hb
theorem op_eqUK {n : Nat} {g : Addr} {fd : FuncData} {ps : List Str} {sp : Sp} (h : X.K = K) (F : FnOk X.prog X.w K X.mg X.base CX0 n g fd ps sp) (hs : PySem.W.findIn K (.ref C) "__eq__" = some (some (.ref g))) (hf : PySem.W.isFn K (.ref g) = true) (hb : Binds K fd ps []) (hr : Room n X.A) : OpR X (compareOp .Eq) (rEqU K C sp) := by subst h; exact op_eqU F hs hf hb hr
theorem op_neUK {n : Nat} {g : Addr} {fd : FuncData} {ps : List Str} {F0 : List E → Option E} (h : X.K = K) (F : FnOk X.prog X.w K X.mg X.base CX0 n g fd ps (spP F0)) (hs : PySem.W.findIn K (.ref C) "__eq__" = some (some (.ref g))) (hf : PySem.W.isFn K (.ref g) = true) (hne : PySem.W.findIn K (.ref C) "__ne__" = some (some (.builtin "object.__ne__"))) (hm : PySem.W.subIn K (.ref C) (.type "object") = some true) (hb : Binds K fd ps []) (hr : Room (n + 1) X.A) : OpR X (compareOp .NotEq) (rNeU K C (spP F0)) := by subst h; exact op_neU F hs hf hne hm hb hr spP_mono
end
end ET

/-! text + text, list * number, for c in text -/
namespace ET
open PySem L2 XR VT
def txT (x : Str) : Bool := PyData.strOk x && decide (x.length ≤ 2000000)
theorem txT_of {x : Str} (h : txT x = true) : TxOk x := ⟨(Bool.and_eq_true_iff.mp h).1, of_decide_eq_true (Bool.and_eq_true_iff.mp h).2⟩
def rAddS : R2 := fun x y H Q => ∃ i j, x = .str i ∧ y = .str j ∧ i.length + j.length ≤ sizeLine ∧ Q (.str (i ++ j)) H
def addS : E → E → Option E
  | .str i, .str j => if txT (i ++ j) = true ∧ i.length + j.length ≤ 900 then some (.str (i ++ j)) else none
  | _, _ => none
theorem pu_addS : PuR rAddS addS := fun P x y H d e c Q rx ry hf h k => by
  unfold addS at h
  split at h
  · split at h
    · rename_i hq
      cases h
      cases rx
      cases ry
      exact ⟨_, _, rfl, rfl, by rw [sizeLine_eq]; omega, k _ H (fun _ _ z => z) (.str _ (txT_of hq.1))⟩
    · cases h
  · cases h
def repE : E → E → Option E
  | .lst l, .int n => if 0 ≤ n ∧ n ≤ 900 ∧ l.length * n.toNat ≤ 900 then some (.lst (List.replicate n.toNat l).flatten) else none
  | _, _ => none
theorem flat_rpl {H : Hp} {vs : List V} {ds : List E} (r : RpL H vs ds) : ∀ n, RpL H (List.replicate n vs).flatten (List.replicate n ds).flatten
  | 0 => .nil
  | n + 1 => by
    rw [List.replicate_succ, List.replicate_succ, List.flatten_cons, List.flatten_cons]
    exact r.app (flat_rpl r n)
theorem pu_rep : PuR rRep repE := fun P x y H d e c Q rx ry hf h k => by
  unfold repE at h
  split at h
  · rename_i l0 n0
    split at h
    · rename_i hq
      cases h
      cases ry
      cases rx with
      | @lst a xs ds h1 hl hz hs =>
      have rr := flat_rpl (RpL.of hl hs) (Int.toNat n0)
      refine ⟨a, _, xs, rfl, rfl, (keep_some h1).2, by omega, by omega, by rw [hl, sizeLine_eq]; omega, fun p hp => ?_⟩
      have m := same_new (o := .lst (List.replicate (Int.toNat n0) xs).flatten) hp
      refine k _ _ m (.lst (by rw [keep_at (hf _ hp)]; exact upd_same) rr.length ?_ fun i v d g1 g2 => (rr.get i v d g1 g2).keepS m)
      have e : ∀ n, (List.replicate n l0).flatten.length = l0.length * n := fun n => by
        induction n with
        | zero => rfl
        | succ n ih => rw [List.replicate_succ, List.flatten_cons, List.length_append, ih, Nat.mul_succ]; omega
      rw [e]
      exact hq.2.2
    · cases h
  · cases h
def chrs (x : Str) : List E := x.cps.toList.map fun c => E.str ⟨#[c]⟩
def chrF (x : Str) : Option (List E) := if x.cps.size ≤ 900 ∧ (x.cps.toList.all fun c => txT ⟨#[c]⟩) = true then some (chrs x) else none
theorem pu_iStr {ta : TE} {fa : FE} (ha : PuE ta fa) : PuI (iStr ta) (fun env => (fa env).bind fun d => match d with | .str x => chrF x | _ => none) := fun P σ H env l R he hf e => by
  obtain ⟨d, e1, e2⟩ := Option.bind_eq_some_iff.mp e
  cases d with
  | str x =>
    have e3 : (if x.cps.size ≤ 900 ∧ (x.cps.toList.all fun c => txT ⟨#[c]⟩) = true then some (chrs x) else none) = some l := e2
    split at e3
    · rename_i hq
      cases e3
      have ll : (chrs x).length = x.cps.size := by
        unfold chrs
        rw [List.length_map, Array.length_toList]
      refine ⟨by rw [ll]; exact hq.1, fun k => ha P σ H env _ _ he hf e1 fun v H1 m1 r1 => ?_⟩
      cases r1
      refine ⟨x, rfl, k _ H1 (fun _ => True) _ (ll ▸ walk_str) m1 (fun _ _ => trivial) fun i v H2 H3 d m2 hy hd => ?_⟩
      obtain ⟨rfl, c, hc, rfl⟩ := hy
      refine ⟨rfl, ?_⟩
      unfold chrs at hd
      have hc' : x.cps.toList[i]? = some c := by rw [Array.getElem?_toList]; exact hc
      rw [List.getElem?_map, hc'] at hd
      cases hd
      exact .str _ (txT_of (List.all_eq_true.mp hq.2 c (List.mem_of_getElem? hc')))
    · cases e3
  | _ => cases e2
theorem cut_whole {α : Type} {xs : List α} {lo hi : Option Int} (h : HT.sIx xs.length 0 lo = 0 ∧ HT.sIx xs.length xs.length hi = xs.length) : cutE xs lo hi = xs := by
  unfold cutE
  rw [h.1, h.2, List.drop_zero, Nat.sub_zero, List.take_length]
theorem pu_slA {K : PySem.W.Frag} {ta : TE} {fa : FE} {tl th : TO} {lo hi : Option Int} (ha : PuE ta fa) (hl : PuO tl lo) (hh : PuO th hi) : PuE (tSl (rSlA K) ta tl th) (fun env => (fa env).bind fun d => match d with | .tup l => some (.tup (cutE l lo hi)) | _ => none) := fun P σ H env c Q he hf e k => by
  obtain ⟨d, e1, e2⟩ := Option.bind_eq_some_iff.mp e
  cases d with
  | tup l =>
    cases e2
    refine ha P σ H env _ _ he hf e1 fun v H1 m1 r1 => hl _ _ _ (hh _ _ _ ?_)
    cases r1 with
    | @tup a xs ds h hle hz hs =>
      refine ⟨a, xs, rfl, SqT.of (keep_some h).2, fun hw => ?_, fun _ p hp => ?_⟩
      · rw [hle] at hw
        refine k _ _ m1 ?_
        rw [cut_whole hw]
        exact .tup h hle hz hs
      · obtain ⟨c1, c2⟩ := cut_rp (lo := lo) (hi := hi) hle hs
        have n := same_new (o := .tup (cutV xs lo hi)) hp
        exact k _ _ (m1.trans n) (.tup (by rw [keep_at (hf _ (same_none m1 hp))]; exact upd_same) c1 (Nat.le_trans (cutE_len _ _ _) hz) fun i v d h1 h2 => (c2 i v d h1 h2).keepS n)
  | _ => cases e2
theorem sl_tupAK {X : Cx} {K : PySem.W.Frag} (h : X.K = K) : SlR X (rSlA K) := by subst h; exact sl_tupA
end ET

namespace K05
open PySem L2 XR VT ET
def top (i : Nat) : Stmt := PySem.Challenge.pw_planfirst_k05_kinds_made.main.body.getD i (.Pass ⟨0, 0, 0, 0⟩)
abbrev sInt : Stmt := top 7
abbrev sName : Stmt := top 8
abbrev sTag : Stmt := top 9
abbrev sSort : Stmt := top 10
structure Txt (mg : Str → Option Value) : Prop where
  isi : mg "isinstance" = none
  len : mg "len" = none
  all : mg "all" = none
  zip : mg "zip" = none
  tuple : mg "tuple" = none
  dict : mg "dict" = none
  list : mg "list" = none
  bool : mg "bool" = none
  int : mg "int" = none
  str : mg "str" = none
  letters : ∃ t, mg "LETTERS" = some (.str "abcdefghijklmnopqrstuvwxyz" t)
  mark : ∃ t, mg "MARK" = some (.str "#" t)
mutual
/-- no instance stands in it -/
def pl : E → Bool
  | .ins _ _ _ => false
  | .tup l => plL l
  | .lst l => plL l
  | .map _ ds => plL ds
  | _ => true
def plL : List E → Bool
  | [] => true
  | d :: l => pl d && plL l
end
theorem plL_cons {d : E} {l : List E} (h : plL (d :: l) = true) : pl d = true ∧ plL l = true := Bool.and_eq_true_iff.mp h
theorem pl_mem : ∀ {l : List E} {d : E}, plL l = true → d ∈ l → pl d = true
  | x :: l, d, h, hd => by
    obtain ⟨h1, h2⟩ := plL_cons h
    rcases List.mem_cons.mp hd with rfl | hd
    · exact h1
    · exact pl_mem h2 hd
def intE : E → Bool
  | .int _ => true
  | _ => false
def nameE : E → Bool
  | .str x => isName x
  | _ => false
def tagL : List E → Bool
  | [.str m, .str n, .int i] => decide (m = "#") && isName n && decide (1 ≤ i)
  | _ => false
def tagE : E → Bool
  | .tup l => tagL l
  | _ => false
def sortE : E → Str
  | .tup l => if tagL l then "tag" else "tuple"
  | .bl _ => "bool"
  | .int _ => "integer"
  | .map _ _ => "map"
  | .str _ => "text"
  | _ => "none"
def d1 (f : E → E) : List E → Option E
  | [d] => if pl d = true then some (f d) else none
  | _ => none
theorem d1_len {f : E → E} (ds : List E) (d : E) (h : d1 f ds = some d) : ds.length = 1 := by
  unfold d1 at h
  split at h
  · rfl
  · cases h
theorem d1_eq {f : E → E} {ds : List E} {d : E} (h : d1 f ds = some d) : ∃ x, ds = [x] ∧ pl x = true ∧ d = f x := by
  unfold d1 at h
  split at h
  · rename_i x
    split at h
    · rename_i hx
      cases h
      exact ⟨x, rfl, hx, rfl⟩
    · cases h
  · cases h
section
variable {P : Program} {w : World} {K : PySem.W.Frag} {mg : Str → Option Value} {base : Heap}
variable {CS : List Addr}
theorem scIn : FnScope ["thing"] ["thing"] (defScope sInt) := ⟨rfl, rfl, rfl, by decide +kernel, rfl, by decide +kernel, by decide +kernel⟩
theorem ok_int {f : Addr} {fd : FuncData} (F : Fun K "is_integer" "is_integer" sInt f fd) (T : Txt mg) (hC : ∀ C ∈ CS, CF K C) : FnOk P w K mg base CX0 1 f fd ["thing"] (spP (d1 fun d => .bl (intE d))) := by
  refine F.ok scIn (fun vs H Q E0 h => spP_len d1_len h) (fun cdv A outer s H vs Q E0 hr h => ?_)
  refine ⟨_, (pss_one (ps_ret (pe_and (pe_callB (call_isiK (K := K) rfl) (by rfl) T.isi (by decide +kernel) (pa_cons (pv 0) (pa_cons (pe_bltn (v := .ty "int") (by rfl) T.int (by decide +kernel) rfl) pa_nil))) (pe_one (pe_not (pe_callB (call_isiK (K := K) rfl) (by rfl) T.isi (by decide +kernel) (pa_cons (pv 0) (pa_cons (pe_bltn (v := .ty "bool") (by rfl) T.bool (by decide +kernel) rfl) pa_nil)))))))), ?_⟩
  apply pu_def (h := h)
  case pu => (repeat' first
    | with_reducible exact pu_var _ | with_reducible exact pu_non | with_reducible exact pu_bl _ | with_reducible exact pu_int _ | with_reducible exact pu_nil | with_reducible exact pu_next | with_reducible exact pu_yes
    | with_reducible apply pu_seq | with_reducible apply pu_ifS | with_reducible apply pu_ret | with_reducible apply pu_asg
    | with_reducible apply pu_and | with_reducible apply pu_or | with_reducible apply pu_not | with_reducible apply pu_test | with_reducible apply pu_b
    | with_reducible apply pu_andV | with_reducible apply pu_orV | with_reducible apply pu_notV | with_reducible apply pu_if
    | with_reducible apply pu_isi hC | with_reducible apply pu_cb (hr := pu_len) | with_reducible apply pu_cb (hr := pu_all) | with_reducible apply pu_cb (hr := pu_any) | with_reducible apply pu_cb (hr := pu_tupOf) | with_reducible apply pu_cb (hr := pu_lstOf)
    
    | with_reducible apply pu_op (hr := pu_ixT) | with_reducible apply pu_op (hr := pu_ixL) | with_reducible apply pu_op (hr := pu_eqS) | with_reducible apply pu_op (hr := pu_neS) | with_reducible apply pu_op (hr := pu_in) | with_reducible apply pu_op (hr := pu_isNo) | with_reducible apply pu_op (hr := pu_notNo)
    | with_reducible apply pu_op (hr := pu_cm) | with_reducible apply pu_op (hr := pu_ar) | with_reducible apply pu_op (hr := pu_eqP) | with_reducible apply pu_op (hr := pu_neP) | with_reducible apply pu_op (hr := pu_catT) | with_reducible apply pu_op (hr := pu_catL)
    | with_reducible apply pu_chain pu_cm pu_cm | with_reducible apply pu_lcV | with_reducible apply pu_dcV | with_reducible apply pu_iTup | with_reducible apply pu_iLst
    | with_reducible apply pu_slT | with_reducible apply pu_slL | with_reducible exact pu_noPart | with_reducible exact pu_part _
    | exact pu_str _ ⟨by decide +kernel, by decide +kernel⟩ | with_reducible apply pu_call | with_reducible apply pu_tup | with_reducible apply pu_lst | with_reducible apply pu_cons | (with_reducible_and_instances rfl) | rfl)
  case hF =>
    intro ds d e
    obtain ⟨x, rfl, hx, rfl⟩ := d1_eq e
    cases x <;> first | rfl | cases hx
theorem scNa : FnScope ["thing", "letter"] ["thing"] (defScope sName) := ⟨rfl, rfl, rfl, by decide +kernel, rfl, by decide +kernel, by decide +kernel⟩
theorem scTg : FnScope ["thing"] ["thing"] (defScope sTag) := ⟨rfl, rfl, rfl, by decide +kernel, rfl, by decide +kernel, by decide +kernel⟩
theorem ok_tag {f fN fI : Addr} {fd dN dI : FuncData} (F : Fun K "is_tag" "is_tag" sTag f fd) (T : Txt mg) (hC : ∀ C ∈ CS, CF K C)
    (GN : FnOk P w K mg base CX0 1 fN dN ["thing"] (spP (d1 fun d => .bl (nameE d)))) (gN : mg "is_name" = some (.ref fN)) (kN : PySem.W.keepIn K (.ref fN) = true) (bN : Binds K dN ["thing"] [])
    (GI : FnOk P w K mg base CX0 1 fI dI ["thing"] (spP (d1 fun d => .bl (intE d)))) (gI : mg "is_integer" = some (.ref fI)) (kI : PySem.W.keepIn K (.ref fI) = true) (bI : Binds K dI ["thing"] []) : FnOk P w K mg base CX0 2 f fd ["thing"] (spP (d1 fun d => .bl (tagE d))) := by
  obtain ⟨tM, gM⟩ := T.mark
  refine F.ok scTg (fun vs H Q E0 h => spP_len d1_len h) (fun cdv A outer s H vs Q E0 hr h => ?_)
  refine ⟨_, (pss_cons (ps_if (PW.pt (pw_or (pt_not (pt_val (pe_callB (call_isiK (K := K) rfl) (by rfl) T.isi (by decide +kernel) (pa_cons (pv 0) (pa_cons (pe_bltn (v := .ty "tuple") (by rfl) T.tuple (by decide +kernel) rfl) pa_nil))))) (pw_or (pt_cmpR op_ne (pe_callB (call_lenK (K := K) rfl) (by rfl) T.len (by decide +kernel) (pa_cons (pv 0) pa_nil)) pe_int (nomark _)) (pw_or (pt_not (pt_val (pe_callB (call_isiK (K := K) rfl) (by rfl) T.isi (by decide +kernel) (pa_cons (pe_ix (ix_tupK (K := K) rfl) (pv 0) pe_int (fun _ _ => rfl)) (pa_cons (pe_bltn (v := .ty "str") (by rfl) T.str (by decide +kernel) rfl) pa_nil))))) (pw_or1 (pt_cmpR op_ne (pe_ix (ix_tupK (K := K) rfl) (pv 0) pe_int (fun _ _ => rfl)) (pe_glob (v := .str "#") rfl gM ⟨_, rfl⟩) (nomark _))))))) (pss_one (ps_ret pe_bl)) pss_nil)
      (pss_one (ps_ret (pe_and (pe_call GN hr rfl gN kN bN .nil pass0 (pa_cons (pe_ix (ix_tupK (K := K) rfl) (pv 0) pe_int (fun _ _ => rfl)) pa_nil)) (pe_and (pe_call GI hr rfl gI kI bI .nil pass0 (pa_cons (pe_ix (ix_tupK (K := K) rfl) (pv 0) pe_int (fun _ _ => rfl)) pa_nil)) (pe_one (pe_cmpR op_ge (pe_ix (ix_tupK (K := K) rfl) (pv 0) pe_int (fun _ _ => rfl)) pe_int (nomark _)))))))), ?_⟩
  apply pu_def (h := h)
  case pu => (repeat' first
    | with_reducible exact pu_var _ | with_reducible exact pu_non | with_reducible exact pu_bl _ | with_reducible exact pu_int _ | with_reducible exact pu_nil | with_reducible exact pu_next | with_reducible exact pu_yes
    | with_reducible apply pu_seq | with_reducible apply pu_ifS | with_reducible apply pu_ret | with_reducible apply pu_asg
    | with_reducible apply pu_and | with_reducible apply pu_or | with_reducible apply pu_not | with_reducible apply pu_test | with_reducible apply pu_b
    | with_reducible apply pu_andV | with_reducible apply pu_orV | with_reducible apply pu_notV | with_reducible apply pu_if
    | with_reducible apply pu_isi hC | with_reducible apply pu_cb (hr := pu_len) | with_reducible apply pu_cb (hr := pu_all) | with_reducible apply pu_cb (hr := pu_any) | with_reducible apply pu_cb (hr := pu_tupOf) | with_reducible apply pu_cb (hr := pu_lstOf)
    
    | with_reducible apply pu_op (hr := pu_ixT) | with_reducible apply pu_op (hr := pu_ixL) | with_reducible apply pu_op (hr := pu_eqS) | with_reducible apply pu_op (hr := pu_neS) | with_reducible apply pu_op (hr := pu_in) | with_reducible apply pu_op (hr := pu_isNo) | with_reducible apply pu_op (hr := pu_notNo)
    | with_reducible apply pu_op (hr := pu_cm) | with_reducible apply pu_op (hr := pu_ar) | with_reducible apply pu_op (hr := pu_eqP) | with_reducible apply pu_op (hr := pu_neP) | with_reducible apply pu_op (hr := pu_catT) | with_reducible apply pu_op (hr := pu_catL)
    | with_reducible apply pu_chain pu_cm pu_cm | with_reducible apply pu_lcV | with_reducible apply pu_dcV | with_reducible apply pu_iTup | with_reducible apply pu_iLst
    | with_reducible apply pu_slT | with_reducible apply pu_slL | with_reducible exact pu_noPart | with_reducible exact pu_part _
    | exact pu_str _ ⟨by decide +kernel, by decide +kernel⟩ | with_reducible apply pu_call | with_reducible apply pu_tup | with_reducible apply pu_lst | with_reducible apply pu_cons | (with_reducible_and_instances rfl) | rfl)
  case hF =>
    intro ds d e
    obtain ⟨x, rfl, hx, rfl⟩ := d1_eq e
    cases x with
    | tup l =>
      by_cases hl : l.length = 3
      · match l, hl, hx with
        | [a, b, c], _, hx =>
          obtain ⟨ha, h2⟩ := plL_cons hx
          obtain ⟨hb, h3⟩ := plL_cons h2
          obtain ⟨hc, _⟩ := plL_cons h3
          cases a with
          | str m =>
            by_cases hm : m = "#"
            · subst hm
              have go : ∀ z, d1 (fun d => .bl (nameE d)) [b] = some (.bl (nameE b)) → d1 (fun d => .bl (intE d)) [c] = some (.bl (intE c)) → z = tagL [.str "#", b, c] → (if nameE b = true then (if intE c = true then (cmI (fun i j => decide (j ≤ i)) c (.int 1)).bind toB else some false) else some false) = some z := fun z _ _ hz => by
                subst hz
                cases b with
                | str n =>
                  cases hn : isName n with
                  | true =>
                    rw [show nameE (.str n) = true from hn, if_pos rfl]
                    cases c with
                    | int i => simp [cmI, intE, toB, tagL, hn]
                    | _ => rfl
                  | false =>
                    rw [show nameE (.str n) = false from hn, if_neg (by decide)]
                    cases c <;> simp [tagL, hn]
                | _ => rfl
              have g1 : d1 (fun d => .bl (nameE d)) [b] = some (.bl (nameE b)) := by simp [d1, hb]
              have g2 : d1 (fun d => .bl (intE d)) [c] = some (.bl (intE c)) := by simp [d1, hc]
              have g3 := go _ g1 g2 rfl
              cases hn : nameE b with
              | false =>
                rw [hn, if_neg (by decide)] at g3
                simp [env0, isT, isC, isN, tyN, lenE, allE, anyE, bools, ixT, ixL, atI, ixN, isNo, notNo, eqS, neS, sc, cmI, arI, inE, items, flatE, eqF, toB, g1, hn, tagE, ← Option.some.inj g3]
              | true =>
                rw [hn, if_pos rfl] at g3
                cases hi : intE c with
                | false =>
                  rw [hi, if_neg (by decide)] at g3
                  simp [env0, isT, isC, isN, tyN, lenE, allE, anyE, bools, ixT, ixL, atI, ixN, isNo, notNo, eqS, neS, sc, cmI, arI, inE, items, flatE, eqF, toB, g1, g2, hn, hi, tagE, ← Option.some.inj g3]
                | true =>
                  cases c with
                  | int i =>
                    have g4 : some (decide ((1 : Int) ≤ i)) = some (tagL [.str "#", b, .int i]) := g3
                    simp [env0, isT, isC, isN, tyN, lenE, allE, anyE, bools, ixT, ixL, atI, ixN, isNo, notNo, eqS, neS, sc, cmI, arI, inE, items, flatE, eqF, toB, g1, g2, hn, hi, tagE, ← Option.some.inj g4]
                  | _ => cases hi
            · have : tagL [.str m, b, c] = false := by
                cases b <;> cases c <;> simp [tagL, hm]
              simp [env0, isT, isC, isN, tyN, lenE, allE, anyE, bools, ixT, ixL, atI, ixN, isNo, notNo, eqS, neS, sc, cmI, arI, inE, items, flatE, eqF, toB, tagE, hm, this]
          | ins _ _ _ => cases ha
          | _ => rfl
      · have h0 : tagL l = false := by
          unfold tagL
          split
          · exact absurd rfl hl
          · rfl
        have h1 : ¬ ((l.length : Int) = 3) := by omega
        simp [env0, isT, isC, isN, tyN, lenE, allE, anyE, bools, ixT, ixL, atI, ixN, isNo, notNo, eqS, neS, sc, cmI, arI, inE, items, flatE, eqF, toB, tagE, h0, h1]
    | _ => first | rfl | cases hx
theorem scSo : FnScope ["value"] ["value"] (defScope sSort) := ⟨rfl, rfl, rfl, by decide +kernel, rfl, by decide +kernel, by decide +kernel⟩
theorem ok_sort {f fT : Addr} {fd dT : FuncData} (F : Fun K "sort_of" "sort_of" sSort f fd) (T : Txt mg) (hC : ∀ C ∈ CS, CF K C)
    (GT : FnOk P w K mg base CX0 2 fT dT ["thing"] (spP (d1 fun d => .bl (tagE d)))) (gT : mg "is_tag" = some (.ref fT)) (kT : PySem.W.keepIn K (.ref fT) = true) (bT : Binds K dT ["thing"] []) : FnOk P w K mg base CX0 3 f fd ["value"] (spP (d1 fun d => .str (sortE d))) := by
  refine F.ok scSo (fun vs H Q E0 h => spP_len d1_len h) (fun cdv A outer s H vs Q E0 hr h => ?_)
  refine ⟨_, (pss_cons (ps_if (pt_val (pe_callB (call_isiK (K := K) rfl) (by rfl) T.isi (by decide +kernel) (pa_cons (pv 0) (pa_cons (pe_bltn (v := .ty "tuple") (by rfl) T.tuple (by decide +kernel) rfl) pa_nil)))) (pss_one (ps_ret (pe_ifExp (pt_val (pe_call GT hr rfl gT kT bT .nil pass0 (pa_cons (pv 0) pa_nil))) pe_str pe_str))) pss_nil)
      (pss_cons (ps_if (pt_val (pe_callB (call_isiK (K := K) rfl) (by rfl) T.isi (by decide +kernel) (pa_cons (pv 0) (pa_cons (pe_bltn (v := .ty "bool") (by rfl) T.bool (by decide +kernel) rfl) pa_nil)))) (pss_one (ps_ret pe_str)) pss_nil)
      (pss_cons (ps_if (pt_val (pe_callB (call_isiK (K := K) rfl) (by rfl) T.isi (by decide +kernel) (pa_cons (pv 0) (pa_cons (pe_bltn (v := .ty "int") (by rfl) T.int (by decide +kernel) rfl) pa_nil)))) (pss_one (ps_ret pe_str)) pss_nil)
      (pss_cons (ps_if (pt_val (pe_callB (call_isiK (K := K) rfl) (by rfl) T.isi (by decide +kernel) (pa_cons (pv 0) (pa_cons (pe_bltn (v := .ty "dict") (by rfl) T.dict (by decide +kernel) rfl) pa_nil)))) (pss_one (ps_ret pe_str)) pss_nil)
      (pss_one (ps_ret (pe_ifExp (pt_val (pe_callB (call_isiK (K := K) rfl) (by rfl) T.isi (by decide +kernel) (pa_cons (pv 0) (pa_cons (pe_bltn (v := .ty "str") (by rfl) T.str (by decide +kernel) rfl) pa_nil)))) pe_str pe_str))))))), ?_⟩
  apply pu_def (h := h)
  case pu => (repeat' first
    | with_reducible exact pu_var _ | with_reducible exact pu_non | with_reducible exact pu_bl _ | with_reducible exact pu_int _ | with_reducible exact pu_nil | with_reducible exact pu_next | with_reducible exact pu_yes
    | with_reducible apply pu_seq | with_reducible apply pu_ifS | with_reducible apply pu_ret | with_reducible apply pu_asg
    | with_reducible apply pu_and | with_reducible apply pu_or | with_reducible apply pu_not | with_reducible apply pu_test | with_reducible apply pu_b
    | with_reducible apply pu_andV | with_reducible apply pu_orV | with_reducible apply pu_notV | with_reducible apply pu_if
    | with_reducible apply pu_isi hC | with_reducible apply pu_cb (hr := pu_len) | with_reducible apply pu_cb (hr := pu_all) | with_reducible apply pu_cb (hr := pu_any) | with_reducible apply pu_cb (hr := pu_tupOf) | with_reducible apply pu_cb (hr := pu_lstOf)
    
    | with_reducible apply pu_op (hr := pu_ixT) | with_reducible apply pu_op (hr := pu_ixL) | with_reducible apply pu_op (hr := pu_eqS) | with_reducible apply pu_op (hr := pu_neS) | with_reducible apply pu_op (hr := pu_in) | with_reducible apply pu_op (hr := pu_isNo) | with_reducible apply pu_op (hr := pu_notNo)
    | with_reducible apply pu_op (hr := pu_cm) | with_reducible apply pu_op (hr := pu_ar) | with_reducible apply pu_op (hr := pu_eqP) | with_reducible apply pu_op (hr := pu_neP) | with_reducible apply pu_op (hr := pu_catT) | with_reducible apply pu_op (hr := pu_catL)
    | with_reducible apply pu_chain pu_cm pu_cm | with_reducible apply pu_lcV | with_reducible apply pu_dcV | with_reducible apply pu_iTup | with_reducible apply pu_iLst
    | with_reducible apply pu_slT | with_reducible apply pu_slL | with_reducible exact pu_noPart | with_reducible exact pu_part _
    | exact pu_str _ ⟨by decide +kernel, by decide +kernel⟩ | with_reducible apply pu_call | with_reducible apply pu_tup | with_reducible apply pu_lst | with_reducible apply pu_cons | (with_reducible_and_instances rfl) | rfl)
  case hF =>
    intro ds d e
    obtain ⟨x, rfl, hx, rfl⟩ := d1_eq e
    cases x with
    | tup l =>
      cases ht : tagL l <;> simp [env0, isT, isC, isN, tyN, lenE, allE, anyE, bools, ixT, ixL, atI, ixN, isNo, notNo, eqS, neS, sc, cmI, arI, inE, items, flatE, eqF, toB, d1, hx, tagE, sortE, ht]
    | _ => first | rfl | cases hx
end
end K05

namespace K05
open PySem L2 XR VT ET
abbrev sTable : Stmt := top 17
def strK : L2.Key → Bool
  | .inr _ => true
  | _ => false
def strE : E → Bool
  | .str _ => true
  | _ => false
/-- what is_table is asked of -/
def tblD : E → Bool
  | .map _ ds => ds.all flatE
  | .ins _ _ _ => false
  | _ => true
def tableE : E → Bool
  | .map ks ds => (ks.zip ds).all fun p => strK p.1 && strE p.2
  | .non => true
  | _ => false
def tblF : List E → Option E
  | [d] => if tblD d = true then some (.bl (tableE d)) else none
  | _ => none
theorem tblF_len (ds : List E) (d : E) (h : tblF ds = some d) : ds.length = 1 := by
  unfold tblF at h
  split at h
  · rfl
  · cases h
section
variable {P : Program} {w : World} {K : PySem.W.Frag} {mg : Str → Option Value} {base : Heap}
variable {CS : List Addr}
theorem ok_name {f : Addr} {fd : FuncData} (F : Fun K "is_name" "is_name" sName f fd) (T : Txt mg) (hC : ∀ C ∈ CS, CF K C) : FnOk P w K mg base CX0 1 f fd ["thing"] (spP (d1 fun d => .bl (nameE d))) := by
  obtain ⟨tL, hL⟩ := T.letters
  refine F.ok scNa (fun vs H Q E0 h => spP_len d1_len h) (fun cdv A outer s H vs Q E0 hr h => ?_)
  obtain ⟨Pr, ds, d0, r, fr, e, kk⟩ := h
  obtain ⟨d, rfl, hp, rfl⟩ := d1_eq e
  cases r with
  | @cons v _ _ _ hd t =>
  cases t
  have k : ∀ H', Same H H' → Q (.bl (nameE d)) H' := fun H' m => kk _ H' m (.bl _)
  refine ⟨_, (pss_one (ps_ret (pe_and (pe_callB call_isi (by rfl) T.isi (by decide +kernel) (pa_cons (pv 0) (pa_cons (pe_bltn (v := .ty "str") (by rfl) T.str (by decide +kernel) rfl) pa_nil))) (pe_and (pe_chain op_le op_le pe_int (pe_callB call_len (by rfl) T.len (by decide +kernel) (pa_cons (pv 0) pa_nil)) pe_int) (pe_one (pe_callB (cr_all rfl) (by rfl) T.all (by decide +kernel) (pa_cons (pe_lc (own := [("letter", 1)]) (g := gName 1) (tt := tYes) rfl scNa.nd (pi_str (pv 0)) (blkOk_by (own := [("letter", 1)]) (N := ["thing", "letter"]) (sc := (defScope sName)) (by decide +kernel)) (fun _ _ _ _ _ => pg_name (i := 1) scNa.nd rfl (Or.inl rfl)) (fun _ _ _ _ _ => pts_nil) (fun _ _ _ _ _ => (pe_cmpR op_in_sign (pv 1) (pe_glob (v := .str "abcdefghijklmnopqrstuvwxyz") rfl hL ⟨_, rfl⟩) (by rfl)))) pa_nil))))))), ?_⟩
  have ni : ∀ C ns ds, d ≠ .ins C ns ds := fun C ns ds z => by rw [z] at hp; cases hp
  have tv : TyX K H v (tyE d) := hd.ofKeep.ty hC fun C ns ds z => absurd z (ni C ns ds)
  refine ⟨_, rfl, _, _, _, _, _, rfl, .ty _, tv, kit_is "str" (by decide) d ni, _, rfl, ?_⟩
  cases hd with
  | str x hx =>
    refine iteT ?_
    have hxl := hx.2
    have fin : ∀ b H', Same H H' → b = isName x → Q (.bl b) H' := fun b H' m e => by rw [e]; exact k H' m
    refine ⟨_, rfl, _, _, rfl, ⟨(by rw [sizeLine_eq]; omega), rfl⟩, ?_⟩
    refine ⟨1, _, rfl, rfl, _, rfl, ?_⟩
    have lx : x.length = x.cps.size := rfl
    by_cases h1 : (1 : Int) ≤ (x.length : Int)
    case neg =>
      rw [decide_eq_false h1]
      refine iteF ⟨_, rfl, iteF (fin _ H (fun _ _ z => z) ?_)⟩
      have : ¬ 1 ≤ x.length := by omega
      simp [isName, this]
    rw [decide_eq_true h1]
    refine iteT ⟨_, 12, rfl, rfl, _, rfl, ?_⟩
    by_cases h2 : (x.length : Int) ≤ 12
    case neg =>
      rw [decide_eq_false h2]
      refine iteF (fin _ H (fun _ _ z => z) ?_)
      have : ¬ x.length ≤ 12 := by omega
      simp [isName, this]
    rw [decide_eq_true h2]
    refine iteT ?_
    refine ⟨_, rfl, x, rfl, fun D hD => ?_⟩
    refine lc_pure walk_str hD (x.cps.toList.map fun c => V.bl (decide (c ∈ letters))) (by rw [List.length_map]; rfl) (by show x.length < sizeLine; rw [sizeLine_eq]; omega) (fun _ _ => trivial) (fun i y H2 H3 z hz m hy N hN => ?_) mono_name (fun H' m f => ?_)
    · obtain ⟨rfl, c, hc, rfl⟩ := hy
      have hc' : x.cps.toList[i]? = some c := by rw [Array.getElem?_toList]; exact hc
      rw [List.getElem?_map, hc'] at hz
      cases hz
      exact ⟨rfl, _, rfl, c, _, rfl, rfl, hN _ (fun _ _ z => z)⟩
    · have e : x.cps.toList.map (fun c => V.bl (decide (c ∈ letters))) = (x.cps.toList.map fun c => decide (c ∈ letters)).map V.bl := by
        rw [List.map_map]
        rfl
      rw [e] at f
      refine ⟨D, _, rfl, SqL.of f, fin _ H' m ?_⟩
      have h1' : 1 ≤ x.length := by omega
      have h2' : x.length ≤ 12 := by omega
      rw [List.all_map]
      simp [isName, h1', h2']
  | _ => first | exact iteF (k H (fun _ _ z => z)) | cases hp
theorem tyK {H : Hp} (k : L2.Key) : TyX K H (kV k) (.type (if strK k then "str" else "int")) := by
  cases k with
  | inl i => exact .base (.int i)
  | inr x => exact .base (.str x)
theorem kitK (k : L2.Key) : PySem.W.kitOne K (.type (if strK k then "str" else "int")) (.type "str") = some (strK k) := by
  cases k with
  | inl i => exact kit_ty (a := "int") (by show kitB "int" "str" = some false; decide +kernel)
  | inr x => exact kit_ty (a := "str") (by show kitB "str" "str" = some true; decide +kernel)
theorem flat_ty {H H' : Hp} {v : V} {d : E} (r : Rp H v d) (h : flatE d = true) : TyX K H' v (tyE d) ∧ PySem.W.kitOne K (tyE d) (.type "str") = some (strE d) := by
  cases r with
  | non => exact ⟨.base .non, kit_ty (by decide +kernel)⟩
  | bl b => exact ⟨.base (.bl b), kit_ty (by show kitB "bool" "str" = some false; decide +kernel)⟩
  | int i => exact ⟨.base (.int i), kit_ty (by show kitB "int" "str" = some false; decide +kernel)⟩
  | str x hx => exact ⟨.base (.str x), kit_ty (by show kitB "str" "str" = some true; decide +kernel)⟩
  | _ => cases h
theorem mk_get {ks : List L2.Key} {vs : List V} {i : Nat} {k : L2.Key} {v : V} (h : (mk ks vs)[i]? = some (k, v)) : ks[i]? = some k ∧ vs[i]? = some v := List.getElem?_zip_eq_some.mp h
theorem mk_val : ∀ {ks : List L2.Key} {vs : List V} {i : Nat} {k : L2.Key} {v : V}, ks.Nodup → ks[i]? = some k → vs[i]? = some v → valV (mk ks vs) k = some v
  | k0 :: ks, v0 :: vs, 0, k, v, _, hk, hv => by
    cases hk; cases hv
    exact valV_pos rfl
  | k0 :: ks, v0 :: vs, i + 1, k, v, nd, hk, hv => by
    have hk' : ks[i]? = some k := hk
    have nd' := List.nodup_cons.mp nd
    have ne : ¬ k0 = k := fun z => nd'.1 (by rw [z]; exact List.mem_of_getElem? hk')
    show valV ((k0, v0) :: mk ks vs) k = some v
    rw [valV_neg ne]
    exact mk_val nd'.2 hk' hv
theorem scTa : FnScope ["thing", "key"] ["thing"] (defScope sTable) := ⟨rfl, rfl, rfl, by decide +kernel, rfl, by decide +kernel, by decide +kernel⟩
theorem ok_table {f : Addr} {fd : FuncData} (F : Fun K "is_table" "is_table" sTable f fd) (T : Txt mg) (hC : ∀ C ∈ CS, CF K C) : FnOk P w K mg base CX0 1 f fd ["thing"] (spP tblF) := by
  refine F.ok scTa (fun vs H Q E0 h => spP_len tblF_len h) (fun cdv A outer s H vs Q E0 hr h => ?_)
  obtain ⟨Pr, ds, d0, r, fr, e, kk⟩ := h
  unfold tblF at e
  split at e
  case h_2 => cases e
  rename_i d
  split at e
  case isFalse => cases e
  rename_i hdm
  cases e
  cases r with
  | @cons v _ _ _ hd t =>
  cases t
  have hu := hu_of hr
  have k : ∀ H', Same H H' → Q (.bl (tableE d)) H' := fun H' m => kk _ H' m (.bl _)
  refine ⟨_, (pss_cons (ps_if (pt_not (pt_val (pe_callB (call_isiK (K := K) rfl) (by rfl) T.isi (by decide +kernel) (pa_cons (pv 0) (pa_cons (pe_bltn (v := .ty "dict") (by rfl) T.dict (by decide +kernel) rfl) pa_nil))))) (pss_one (ps_ret (pe_cmpR op_isNo (pv 0) pe_non (nomark _)))) pss_nil)
      (pss_one (ps_ret (pe_callB (cr_allK (K := K) rfl rfl) (by rfl) T.all (by decide +kernel) (pa_cons (pe_lock (pe_lc (own := [("key", 1)]) (g := gName 1) (tt := tYes) rfl scTa.nd (pi_keys (pv 0)) (blkOk_by (own := [("key", 1)]) (N := ["thing", "key"]) (sc := (defScope sTable)) (by decide +kernel)) (fun _ _ _ _ _ => pg_name (i := 1) scTa.nd rfl (Or.inl rfl)) (fun _ _ _ _ _ => pts_nil) (fun _ _ _ _ _ => (pe_and (pe_callB (call_isiK (K := K) rfl) (by rfl) T.isi (by decide +kernel) (pa_cons (pv 1) (pa_cons (pe_bltn (v := .ty "str") (by rfl) T.str (by decide +kernel) rfl) pa_nil))) (pe_one (pe_callB (call_isiK (K := K) rfl) (by rfl) T.isi (by decide +kernel) (pa_cons (pe_dget hu (pv 0) (pv 1) (fun _ _ => rfl)) (pa_cons (pe_bltn (v := .ty "str") (by rfl) T.str (by decide +kernel) rfl) pa_nil)))))))) pa_nil))))), ?_⟩
  have ni : ∀ C ns ds, d ≠ .ins C ns ds := fun C ns ds z => by rw [z] at hdm; cases hdm
  have tv : TyX K H v (tyE d) := hd.ofKeep.ty hC fun C ns ds z => absurd z (ni C ns ds)
  refine ⟨_, rfl, _, _, _, _, _, rfl, .ty _, tv, kit_is "dict" (by decide) d ni, _, rfl, ?_⟩
  cases hd with
  | non => exact iteT ⟨_, rfl, rfl, k H (fun _ _ z => z)⟩
  | bl b => exact iteT ⟨_, rfl, rfl, k H (fun _ _ z => z)⟩
  | int b => exact iteT ⟨_, rfl, rfl, k H (fun _ _ z => z)⟩
  | str b => exact iteT ⟨_, rfl, rfl, k H (fun _ _ z => z)⟩
  | tup _ => exact iteT ⟨_, rfl, rfl, k H (fun _ _ z => z)⟩
  | lst _ => exact iteT ⟨_, rfl, rfl, k H (fun _ _ z => z)⟩
  | ins _ => exact absurd rfl (ni _ _ _)
  | @map a vs ks ds h hv hk hz nd hs =>
    have h := (keep_some h).2
    refine iteF ⟨a, _, h, trivial, fun od => ?_⟩
    refine ⟨_, rfl, a, od, rfl, .inl ⟨_, upd_same, fun D hD => ?_⟩⟩
    have lkv : (mk ks vs).length = ds.length := by rw [mk_length (hk.trans hv.symm), hk]
    have hdm' : ds.all flatE = true := hdm
    refine lc_pure walk_keys hD ((ks.zip ds).map fun p => V.bl (strK p.1 && strE p.2)) (by rw [List.length_map, List.length_zip, hk, Nat.min_self, lkv]) (by rw [lkv]; exact small1000 (by omega)) (fun H' m => m _ _ upd_same) (fun i y H2 H3 z hz' m hy N hN => ?_) mono_name (fun H' m f => ?_)
    · obtain ⟨rfl, ky, vy, hx, rfl⟩ := hy
      obtain ⟨hk1, hv1⟩ := mk_get hx
      rw [List.getElem?_map] at hz'
      obtain ⟨q, hq, rfl⟩ := Option.map_eq_some_iff.mp hz'
      obtain ⟨q1, q2⟩ := List.getElem?_zip_eq_some.mp hq
      rw [hk1] at q1
      have eky := Option.some.inj q1
      have fl := List.all_eq_true.mp hdm' q.2 (List.mem_of_getElem? q2)
      refine ⟨rfl, _, rfl, _, _, _, _, _, rfl, .ty _, tyK ky, kitK ky, _, rfl, ?_⟩
      rw [eky] at *
      cases hs1 : strK q.1 with
      | false =>
        have := hN H3 (fun _ _ z => z)
        rw [hs1] at this
        exact iteF this
      | true =>
        obtain ⟨t1, t2⟩ := flat_ty (K := K) (H' := H3) (hs i vy q.2 hv1 q2) fl
        refine iteT ⟨_, rfl, _, rfl, a, vy, rfl, .inl ⟨_, q.1, .inr ⟨od, m _ _ upd_same⟩, rfl, (mk_val nd (hk1.trans q1) hv1).symm⟩, _, _, _, _, _, rfl, .ty _, t1, t2, ?_⟩
        have := hN H3 (fun _ _ z => z)
        rw [hs1] at this
        exact this
    · rw [show (ks.zip ds).map (fun p => V.bl (strK p.1 && strE p.2)) = ((ks.zip ds).map fun p => strK p.1 && strE p.2).map V.bl from by rw [List.map_map]; rfl] at f
      have nD : D ≠ a := fun z => by
        rw [z, upd_same] at hD
        cases hD
      have m3 := same_lock h m
      refine ⟨m _ _ upd_same, D, _, rfl, SqL.of (by rw [upd_ne nD]; exact f), ?_⟩
      have k1 := k _ m3
      rw [List.all_map]
      exact k1
end
end K05

namespace K05
open PySem L2 XR VT ET
abbrev sGiven : Stmt := top 18
abbrev sUnl : Stmt := top 19
abbrev sRule : Stmt := top 20
abbrev sHeld : Stmt := top 22
abbrev sMade : Stmt := top 21
def sorts : List Str := ["wanted", "open", "filled"]
theorem sorts_tx : ∀ x ∈ sorts, TxOk x := by
  intro x hx
  simp only [sorts, List.mem_cons, List.not_mem_nil, or_false] at hx
  rcases hx with rfl | rfl | rfl <;> exact ⟨by decide +kernel, by decide +kernel⟩
def sortsE : E → Bool
  | .str x => anyIn (sorts.map E.str) (.str x)
  | _ => false
def blE : E → Bool
  | .bl _ => true
  | _ => false
def givenE : E → Bool
  | .tup [a, b, c, d] => nameE a && (sortsE b && (blE c && tableE d))
  | _ => false
/-- what is_given is asked of -/
def givD : E → Bool
  | .tup [a, b, c, d] => pl a && pl b && pl c && tblD d
  | .tup (a :: _) => pl a
  | .ins _ _ _ => false
  | _ => true
def givF : List E → Option E
  | [d] => if givD d = true then some (.bl (givenE d)) else none
  | _ => none
theorem givF_len (ds : List E) (d : E) (h : givF ds = some d) : ds.length = 1 := by
  unfold givF at h
  split at h
  · rfl
  · cases h
section
variable {P : Program} {w : World} {K : PySem.W.Frag} {mg : Str → Option Value} {base : Heap}
variable {CS : List Addr}
theorem scGi : FnScope ["row"] ["row"] (defScope sGiven) := ⟨rfl, rfl, rfl, by decide +kernel, rfl, by decide +kernel, by decide +kernel⟩
theorem ok_given {f fN fB aS : Addr} {fd dN dB : FuncData} (F : Fun K "is_given" "is_given" sGiven f fd) (T : Txt mg) (hC : ∀ C ∈ CS, CF K C) (gS : mg "SORTS" = some (.ref aS)) (hS : ∀ H, SqT K H aS (sorts.map V.str))
    (GN : FnOk P w K mg base CX0 1 fN dN ["thing"] (spP (d1 fun d => .bl (nameE d)))) (gN : mg "is_name" = some (.ref fN)) (kN : PySem.W.keepIn K (.ref fN) = true) (bN : Binds K dN ["thing"] [])
    (GB : FnOk P w K mg base CX0 1 fB dB ["thing"] (spP tblF)) (gB : mg "is_table" = some (.ref fB)) (kB : PySem.W.keepIn K (.ref fB) = true) (bB : Binds K dB ["thing"] []) : FnOk P w K mg base CX0 2 f fd ["row"] (spP givF) := by
  refine F.ok scGi (fun vs H Q E0 h => spP_len givF_len h) (fun cdv A outer s H vs Q E0 hr h => ?_)
  have hr1 : Room 1 _ := hr
  refine ⟨_, (pss_cons (ps_if (PW.pt (pw_or (pt_not (pt_val (pe_callB (call_isiK (K := K) rfl) (by rfl) T.isi (by decide +kernel) (pa_cons (pv 0) (pa_cons (pe_bltn (v := .ty "tuple") (by rfl) T.tuple (by decide +kernel) rfl) pa_nil))))) (pw_or (pt_cmpR op_ne (pe_callB (call_lenK (K := K) rfl) (by rfl) T.len (by decide +kernel) (pa_cons (pv 0) pa_nil)) pe_int (nomark _)) (pw_or1 (pt_not (pt_val (pe_call GN hr1 rfl gN kN bN .nil pass0 (pa_cons (pe_ix (ix_tupK (K := K) rfl) (pv 0) pe_int (fun _ _ => rfl)) pa_nil)))))))) (pss_one (ps_ret pe_bl)) pss_nil)
      (pss_one (ps_ret (pe_and (pe_callB (call_isiK (K := K) rfl) (by rfl) T.isi (by decide +kernel) (pa_cons (pe_ix (ix_tupK (K := K) rfl) (pv 0) pe_int (fun _ _ => rfl)) (pa_cons (pe_bltn (v := .ty "str") (by rfl) T.str (by decide +kernel) rfl) pa_nil))) (pe_and (pe_cmpR (op_inK (K := K) rfl) (pe_ix (ix_tupK (K := K) rfl) (pv 0) pe_int (fun _ _ => rfl)) (pe_glob (v := .ref aS) rfl gS rfl) (by rfl)) (pe_and (pe_callB (call_isiK (K := K) rfl) (by rfl) T.isi (by decide +kernel) (pa_cons (pe_ix (ix_tupK (K := K) rfl) (pv 0) pe_int (fun _ _ => rfl)) (pa_cons (pe_bltn (v := .ty "bool") (by rfl) T.bool (by decide +kernel) rfl) pa_nil))) (pe_one (pe_call GB hr1 rfl gB kB bB .nil pass0 (pa_cons (pe_ix (ix_tupK (K := K) rfl) (pv 0) pe_int (fun _ _ => rfl)) pa_nil))))))))), ?_⟩
  apply pu_def (h := h)
  case pu => (repeat' first
    | with_reducible exact pu_var _ | with_reducible exact pu_non | with_reducible exact pu_bl _ | with_reducible exact pu_int _ | with_reducible exact pu_nil | with_reducible exact pu_next | with_reducible exact pu_yes
    | with_reducible apply pu_seq | with_reducible apply pu_ifS | with_reducible apply pu_ret | with_reducible apply pu_asg
    | with_reducible apply pu_and | with_reducible apply pu_or | with_reducible apply pu_not | with_reducible apply pu_test | with_reducible apply pu_b
    | with_reducible apply pu_andV | with_reducible apply pu_orV | with_reducible apply pu_notV | with_reducible apply pu_if
    | with_reducible apply pu_isi hC | with_reducible apply pu_cb (hr := pu_len) | with_reducible apply pu_cb (hr := pu_all) | with_reducible apply pu_cb (hr := pu_any) | with_reducible apply pu_cb (hr := pu_tupOf) | with_reducible apply pu_cb (hr := pu_lstOf)
    | with_reducible apply pu_inK hS sorts_tx
    | with_reducible apply pu_op (hr := pu_ixT) | with_reducible apply pu_op (hr := pu_ixL) | with_reducible apply pu_op (hr := pu_eqS) | with_reducible apply pu_op (hr := pu_neS) | with_reducible apply pu_op (hr := pu_in) | with_reducible apply pu_op (hr := pu_isNo) | with_reducible apply pu_op (hr := pu_notNo)
    | with_reducible apply pu_op (hr := pu_cm) | with_reducible apply pu_op (hr := pu_ar) | with_reducible apply pu_op (hr := pu_eqP) | with_reducible apply pu_op (hr := pu_neP) | with_reducible apply pu_op (hr := pu_catT) | with_reducible apply pu_op (hr := pu_catL)
    | with_reducible apply pu_chain pu_cm pu_cm | with_reducible apply pu_lcV | with_reducible apply pu_dcV | with_reducible apply pu_iTup | with_reducible apply pu_iLst
    | with_reducible apply pu_slT | with_reducible apply pu_slL | with_reducible exact pu_noPart | with_reducible exact pu_part _
    | exact pu_str _ ⟨by decide +kernel, by decide +kernel⟩ | with_reducible apply pu_call | with_reducible apply pu_tup | with_reducible apply pu_lst | with_reducible apply pu_cons | (with_reducible_and_instances rfl) | rfl)
  case hF =>
    intro ds d e
    unfold givF at e
    split at e
    case h_2 => cases e
    rename_i x
    split at e
    case isFalse => cases e
    rename_i hx
    cases e
    cases x with
    | tup l =>
      by_cases hl : l.length = 4
      · match l, hl, hx with
        | [a, b, c, d], _, hx =>
          have hx' : (pl a && pl b && pl c && tblD d) = true := hx
          simp only [Bool.and_eq_true] at hx'
          obtain ⟨⟨⟨ha, hb⟩, hc⟩, hd⟩ := hx'
          have g1 : d1 (fun d => .bl (nameE d)) [a] = some (.bl (nameE a)) := by simp [d1, ha]
          have g2 : tblF [d] = some (.bl (tableE d)) := by simp [tblF, hd]
          cases hn : nameE a with
          | false => simp [env0, isT, isC, isN, tyN, lenE, allE, anyE, bools, ixT, ixL, atI, ixN, isNo, notNo, eqS, neS, sc, cmI, arI, inE, items, flatE, eqF, toB, g1, hn, givenE]
          | true =>
            cases b with
            | str x =>
              cases hs : anyIn (sorts.map E.str) (.str x) with
              | false => simp [env0, isT, isN, tyN, lenE, ixT, atI, ixN, neS, sc, toB, flatE, g1, hn, givenE, sortsE, hs]
              | true =>
                cases c with
                | bl q => simp [env0, isT, isN, tyN, lenE, ixT, atI, ixN, neS, sc, toB, flatE, g1, g2, hn, givenE, sortsE, hs, blE]
                | ins _ _ _ => cases hc
                | _ => simp [env0, isT, isN, tyN, lenE, ixT, atI, ixN, neS, sc, toB, flatE, g1, hn, givenE, sortsE, hs, blE]
            | ins _ _ _ => cases hb
            | _ => simp [env0, isT, isC, isN, tyN, lenE, allE, anyE, bools, ixT, ixL, atI, ixN, isNo, notNo, eqS, neS, sc, cmI, arI, inE, items, flatE, eqF, toB, g1, hn, givenE, sortsE]
      · have h0 : givenE (.tup l) = false := by
          unfold givenE
          split
          · rename_i h; cases h; exact absurd rfl hl
          · rfl
        have h1 : ¬ ((l.length : Int) = 4) := by omega
        simp [env0, isT, isC, isN, tyN, lenE, allE, anyE, bools, ixT, ixL, atI, ixN, isNo, notNo, eqS, neS, sc, cmI, arI, inE, items, flatE, eqF, toB, h0, h1]
    | ins _ _ _ => cases hx
    | _ => rfl
end
end K05

namespace K05
open PySem L2 XR VT ET
theorem bnd {α β : Type} {o : Option α} {f : α → Option β} {b : β} (a : α) (h1 : o = some a) (h2 : f a = some b) : o.bind f = some b := by rw [h1]; exact h2
theorem mp {α β : Type} {o : Option α} {f : α → β} (a : α) (h1 : o = some a) : o.map f = some (f a) := by rw [h1]; rfl
theorem lcE_map {ft : FT} {fe : FE} {env : List (Option E)} {i : Nat} (g : E → E) : ∀ (l : List E), (∀ x, ft (env.set i (some x)) = some true) → (∀ x ∈ l, fe (env.set i (some x)) = some (g x)) → lcE ft fe env i l = some (l.map g)
  | [], _, _ => rfl
  | x :: l, h1, h2 => by
    rw [lcE, h1 x, Option.bind_some, if_pos rfl, h2 x List.mem_cons_self, Option.bind_some, lcE_map g l h1 fun y hy => h2 y (List.mem_cons_of_mem _ hy)]
    rfl
theorem bools_map (p : E → Bool) : ∀ l : List E, bools (l.map fun x => .bl (p x)) = some (l.map p)
  | [] => rfl
  | x :: l => by
    show (bools (l.map fun x => .bl (p x))).map (p x :: ·) = _
    rw [bools_map p l]
    rfl
theorem allE_map (p : E → Bool) (l : List E) : allE [.lst (l.map fun x => .bl (p x))] = some (.bl (l.all p)) := by
  show (bools (l.map fun x => .bl (p x))).map _ = _
  rw [bools_map, Option.map_some, List.all_map]
  rfl
theorem putE_in {acc : List (L2.Key × E)} {k : L2.Key} {d : E} (h : k ∈ acc.map (·.1)) : (putE acc k d).length = acc.length ∧ (putE acc k d).map (·.1) = acc.map (·.1) := by
  have e : (acc.any fun kv => decide (kv.1 = k)) = true := by
    obtain ⟨x, hx, rfl⟩ := List.mem_map.mp h
    exact List.any_eq_true.mpr ⟨x, hx, decide_eq_true rfl⟩
  unfold putE
  rw [if_pos e]
  refine ⟨List.length_map _, ?_⟩
  rw [List.map_map]
  refine List.map_congr_left fun x _ => ?_
  show (if x.1 = k then (x.1, d) else x).1 = x.1
  split <;> rfl
theorem putE_new {acc : List (L2.Key × E)} {k : L2.Key} {d : E} (h : k ∉ acc.map (·.1)) : putE acc k d = acc ++ [(k, d)] := by
  have e : ¬ (acc.any fun kv => decide (kv.1 = k)) = true := fun z => by
    obtain ⟨x, hx, e⟩ := List.any_eq_true.mp z
    exact h (List.mem_map.mpr ⟨x, hx, of_decide_eq_true e⟩)
  unfold putE
  rw [if_neg e]
theorem dc_keys {fk fv : FE} {env : List (Option E)} {i : Nat} (hv : ∀ e, fv e = some (.bl true)) : ∀ (l : List E) (ks : List L2.Key) (acc : List (L2.Key × E)), l.length = ks.length → (∀ (j : Nat) e k, l[j]? = some e → ks[j]? = some k → (fk (env.set i (some e))).bind toK = some k) → (acc.map (·.1)).Nodup →
    ∃ r, dcE fk fv env i l acc = some r ∧ r.length ≤ acc.length + l.length ∧ (r.length = acc.length + l.length ↔ (acc.map (·.1) ++ ks).Nodup)
  | [], [], acc, _, _, nd => ⟨acc, rfl, Nat.le_refl _, by simp [nd]⟩
  | x :: l, k :: ks, acc, hl, hk, nd => by
    have hl' := Nat.succ.inj hl
    have e1 := hk 0 x k rfl rfl
    by_cases hm : k ∈ acc.map (·.1)
    · obtain ⟨p1, p2⟩ := putE_in (d := .bl true) hm
      obtain ⟨r, h1, h2, h3⟩ := dc_keys hv l ks (putE acc k (.bl true)) hl' (fun j e k h1 h2 => hk (j + 1) e k h1 h2) (by rw [p2]; exact nd)
      refine ⟨r, ?_, ?_, ?_⟩
      · rw [dcE, e1, Option.bind_some, hv, Option.bind_some, h1]
      · rw [List.length_cons]
        omega
      · constructor
        · intro z
          simp only [List.length_cons] at z
          omega
        · intro z
          exfalso
          rw [List.nodup_append] at z
          exact z.2.2 k hm k List.mem_cons_self rfl
    · have p1 := putE_new (d := .bl true) hm
      obtain ⟨r, h1, h2, h3⟩ := dc_keys hv l ks (putE acc k (.bl true)) hl' (fun j e k h1 h2 => hk (j + 1) e k h1 h2) (putE_nd _ _ nd)
      refine ⟨r, ?_, ?_, ?_⟩
      · rw [dcE, e1, Option.bind_some, hv, Option.bind_some, h1]
      · rw [p1, List.length_append] at h2
        simp only [List.length_cons, List.length_nil] at h2 ⊢
        omega
      · rw [p1, List.length_append, List.map_append, List.append_assoc] at h3
        have h4 : (acc.length + [(k, E.bl true)].length + l.length) = acc.length + (x :: l).length := by
          simp only [List.length_cons, List.length_nil]
          omega
        rw [h4] at h3
        exact h3
/-- the texts at the heads of rows -/
def heads : List E → Option (List Str)
  | [] => some []
  | .tup (.str x :: _) :: l => (heads l).map (x :: ·)
  | _ :: _ => none
def unlF : List E → Option E
  | [.tup l] => if l.length ≤ 900 then (heads l).map fun xs => .bl (decide xs.Nodup) else none
  | _ => none
theorem unlF_len (ds : List E) (d : E) (h : unlF ds = some d) : ds.length = 1 := by
  unfold unlF at h
  split at h
  · rfl
  · cases h
theorem heads_get : ∀ {l : List E} {xs : List Str}, heads l = some xs → l.length = xs.length ∧ ∀ (j : Nat) e x, l[j]? = some e → xs[j]? = some x → ∃ r, e = .tup (.str x :: r)
  | [], xs, h => by cases h; exact ⟨rfl, fun j e x h => nomatch h⟩
  | .tup (.str x :: r) :: l, xs, h => by
    obtain ⟨ys, e1, rfl⟩ := Option.map_eq_some_iff.mp h
    obtain ⟨i1, i2⟩ := heads_get e1
    refine ⟨by rw [List.length_cons, List.length_cons, i1], fun j e y h1 h2 => ?_⟩
    cases j with
    | zero => cases h1; cases h2; exact ⟨r, rfl⟩
    | succ j => exact i2 j e y h1 h2
theorem nd_inr {xs : List Str} : (xs.map (Sum.inr : Str → L2.Key)).Nodup ↔ xs.Nodup := by
  unfold List.Nodup
  rw [List.pairwise_map]
  exact ⟨fun h => h.imp fun {a b} n z => n (by rw [z]), fun h => h.imp fun {a b} n z => n (Sum.inr.inj z)⟩
section
variable {P : Program} {w : World} {K : PySem.W.Frag} {mg : Str → Option Value} {base : Heap}
variable {CS : List Addr}
theorem scUn : FnScope ["rows", "row"] ["rows"] (defScope sUnl) := ⟨rfl, rfl, rfl, by decide +kernel, rfl, by decide +kernel, by decide +kernel⟩
theorem ok_unl {f : Addr} {fd : FuncData} (F : Fun K "are_unlike" "are_unlike" sUnl f fd) (T : Txt mg) (hC : ∀ C ∈ CS, CF K C) : FnOk P w K mg base CX0 1 f fd ["rows"] (spP unlF) := by
  refine F.ok scUn (fun vs H Q E0 h => spP_len unlF_len h) (fun cdv A outer s H vs Q E0 hr h => ?_)
  refine ⟨_, (pss_one (ps_ret (pe_cmpR op_eq (pe_callB (call_lenK (K := K) rfl) (by rfl) T.len (by decide +kernel) (pa_cons (pe_dc (own := [("row", 1)]) (g := gName 1) (tt := tYes) rfl scUn.nd (pi_tupK (K := K) rfl (pv 0)) (blkOk_by (own := [("row", 1)]) (N := ["rows", "row"]) (sc := (defScope sUnl)) (by decide +kernel)) (fun _ _ _ _ _ => pg_name (i := 1) scUn.nd rfl (Or.inl rfl)) (fun _ _ _ _ _ => pts_nil) (fun _ _ _ _ _ => (pe_ix (ix_tupK (K := K) rfl) (pv 1) pe_int (fun _ _ => rfl))) (fun _ _ _ _ _ => pe_bl)) pa_nil)) (pe_callB (call_lenK (K := K) rfl) (by rfl) T.len (by decide +kernel) (pa_cons (pv 0) pa_nil)) (nomark _)))), ?_⟩
  apply pu_def (h := h)
  case pu => (repeat' first
    | with_reducible exact pu_var _ | with_reducible exact pu_non | with_reducible exact pu_bl _ | with_reducible exact pu_int _ | with_reducible exact pu_nil | with_reducible exact pu_next | with_reducible exact pu_yes
    | with_reducible apply pu_seq | with_reducible apply pu_ifS | with_reducible apply pu_ret | with_reducible apply pu_asg
    | with_reducible apply pu_and | with_reducible apply pu_or | with_reducible apply pu_not | with_reducible apply pu_test | with_reducible apply pu_b
    | with_reducible apply pu_andV | with_reducible apply pu_orV | with_reducible apply pu_notV | with_reducible apply pu_if
    | with_reducible apply pu_isi hC | with_reducible apply pu_cb (hr := pu_len) | with_reducible apply pu_cb (hr := pu_all) | with_reducible apply pu_cb (hr := pu_any) | with_reducible apply pu_cb (hr := pu_tupOf) | with_reducible apply pu_cb (hr := pu_lstOf)
    
    | with_reducible apply pu_op (hr := pu_ixT) | with_reducible apply pu_op (hr := pu_ixL) | with_reducible apply pu_op (hr := pu_eqS) | with_reducible apply pu_op (hr := pu_neS) | with_reducible apply pu_op (hr := pu_in) | with_reducible apply pu_op (hr := pu_isNo) | with_reducible apply pu_op (hr := pu_notNo)
    | with_reducible apply pu_op (hr := pu_cm) | with_reducible apply pu_op (hr := pu_ar) | with_reducible apply pu_op (hr := pu_eqP) | with_reducible apply pu_op (hr := pu_neP) | with_reducible apply pu_op (hr := pu_catT) | with_reducible apply pu_op (hr := pu_catL)
    | with_reducible apply pu_chain pu_cm pu_cm | with_reducible apply pu_lcV | with_reducible apply pu_dcV | with_reducible apply pu_iTup | with_reducible apply pu_iLst
    | with_reducible apply pu_slT | with_reducible apply pu_slL | with_reducible exact pu_noPart | with_reducible exact pu_part _
    | exact pu_str _ ⟨by decide +kernel, by decide +kernel⟩ | with_reducible apply pu_call | with_reducible apply pu_tup | with_reducible apply pu_lst | with_reducible apply pu_cons | (with_reducible_and_instances rfl) | rfl)
  case hF =>
    intro ds d e
    unfold unlF at e
    split at e
    case h_2 => cases e
    rename_i l
    split at e
    case isFalse => cases e
    rename_i hz
    obtain ⟨xs, hx, rfl⟩ := Option.map_eq_some_iff.mp e
    obtain ⟨h1, h2⟩ := heads_get hx
    obtain ⟨r, z1, z2, z3⟩ := dc_keys (fk := fun env => ((env[1]?).bind id).bind fun d => (some (E.int 0)).bind fun e => ixT d e) (fv := fun _ => some (E.bl true)) (env := env0 ["rows", "row"] [.tup l]) (i := 1) (fun _ => rfl) l (xs.map Sum.inr) [] (by rw [List.length_map]; exact h1) (fun j e k g1 g2 => by
      rw [List.getElem?_map] at g2
      obtain ⟨x, g3, rfl⟩ := Option.map_eq_some_iff.mp g2
      obtain ⟨r, rfl⟩ := h2 j e x g1 g3
      simp [env0, ixT, atI, ixN, toK]) (by simp)
    refine mp (E.bl (decide xs.Nodup)) (bnd (E.int r.length) ?_ (bnd (E.int l.length) rfl ?_))
    · refine bnd [E.map (r.map (·.1)) (r.map (·.2))] (bnd (E.map (r.map (·.1)) (r.map (·.2))) (bnd l (bnd (E.tup l) rfl ?_) (mp r z1)) rfl) ?_
      · show (if l.length ≤ 900 then some l else none) = some l
        rw [if_pos hz]
      · show some (E.int _) = _
        rw [List.length_map]
    · show some (E.bl (decide ((r.length : Int) = (l.length : Int)))) = _
      have d4 : ((r.length : Int) = (l.length : Int)) ↔ xs.Nodup := by
        rw [← nd_inr]
        have z : (List.map (fun x : L2.Key × E => x.1) [] ++ xs.map (Sum.inr : Str → L2.Key)).Nodup ↔ (xs.map (Sum.inr : Str → L2.Key)).Nodup := by simp
        rw [← z, ← z3]
        show _ ↔ r.length = 0 + l.length
        omega
      rw [decide_eq_decide.mpr d4]
end
end K05

namespace K05
open PySem L2 XR VT ET
/-- a list of texts -/
def ls (ps : List Str) : E := .lst (ps.map E.str)
def hdIn (ps : List Str) : List E → Bool
  | .str a :: _ => anyIn (ps.map E.str) (.str a)
  | _ => false
def ruleE (ps : List Str) : E → Bool
  | .tup (.str w :: r) => if w = "mark" then r.isEmpty else decide (w = "around") && decide (r.length = 3) && r.all strE && hdIn ps r
  | _ => false
theorem bT {c : Option Bool} {β : Type} {X Y : Option β} {y : β} (h : c = some true) (hx : X = some y) : (c.bind fun b => if b = true then X else Y) = some y := by rw [h]; exact hx
theorem bF {c : Option Bool} {β : Type} {X Y : Option β} {y : β} (h : c = some false) (hx : Y = some y) : (c.bind fun b => if b = true then X else Y) = some y := by rw [h]; exact hx
theorem ix0 (a : E) (r : List E) : ixT (.tup (a :: r)) (.int 0) = some a := by simp [ixT, atI, ixN]
theorem ix1 (a b : E) (r : List E) : ixT (.tup (a :: b :: r)) (.int 1) = some b := by
  have h : (1 : Int) < (r.length : Int) + 1 + 1 := by omega
  simp [ixT, atI, ixN, h]
def sx : E → Str
  | .str x => x
  | _ => ""
def ruleF : List E → Option E
  | [d, .lst l] => if (pl d && l.all strE) = true then some (.bl (ruleE (l.map sx) d)) else none
  | _ => none
theorem ruleF_len (ds : List E) (d : E) (h : ruleF ds = some d) : ds.length = 2 := by
  unfold ruleF at h
  split at h
  · rfl
  · cases h
theorem strs_eq : ∀ {l : List E}, l.all strE = true → (l.map sx).map E.str = l
  | [], _ => rfl
  | .str x :: l, h => by
    rw [List.all_cons] at h
    rw [List.map_cons, List.map_cons, strs_eq (Bool.and_eq_true_iff.mp h).2]
    rfl
  | .non :: l, h => by cases h
  | .bl _ :: l, h => by cases h
  | .int _ :: l, h => by cases h
  | .tup _ :: l, h => by cases h
  | .lst _ :: l, h => by cases h
  | .map _ _ :: l, h => by cases h
  | .ins _ _ _ :: l, h => by cases h
theorem flat_str : ∀ {l : List E}, l.all strE = true → l.all flatE = true
  | [], _ => rfl
  | .str x :: l, h => by
    rw [List.all_cons] at h ⊢
    rw [flat_str (Bool.and_eq_true_iff.mp h).2]
    rfl
  | .non :: l, h => by cases h
  | .bl _ :: l, h => by cases h
  | .int _ :: l, h => by cases h
  | .tup _ :: l, h => by cases h
  | .lst _ :: l, h => by cases h
  | .map _ _ :: l, h => by cases h
  | .ins _ _ _ :: l, h => by cases h
theorem notE {d : E} (h : strE d = false) (hp : pl d = true) (CS : List Addr) : isT CS "str" d = some (.bl false) := by
  cases d <;> first | rfl | (exfalso; simp [pl] at hp; done) | cases h
theorem isStr (x : Str) (CS : List Addr) : isT CS "str" (.str x) = some (.bl true) := rfl
section
variable {P : Program} {w : World} {K : PySem.W.Frag} {mg : Str → Option Value} {base : Heap}
variable {CS : List Addr}
theorem scRu : FnScope ["rule", "plain", "part"] ["rule", "plain"] (defScope sRule) := ⟨rfl, rfl, rfl, by decide +kernel, rfl, by decide +kernel, by decide +kernel⟩
theorem ok_rule {f : Addr} {fd : FuncData} (F : Fun K "is_rule" "is_rule" sRule f fd) (T : Txt mg) (hC : ∀ C ∈ CS, CF K C) : FnOk P w K mg base CX0 1 f fd ["rule", "plain"] (spP ruleF) := by
  refine F.ok scRu (fun vs H Q E0 h => spP_len ruleF_len h) (fun cdv A outer s H vs Q E0 hr h => ?_)
  have hu := hu_of hr
  have huN : (A.deeper (PyProof.Rows.envOfC "is_rule" (defScope sRule) s.heap.objs.size f cdv)).units < cLine := by omega
  refine ⟨_, (pss_cons (ps_if (PW.pt (pw_or (pt_not (pt_val (pe_callB (call_isiK (K := K) rfl) (by rfl) T.isi (by decide +kernel) (pa_cons (pv 0) (pa_cons (pe_bltn (v := .ty "tuple") (by rfl) T.tuple (by decide +kernel) rfl) pa_nil))))) (pw_or (pt_cmpR (op_eqNilT (K := K) rfl huN) (pv 0) (pe_tup pa_nil) (nomark _)) (pw_or1 (pt_not (pt_val (pe_callB (call_isiK (K := K) rfl) (by rfl) T.isi (by decide +kernel) (pa_cons (pe_ix (ix_tupK (K := K) rfl) (pv 0) pe_int (fun _ _ => rfl)) (pa_cons (pe_bltn (v := .ty "str") (by rfl) T.str (by decide +kernel) rfl) pa_nil))))))))) (pss_one (ps_ret pe_bl)) pss_nil)
      (pss_cons (ps_if (pt_cmpR op_eq (pe_ix (ix_tupK (K := K) rfl) (pv 0) pe_int (fun _ _ => rfl)) pe_str (nomark _)) (pss_one (ps_ret (pe_cmpR op_eq (pe_callB (call_lenK (K := K) rfl) (by rfl) T.len (by decide +kernel) (pa_cons (pv 0) pa_nil)) pe_int (nomark _)))) pss_nil)
      (pss_cons (ps_if (PW.pt (pw_or (pt_cmpR op_ne (pe_ix (ix_tupK (K := K) rfl) (pv 0) pe_int (fun _ _ => rfl)) pe_str (nomark _)) (pw_or (pt_cmpR op_ne (pe_callB (call_lenK (K := K) rfl) (by rfl) T.len (by decide +kernel) (pa_cons (pv 0) pa_nil)) pe_int (nomark _)) (pw_or1 (pt_not (pt_val (pe_callB (cr_allK (K := K) rfl rfl) (by rfl) T.all (by decide +kernel) (pa_cons (pe_lc (own := [("part", 2)]) (g := gName 2) (tt := tYes) rfl scRu.nd (pi_tupK (K := K) rfl (pv 0)) (blkOk_by (own := [("part", 2)]) (N := ["rule", "plain", "part"]) (sc := (defScope sRule)) (by decide +kernel)) (fun _ _ _ _ _ => pg_name (i := 2) scRu.nd rfl (Or.inl rfl)) (fun _ _ _ _ _ => pts_nil) (fun _ _ _ _ _ => (pe_callB (call_isiK (K := K) rfl) (by rfl) T.isi (by decide +kernel) (pa_cons (pv 2) (pa_cons (pe_bltn (v := .ty "str") (by rfl) T.str (by decide +kernel) rfl) pa_nil))))) pa_nil)))))))) (pss_one (ps_ret pe_bl)) pss_nil)
      (pss_one (ps_ret (pe_cmpR (op_inK (K := K) rfl) (pe_ix (ix_tupK (K := K) rfl) (pv 0) pe_int (fun _ _ => rfl)) (pv 1) (by rfl))))))), ?_⟩
  apply pu_def (h := h)
  case pu => (repeat' first
    | with_reducible exact pu_var _ | with_reducible exact pu_non | with_reducible exact pu_bl _ | with_reducible exact pu_int _ | with_reducible exact pu_nil | with_reducible exact pu_next | with_reducible exact pu_yes
    | with_reducible apply pu_seq | with_reducible apply pu_ifS | with_reducible apply pu_ret | with_reducible apply pu_asg
    | with_reducible apply pu_and | with_reducible apply pu_or | with_reducible apply pu_not | with_reducible apply pu_test | with_reducible apply pu_b
    | with_reducible apply pu_andV | with_reducible apply pu_orV | with_reducible apply pu_notV | with_reducible apply pu_if
    | with_reducible apply pu_isi hC | with_reducible apply pu_cb (hr := pu_len) | with_reducible apply pu_cb (hr := pu_all) | with_reducible apply pu_cb (hr := pu_any) | with_reducible apply pu_cb (hr := pu_tupOf) | with_reducible apply pu_cb (hr := pu_lstOf)
    | with_reducible apply pu_op (hr := pu_eqNilT)
    | with_reducible apply pu_op (hr := pu_neNilT)
    | with_reducible apply pu_op (hr := pu_ixT) | with_reducible apply pu_op (hr := pu_ixL) | with_reducible apply pu_op (hr := pu_eqS) | with_reducible apply pu_op (hr := pu_neS) | with_reducible apply pu_op (hr := pu_in) | with_reducible apply pu_op (hr := pu_isNo) | with_reducible apply pu_op (hr := pu_notNo)
    | with_reducible apply pu_op (hr := pu_cm) | with_reducible apply pu_op (hr := pu_ar) | with_reducible apply pu_op (hr := pu_eqP) | with_reducible apply pu_op (hr := pu_neP) | with_reducible apply pu_op (hr := pu_catT) | with_reducible apply pu_op (hr := pu_catL)
    | with_reducible apply pu_chain pu_cm pu_cm | with_reducible apply pu_lcV | with_reducible apply pu_dcV | with_reducible apply pu_iTup | with_reducible apply pu_iLst
    | with_reducible apply pu_slT | with_reducible apply pu_slL | with_reducible exact pu_noPart | with_reducible exact pu_part _
    | exact pu_str _ ⟨by decide +kernel, by decide +kernel⟩ | with_reducible apply pu_call | with_reducible apply pu_tup | with_reducible apply pu_lst | with_reducible apply pu_cons | (with_reducible_and_instances rfl) | rfl)
  case hF =>
    intro ds d e
    unfold ruleF at e
    split at e
    case h_2 => cases e
    rename_i x l
    split at e
    case isFalse => cases e
    rename_i hx
    cases e
    obtain ⟨hp, hl⟩ := Bool.and_eq_true_iff.mp hx
    have e1 := strs_eq hl
    have e2 := flat_str hl
    generalize hps : (l.map sx) = ps at e1 ⊢
    cases x with
    | tup t =>
      cases t with
      | nil => rfl
      | cons a r =>
        obtain ⟨ha, hr'⟩ := plL_cons hp
        by_cases hs : strE a = true
        case neg =>
          have hs' : strE a = false := by simpa using hs
          have z : ruleE ps (.tup (a :: r)) = false := by cases a <;> first | rfl | cases hs'
          rw [z]
          refine bnd (.inl (.bl false)) (bT (bF rfl (bF rfl (mp false (bnd (E.bl false) (bnd a (ix0 a r) (notE hs' ha CS)) rfl)))) rfl) rfl
        cases a with
        | str w0 =>
          refine bnd (.inr _) (bF (bF rfl (bF rfl (mp true (bnd (E.bl true) (bnd (E.str w0) (ix0 _ r) rfl) rfl)))) rfl) ?_
          by_cases hm : w0 = "mark"
          · subst hm
            refine bnd (.inl _) (bT (bnd (E.bl true) (bnd (.str "mark") (ix0 _ r) ?_) rfl) (mp (.bl r.isEmpty) ?_)) rfl
            · show some (E.bl (decide (("mark" : Str) = "mark"))) = _
              rw [decide_eq_true rfl]
            · show some (E.bl (decide (((r.length + 1 : Nat) : Int) = 1))) = _
              cases r with
              | nil => rfl
              | cons b r2 =>
                rw [decide_eq_false]
                · rfl
                · rw [List.length_cons]
                  omega
          · refine bnd (.inr _) (bF (bnd (E.bl false) (bnd (.str w0) (ix0 _ r) ?_) rfl) rfl) ?_
            · show some (E.bl (decide (w0 = "mark"))) = _
              rw [decide_eq_false hm]
            · have z : ruleE ps (.tup (.str w0 :: r)) = (decide (w0 = "around") && decide (r.length = 3) && r.all strE && hdIn ps r) := by
                show (if w0 = "mark" then _ else _) = _
                rw [if_neg hm]
              by_cases ha2 : w0 = "around"
              case neg =>
                refine bnd (.inl (.bl false)) (bT (bT (bnd (E.bl true) (bnd (E.str w0) (ix0 _ r) ?_) rfl) rfl) rfl) ?_
                · show some (E.bl (!decide (w0 = "around"))) = _
                  rw [decide_eq_false ha2]
                  rfl
                · rw [z, decide_eq_false ha2]
                  rfl
              have hfirst : (((some (E.str w0)).bind fun d => (some (E.str "around")).bind fun e => neS d e)) = some (.bl false) := by
                show some (E.bl (!decide (w0 = "around"))) = _
                rw [decide_eq_true ha2]
                rfl
              by_cases hl4 : r.length = 3
              case neg =>
                refine bnd (.inl (.bl false)) (bT (bF (bnd (E.bl false) (bnd (E.str w0) (ix0 _ r) hfirst) rfl) (bT (bnd (E.bl true) ?_ rfl) rfl)) rfl) ?_
                · show some (E.bl (!decide (((r.length + 1 : Nat) : Int) = 4))) = _
                  rw [decide_eq_false (by omega)]
                  rfl
                · rw [z, decide_eq_false hl4, Bool.and_false]
                  rfl
              have hall : ∀ (env : List (Option E)), ((lcE (fun _ => some true) (fun env => ((env[2]?).bind id).bind (isT CS "str")) (env0 ["rule", "plain", "part"] [.tup (.str w0 :: r), .lst l]) 2 (.str w0 :: r))) = some ((E.str w0 :: r).map fun x => .bl (strE x)) := fun env => by
                refine lcE_map (fun x => .bl (strE x)) _ (fun _ => rfl) fun x hx => ?_
                show isT CS "str" x = _
                have px := pl_mem (show plL (.str w0 :: r) = true from hp) hx
                cases x <;> first | rfl | (simp [pl] at px)
              have hlen : some (E.bl (!decide (((r.length + 1 : Nat) : Int) = 4))) = some (.bl false) := by
                rw [decide_eq_true (by omega)]
                rfl
              have hit : (if (E.str w0 :: r).length ≤ 900 then some (E.str w0 :: r) else none) = some (E.str w0 :: r) := if_pos (by rw [List.length_cons]; omega)
              cases hb : r.all strE with
              | false =>
                refine bnd (.inl (.bl false)) (bT (bF (bnd (E.bl false) (bnd (E.str w0) (ix0 _ r) hfirst) rfl) (bF (bnd (E.bl false) hlen rfl) (mp false (bnd (E.bl false) (bnd [E.lst ((E.str w0 :: r).map fun x => .bl (strE x))] (bnd (E.lst ((E.str w0 :: r).map fun x => .bl (strE x))) (bnd (E.str w0 :: r) hit (mp _ (hall []))) rfl) ?_) rfl)))) rfl) ?_
                · rw [allE_map, ← hb]; rfl
                · rw [z, hb, Bool.and_false]; rfl
              | true =>
                refine bnd (.inr _) (bF (bF (bnd (E.bl false) (bnd (E.str w0) (ix0 _ r) hfirst) rfl) (bF (bnd (E.bl false) hlen rfl) (mp true (bnd (E.bl true) (bnd [E.lst ((E.str w0 :: r).map fun x => .bl (strE x))] (bnd (E.lst ((E.str w0 :: r).map fun x => .bl (strE x))) (bnd (E.str w0 :: r) hit (mp _ (hall []))) rfl) ?_) rfl)))) rfl) ?_
                · rw [allE_map, ← hb]; rfl
                · cases r with
                  | nil => cases hl4
                  | cons b r2 =>
                    rw [z, hb, decide_eq_true ha2, decide_eq_true hl4]
                    cases b with
                    | str a =>
                      refine mp (E.bl (anyIn (ps.map E.str) (.str a))) (bnd (E.str a) (ix1 _ _ _) ?_)
                      show (if (true && l.all flatE) = true then some (E.bl (anyIn l (.str a))) else none) = _
                      rw [e2, e1]
                      rfl
                    | _ => cases hb
        | _ => cases hs
    | ins _ _ _ => cases hp
    | _ => rfl
end
end K05

namespace K05
open PySem L2 XR VT ET
def szE : E → Bool
  | .tup t => decide (t.length ≤ 900)
  | _ => true
def heldE (l : List E) : E → Bool
  | .tup t => t.all (fun x => strE x && anyIn l x) && decide ((t.map sx).Nodup)
  | _ => false
def heldF : List E → Option E
  | [d, .lst l] => if (pl d && l.all strE && szE d) = true then some (.bl (heldE l d)) else none
  | _ => none
theorem heldF_len (ds : List E) (d : E) (h : heldF ds = some d) : ds.length = 2 := by
  unfold heldF at h
  split at h
  · rfl
  · cases h
section
variable {P : Program} {w : World} {K : PySem.W.Frag} {mg : Str → Option Value} {base : Heap}
variable {CS : List Addr}
theorem scHe : FnScope ["holds", "names", "one"] ["holds", "names"] (defScope sHeld) := ⟨rfl, rfl, rfl, by decide +kernel, rfl, by decide +kernel, by decide +kernel⟩
theorem ok_held {f : Addr} {fd : FuncData} (F : Fun K "are_held" "are_held" sHeld f fd) (T : Txt mg) (hC : ∀ C ∈ CS, CF K C) : FnOk P w K mg base CX0 1 f fd ["holds", "names"] (spP heldF) := by
  refine F.ok scHe (fun vs H Q E0 h => spP_len heldF_len h) (fun cdv A outer s H vs Q E0 hr h => ?_)
  have hu := hu_of hr
  refine ⟨_, (pss_cons (ps_if (PW.pt (pw_or (pt_not (pt_val (pe_callB (call_isiK (K := K) rfl) (by rfl) T.isi (by decide +kernel) (pa_cons (pv 0) (pa_cons (pe_bltn (v := .ty "tuple") (by rfl) T.tuple (by decide +kernel) rfl) pa_nil))))) (pw_or1 (pt_not (pt_val (pe_callB (cr_allK (K := K) rfl rfl) (by rfl) T.all (by decide +kernel) (pa_cons (pe_lc (own := [("one", 2)]) (g := gName 2) (tt := tYes) rfl scHe.nd (pi_tupK (K := K) rfl (pv 0)) (blkOk_by (own := [("one", 2)]) (N := ["holds", "names", "one"]) (sc := (defScope sHeld)) (by decide +kernel)) (fun _ _ _ _ _ => pg_name (i := 2) scHe.nd rfl (Or.inl rfl)) (fun _ _ _ _ _ => pts_nil) (fun _ _ _ _ _ => (pe_and (pe_callB (call_isiK (K := K) rfl) (by rfl) T.isi (by decide +kernel) (pa_cons (pv 2) (pa_cons (pe_bltn (v := .ty "str") (by rfl) T.str (by decide +kernel) rfl) pa_nil))) (pe_one (pe_cmpR (op_inK (K := K) rfl) (pv 2) (pv 1) (by rfl)))))) pa_nil))))))) (pss_one (ps_ret pe_bl)) pss_nil)
      (pss_one (ps_ret (pe_cmpR op_eq (pe_callB (call_lenK (K := K) rfl) (by rfl) T.len (by decide +kernel) (pa_cons (pe_dc (own := [("one", 2)]) (g := gName 2) (tt := tYes) rfl scHe.nd (pi_tupK (K := K) rfl (pv 0)) (blkOk_by (own := [("one", 2)]) (N := ["holds", "names", "one"]) (sc := (defScope sHeld)) (by decide +kernel)) (fun _ _ _ _ _ => pg_name (i := 2) scHe.nd rfl (Or.inl rfl)) (fun _ _ _ _ _ => pts_nil) (fun _ _ _ _ _ => (pv 2)) (fun _ _ _ _ _ => pe_bl)) pa_nil)) (pe_callB (call_lenK (K := K) rfl) (by rfl) T.len (by decide +kernel) (pa_cons (pv 0) pa_nil)) (nomark _))))), ?_⟩
  apply pu_def (h := h)
  case pu => (repeat' first
    | with_reducible exact pu_var _ | with_reducible exact pu_non | with_reducible exact pu_bl _ | with_reducible exact pu_int _ | with_reducible exact pu_nil | with_reducible exact pu_next | with_reducible exact pu_yes
    | with_reducible apply pu_seq | with_reducible apply pu_ifS | with_reducible apply pu_ret | with_reducible apply pu_asg
    | with_reducible apply pu_and | with_reducible apply pu_or | with_reducible apply pu_not | with_reducible apply pu_test | with_reducible apply pu_b
    | with_reducible apply pu_andV | with_reducible apply pu_orV | with_reducible apply pu_notV | with_reducible apply pu_if
    | with_reducible apply pu_isi hC | with_reducible apply pu_cb (hr := pu_len) | with_reducible apply pu_cb (hr := pu_all) | with_reducible apply pu_cb (hr := pu_any) | with_reducible apply pu_cb (hr := pu_tupOf) | with_reducible apply pu_cb (hr := pu_lstOf)
    | with_reducible apply pu_op (hr := pu_eqNilT)
    | with_reducible apply pu_op (hr := pu_neNilT)
    | with_reducible apply pu_op (hr := pu_ixT) | with_reducible apply pu_op (hr := pu_ixL) | with_reducible apply pu_op (hr := pu_eqS) | with_reducible apply pu_op (hr := pu_neS) | with_reducible apply pu_op (hr := pu_in) | with_reducible apply pu_op (hr := pu_isNo) | with_reducible apply pu_op (hr := pu_notNo)
    | with_reducible apply pu_op (hr := pu_cm) | with_reducible apply pu_op (hr := pu_ar) | with_reducible apply pu_op (hr := pu_eqP) | with_reducible apply pu_op (hr := pu_neP) | with_reducible apply pu_op (hr := pu_catT) | with_reducible apply pu_op (hr := pu_catL)
    | with_reducible apply pu_chain pu_cm pu_cm | with_reducible apply pu_lcV | with_reducible apply pu_dcV | with_reducible apply pu_iTup | with_reducible apply pu_iLst
    | with_reducible apply pu_slT | with_reducible apply pu_slL | with_reducible exact pu_noPart | with_reducible exact pu_part _
    | exact pu_str _ ⟨by decide +kernel, by decide +kernel⟩ | with_reducible apply pu_call | with_reducible apply pu_tup | with_reducible apply pu_lst | with_reducible apply pu_cons | (with_reducible_and_instances rfl) | rfl)
  case hF =>
    intro ds d e
    unfold heldF at e
    split at e
    case h_2 => cases e
    rename_i x l
    split at e
    case isFalse => cases e
    rename_i hx
    cases e
    obtain ⟨hx', hz⟩ := Bool.and_eq_true_iff.mp hx
    obtain ⟨hp, hl⟩ := Bool.and_eq_true_iff.mp hx'
    have e2 := flat_str hl
    cases x with
    | tup t =>
      have hit : (if t.length ≤ 900 then some t else none) = some t := if_pos (of_decide_eq_true hz)
      have hall : ∀ fe : FE, (∀ x ∈ t, fe ((env0 ["holds", "names", "one"] [.tup t, .lst l]).set 2 (some x)) = some (.bl (strE x && anyIn l x))) → lcE (fun _ => some true) fe (env0 ["holds", "names", "one"] [.tup t, .lst l]) 2 t = some (t.map fun x => .bl (strE x && anyIn l x)) := fun fe h => lcE_map _ _ (fun _ => rfl) h
      have hel : ∀ x ∈ t, (((isT CS "str" x).bind toB).bind fun b => if b = true then inE false x (.lst l) else some (.bl false)) = some (.bl (strE x && anyIn l x)) := fun x hx => by
        have px := pl_mem (show plL t = true from hp) hx
        cases x with
        | str y =>
          refine bT rfl ?_
          show (if (true && l.all flatE) = true then some (E.bl (anyIn l (.str y))) else none) = _
          rw [e2]
          rfl
        | ins _ _ _ => cases px
        | _ => exact bF rfl rfl
      cases hb : t.all (fun x => strE x && anyIn l x) with
      | false =>
        refine bnd (.inl (.bl false)) (bT (bF rfl (mp false (bnd (E.bl false) (bnd [E.lst (t.map fun x => .bl (strE x && anyIn l x))] (bnd (E.lst (t.map fun x => .bl (strE x && anyIn l x))) (bnd t hit (mp _ (hall _ hel))) rfl) ?_) rfl))) rfl) ?_
        · rw [allE_map, hb]
        · show _ = some (Sum.inl (E.bl (t.all _ && _)))
          rw [hb]
          rfl
      | true =>
        refine bnd (.inr _) (bF (bF rfl (mp true (bnd (E.bl true) (bnd [E.lst (t.map fun x => .bl (strE x && anyIn l x))] (bnd (E.lst (t.map fun x => .bl (strE x && anyIn l x))) (bnd t hit (mp _ (hall _ hel))) rfl) ?_) rfl))) rfl) ?_
        · rw [allE_map, hb]
        · have hst : t.all strE = true := List.all_eq_true.mpr fun x hx => (Bool.and_eq_true_iff.mp (List.all_eq_true.mp hb x hx)).1
          have e3 := strs_eq hst
          generalize hxs : t.map sx = xs at e3
          have ex : heldE l (.tup t) = decide xs.Nodup := by
            show (t.all _ && decide ((t.map sx).Nodup)) = _
            rw [hb, hxs]
            rfl
          rw [ex]
          obtain ⟨r, z1, z2, z3⟩ := dc_keys (fk := fun env => ((env[2]?).bind id)) (fv := fun _ => some (E.bl true)) (env := env0 ["holds", "names", "one"] [.tup t, .lst l]) (i := 2) (fun _ => rfl) t (xs.map Sum.inr) [] (by rw [List.length_map, ← e3, List.length_map]) (fun j e k g1 g2 => by
            rw [List.getElem?_map] at g2
            obtain ⟨x, g3, rfl⟩ := Option.map_eq_some_iff.mp g2
            rw [← e3, List.getElem?_map, g3] at g1
            cases g1
            rfl) (by simp)
          refine mp (E.bl (decide xs.Nodup)) (bnd (E.int r.length) ?_ (bnd (E.int t.length) rfl ?_))
          · refine bnd [E.map (r.map (·.1)) (r.map (·.2))] (bnd (E.map (r.map (·.1)) (r.map (·.2))) (bnd t (bnd (E.tup t) rfl hit) (mp r z1)) rfl) ?_
            show some (E.int _) = _
            rw [List.length_map]
          · show some (E.bl (decide ((r.length : Int) = (t.length : Int)))) = _
            have d4 : ((r.length : Int) = (t.length : Int)) ↔ xs.Nodup := by
              rw [← nd_inr]
              have z : (List.map (fun x : L2.Key × E => x.1) [] ++ xs.map (Sum.inr : Str → L2.Key)).Nodup ↔ (xs.map (Sum.inr : Str → L2.Key)).Nodup := by simp
              rw [← z, ← z3]
              show _ ↔ r.length = 0 + t.length
              omega
            rw [decide_eq_decide.mpr d4]
    | ins _ _ _ => cases hp
    | _ => rfl
end
end K05

namespace K05
open PySem L2 XR VT ET
def twoE : E → Bool
  | .tup l => decide (l.length = 2)
  | _ => false
def frst : E → E
  | .tup (a :: _) => a
  | _ => .non
def scnd : E → E
  | .tup (_ :: b :: _) => b
  | _ => .non
def nmE (l : List E) (x : E) : Bool := nameE (frst x) && !(anyIn l (frst x))
def idT : E := .tup [.str "id", .tup [.str "id"]]
def idE : E → Bool
  | .tup [.str a, .tup [.str b]] => decide (a = "id") && decide (b = "id")
  | _ => false
def tailE (ps : List E) : List E → Bool
  | [] => false
  | m :: r => idE m && r.all fun x => ruleE (ps.map sx) (scnd x)
def madeE (l ps : List E) : E → Bool
  | .tup t => t.all twoE && (t.all (nmE l) && decide ((t.map fun x => sx (frst x)).Nodup)) && tailE ps t
  | _ => false
def hdL : List E → Bool
  | [] => true
  | m :: _ => match eqP false m idT with
    | some (.bl b) => b == idE m
    | _ => false
def hdD : E → Bool
  | .tup t => hdL t
  | _ => true
def madeF : List E → Option E
  | [d, .lst l, .lst ps] => if (pl d && szE d && hdD d && l.all strE && ps.all strE) = true then some (.bl (madeE l ps d)) else none
  | _ => none
theorem madeF_len (ds : List E) (d : E) (h : madeF ds = some d) : ds.length = 3 := by
  unfold madeF at h
  split at h
  · rfl
  · cases h
theorem two_eq {x : E} (h : twoE x = true) : ∃ a b, x = .tup [a, b] := by
  cases x with
  | tup l =>
    have h : l.length = 2 := of_decide_eq_true h
    match l, h with
    | [a, b], _ => exact ⟨a, b, rfl⟩
  | _ => cases h
theorem name_str {a : E} (h : nameE a = true) : ∃ x, a = .str x := by
  cases a with
  | str x => exact ⟨x, rfl⟩
  | _ => cases h
theorem heads_of : ∀ {t : List E}, t.all twoE = true → t.all (fun x => nameE (frst x)) = true → heads t = some (t.map fun x => sx (frst x))
  | [], _, _ => rfl
  | x :: t, h1, h2 => by
    rw [List.all_cons] at h1 h2
    obtain ⟨a1, a2⟩ := Bool.and_eq_true_iff.mp h1
    obtain ⟨b1, b2⟩ := Bool.and_eq_true_iff.mp h2
    obtain ⟨a, b, rfl⟩ := two_eq a1
    obtain ⟨y, e⟩ := name_str b1
    cases (show a = .str y from e)
    show (heads t).map (y :: ·) = _
    rw [heads_of a2 b2]
    rfl
theorem cut1 (m : E) (r : List E) : cutE (m :: r) (some 1) none = r := by
  have h : HT.sIx (m :: r).length 0 (some 1) = 1 := by
    rw [show ((1 : Int)) = ((1 : Nat) : Int) from rfl, HT.sIx_nat, List.length_cons]
    omega
  unfold cutE
  rw [h, HT.sIx_none]
  simp
section
variable {P : Program} {w : World} {K : PySem.W.Frag} {mg : Str → Option Value} {base : Heap}
variable {CS : List Addr}
theorem scMa : FnScope ["made", "names", "plain", "row"] ["made", "names", "plain"] (defScope sMade) := ⟨rfl, rfl, rfl, by decide +kernel, rfl, by decide +kernel, by decide +kernel⟩
theorem ok_made {f fN fU fR : Addr} {fd dN dU dR : FuncData} (F : Fun K "are_made" "are_made" sMade f fd) (T : Txt mg) (hC : ∀ C ∈ CS, CF K C)
    (GN : FnOk P w K mg base CX0 1 fN dN ["thing"] (spP (d1 fun d => .bl (nameE d)))) (gN : mg "is_name" = some (.ref fN)) (kN : PySem.W.keepIn K (.ref fN) = true) (bN : Binds K dN ["thing"] [])
    (GU : FnOk P w K mg base CX0 1 fU dU ["rows"] (spP unlF)) (gU : mg "are_unlike" = some (.ref fU)) (kU : PySem.W.keepIn K (.ref fU) = true) (bU : Binds K dU ["rows"] [])
    (GR : FnOk P w K mg base CX0 1 fR dR ["rule", "plain"] (spP ruleF)) (gR : mg "is_rule" = some (.ref fR)) (kR : PySem.W.keepIn K (.ref fR) = true) (bR : Binds K dR ["rule", "plain"] []) : FnOk P w K mg base CX0 2 f fd ["made", "names", "plain"] (spP madeF) := by
  refine F.ok scMa (fun vs H Q E0 h => spP_len madeF_len h) (fun cdv A outer s H vs Q E0 hr h => ?_)
  have hr1 : Room 1 _ := hr
  have hu64 : (A.deeper (PyProof.Rows.envOfC "are_made" (defScope sMade) s.heap.objs.size f cdv)).units + 64 < cLine := hr.units
  have huN : (A.deeper (PyProof.Rows.envOfC "are_made" (defScope sMade) s.heap.objs.size f cdv)).units < cLine := by omega
  refine ⟨_, (pss_cons (ps_if (PW.pt (pw_or (pt_not (pt_val (pe_callB (call_isiK (K := K) rfl) (by rfl) T.isi (by decide +kernel) (pa_cons (pv 0) (pa_cons (pe_bltn (v := .ty "tuple") (by rfl) T.tuple (by decide +kernel) rfl) pa_nil))))) (pw_or1 (pt_not (pt_val (pe_callB (cr_allK (K := K) rfl rfl) (by rfl) T.all (by decide +kernel) (pa_cons (pe_lc (own := [("row", 3)]) (g := gName 3) (tt := tYes) rfl scMa.nd (pi_tupK (K := K) rfl (pv 0)) (blkOk_by (own := [("row", 3)]) (N := ["made", "names", "plain", "row"]) (sc := (defScope sMade)) (by decide +kernel)) (fun _ _ _ _ _ => pg_name (i := 3) scMa.nd rfl (Or.inl rfl)) (fun _ _ _ _ _ => pts_nil) (fun _ _ _ _ _ => (pe_and (pe_callB (call_isiK (K := K) rfl) (by rfl) T.isi (by decide +kernel) (pa_cons (pv 3) (pa_cons (pe_bltn (v := .ty "tuple") (by rfl) T.tuple (by decide +kernel) rfl) pa_nil))) (pe_one (pe_cmpR op_eq (pe_callB (call_lenK (K := K) rfl) (by rfl) T.len (by decide +kernel) (pa_cons (pv 3) pa_nil)) pe_int (nomark _)))))) pa_nil))))))) (pss_one (ps_ret pe_bl)) pss_nil)
      (pss_cons (ps_if (PW.pt (pw_or (pt_not (pt_val (pe_callB (cr_allK (K := K) rfl rfl) (by rfl) T.all (by decide +kernel) (pa_cons (pe_lc (own := [("row", 3)]) (g := gName 3) (tt := tYes) rfl scMa.nd (pi_tupK (K := K) rfl (pv 0)) (blkOk_by (own := [("row", 3)]) (N := ["made", "names", "plain", "row"]) (sc := (defScope sMade)) (by decide +kernel)) (fun _ _ _ _ _ => pg_name (i := 3) scMa.nd rfl (Or.inl rfl)) (fun _ _ _ _ _ => pts_nil) (fun _ _ _ _ _ => (pe_and (pe_call GN hr1 rfl gN kN bN .nil pass0 (pa_cons (pe_ix (ix_tupK (K := K) rfl) (pv 3) pe_int (fun _ _ => rfl)) pa_nil)) (pe_one (pe_cmpR (op_ninK (K := K) rfl) (pe_ix (ix_tupK (K := K) rfl) (pv 3) pe_int (fun _ _ => rfl)) (pv 1) (by rfl)))))) pa_nil)))) (pw_or1 (pt_not (pt_val (pe_call GU hr1 rfl gU kU bU .nil pass0 (pa_cons (pv 0) pa_nil))))))) (pss_one (ps_ret pe_bl)) pss_nil)
      (pss_one (ps_ret (pe_and (pe_cmpR (op_neNilT (K := K) rfl huN) (pv 0) (pe_tup pa_nil) (nomark _)) (pe_and (pe_cmpR (op_eqPK (K := K) rfl hu64) (pe_ix (ix_tupK (K := K) rfl) (pv 0) pe_int (fun _ _ => rfl)) (pe_tup (pa_cons pe_str (pa_cons (pe_tup (pa_cons pe_str pa_nil)) pa_nil))) (nomark _)) (pe_one (pe_callB (cr_allK (K := K) rfl rfl) (by rfl) T.all (by decide +kernel) (pa_cons (pe_lc (own := [("row", 3)]) (g := gName 3) (tt := tYes) rfl scMa.nd (pi_tupK (K := K) rfl (pe_slice (sl_tupK (K := K) rfl) (pv 0) (po_some pe_int) po_none)) (blkOk_by (own := [("row", 3)]) (N := ["made", "names", "plain", "row"]) (sc := (defScope sMade)) (by decide +kernel)) (fun _ _ _ _ _ => pg_name (i := 3) scMa.nd rfl (Or.inl rfl)) (fun _ _ _ _ _ => pts_nil) (fun _ _ _ _ _ => (pe_call GR hr1 rfl gR kR bR .nil pass0 (pa_cons (pe_ix (ix_tupK (K := K) rfl) (pv 3) pe_int (fun _ _ => rfl)) (pa_cons (pv 2) pa_nil))))) pa_nil))))))))), ?_⟩
  apply pu_def (h := h)
  case pu => (repeat' first
    | with_reducible exact pu_var _ | with_reducible exact pu_non | with_reducible exact pu_bl _ | with_reducible exact pu_int _ | with_reducible exact pu_nil | with_reducible exact pu_next | with_reducible exact pu_yes
    | with_reducible apply pu_seq | with_reducible apply pu_ifS | with_reducible apply pu_ret | with_reducible apply pu_asg
    | with_reducible apply pu_and | with_reducible apply pu_or | with_reducible apply pu_not | with_reducible apply pu_test | with_reducible apply pu_b
    | with_reducible apply pu_andV | with_reducible apply pu_orV | with_reducible apply pu_notV | with_reducible apply pu_if
    | with_reducible apply pu_isi hC | with_reducible apply pu_cb (hr := pu_len) | with_reducible apply pu_cb (hr := pu_all) | with_reducible apply pu_cb (hr := pu_any) | with_reducible apply pu_cb (hr := pu_tupOf) | with_reducible apply pu_cb (hr := pu_lstOf)
    | with_reducible apply pu_op (hr := pu_eqNilT)
    | with_reducible apply pu_op (hr := pu_neNilT)
    | with_reducible apply pu_op (hr := pu_ixT) | with_reducible apply pu_op (hr := pu_ixL) | with_reducible apply pu_op (hr := pu_eqS) | with_reducible apply pu_op (hr := pu_neS) | with_reducible apply pu_op (hr := pu_in) | with_reducible apply pu_op (hr := pu_isNo) | with_reducible apply pu_op (hr := pu_notNo)
    | with_reducible apply pu_op (hr := pu_cm) | with_reducible apply pu_op (hr := pu_ar) | with_reducible apply pu_op (hr := pu_eqP) | with_reducible apply pu_op (hr := pu_neP) | with_reducible apply pu_op (hr := pu_catT) | with_reducible apply pu_op (hr := pu_catL)
    | with_reducible apply pu_chain pu_cm pu_cm | with_reducible apply pu_lcV | with_reducible apply pu_dcV | with_reducible apply pu_iTup | with_reducible apply pu_iLst
    | with_reducible apply pu_slT | with_reducible apply pu_slL | with_reducible exact pu_noPart | with_reducible exact pu_part _
    | exact pu_str _ ⟨by decide +kernel, by decide +kernel⟩ | with_reducible apply pu_call | with_reducible apply pu_tup | with_reducible apply pu_lst | with_reducible apply pu_cons | (with_reducible_and_instances rfl) | rfl)
  case hF =>
    intro ds d e
    unfold madeF at e
    split at e
    case h_2 => cases e
    rename_i x l ps
    split at e
    case isFalse => cases e
    rename_i hx
    cases e
    simp only [Bool.and_eq_true] at hx
    obtain ⟨⟨⟨⟨hp, hz⟩, hd⟩, hl⟩, hps⟩ := hx
    have e2 := flat_str hl
    cases x with
    | tup t =>
      have hit : (if t.length ≤ 900 then some t else none) = some t := if_pos (of_decide_eq_true hz)
      have ex : madeE l ps (.tup t) = (t.all twoE && (t.all (nmE l) && decide ((t.map fun x => sx (frst x)).Nodup)) && tailE ps t) := rfl
      have px : ∀ x ∈ t, pl x = true := fun x hx => pl_mem (show plL t = true from hp) hx
      have hel1 : ∀ x ∈ t, (((isT CS "tuple" x).bind toB).bind fun b => if b = true then (lenE [x]).bind fun d => (some (E.int 2)).bind fun e => eqS d e else some (.bl false)) = some (.bl (twoE x)) := fun x hx => by
        have := px x hx
        cases x with
        | tup l =>
          refine bT rfl ?_
          show some (E.bl (decide ((l.length : Int) = 2))) = some (.bl (decide (l.length = 2)))
          rw [decide_eq_decide.mpr (show ((l.length : Int) = 2) ↔ l.length = 2 by omega)]
        | ins _ _ _ => cases this
        | _ => exact bF rfl rfl
      cases hb : t.all twoE with
      | false =>
        refine bnd (.inl (.bl false)) (bT (bF rfl (mp false (bnd (E.bl false) (bnd [E.lst (t.map fun x => .bl (twoE x))] (bnd (E.lst (t.map fun x => .bl (twoE x))) (bnd t hit (mp _ (lcE_map _ _ (fun _ => rfl) hel1))) rfl) ?_) rfl))) rfl) ?_
        · rw [allE_map, hb]
        · rw [ex, hb]
          rfl
      | true =>
        refine bnd (.inr _) (bF (bF rfl (mp true (bnd (E.bl true) (bnd [E.lst (t.map fun x => .bl (twoE x))] (bnd (E.lst (t.map fun x => .bl (twoE x))) (bnd t hit (mp _ (lcE_map _ _ (fun _ => rfl) hel1))) rfl) ?_) rfl))) rfl) ?_
        · rw [allE_map, hb]
        have hel2 : ∀ x ∈ t, (((((ixT x (.int 0)).bind fun d => (some []).map (d :: ·)).bind (d1 fun d => .bl (nameE d))).bind toB).bind fun b => if b = true then (ixT x (.int 0)).bind fun d => inE true d (.lst l) else some (.bl false)) = some (.bl (nmE l x)) := fun x hx => by
          obtain ⟨a, b, rfl⟩ := two_eq (List.all_eq_true.mp hb x hx)
          have p := px _ hx
          have pa := (plL_cons (show plL [a, b] = true from p)).1
          have g1 : d1 (fun d => .bl (nameE d)) [a] = some (.bl (nameE a)) := by simp [d1, pa]
          cases hn : nameE a with
          | false =>
            refine bF (bnd (E.bl false) (bnd [a] (bnd a (ix0 _ _) rfl) (by rw [g1, hn])) rfl) ?_
            show _ = some (E.bl (nameE a && _))
            rw [hn]
            rfl
          | true =>
            obtain ⟨y, rfl⟩ := name_str hn
            refine bT (bnd (E.bl true) (bnd [.str y] (bnd (.str y) (ix0 _ _) rfl) (by rw [g1, hn])) rfl) ?_
            refine bnd (.str y) (ix0 _ _) ?_
            show (if (true && l.all flatE) = true then some (E.bl (!(anyIn l (.str y)))) else none) = some (E.bl (nameE (.str y) && _))
            rw [e2, hn]
            rfl
        cases hc : t.all (nmE l) with
        | false =>
          refine bnd (.inl (.bl false)) (bT (bT (mp false (bnd (E.bl false) (bnd [E.lst (t.map fun x => .bl (nmE l x))] (bnd (E.lst (t.map fun x => .bl (nmE l x))) (bnd t hit (mp _ (lcE_map _ _ (fun _ => rfl) hel2))) rfl) ?_) rfl)) rfl) rfl) ?_
          · rw [allE_map, hc]
          · rw [ex, hb, hc]
            rfl
        | true =>
          have hnn : t.all (fun x => nameE (frst x)) = true := List.all_eq_true.mpr fun x hx => (Bool.and_eq_true_iff.mp (List.all_eq_true.mp hc x hx)).1
          have hun : unlF [.tup t] = some (.bl (decide ((t.map fun x => sx (frst x)).Nodup))) := by
            show (if t.length ≤ 900 then (heads t).map fun xs => E.bl (decide xs.Nodup) else none) = _
            rw [if_pos (of_decide_eq_true hz), heads_of hb hnn]
            rfl
          cases hnd : decide ((t.map fun x => sx (frst x)).Nodup) with
          | false =>
            rw [hnd] at hun
            refine bnd (.inl (.bl false)) (bT (bF (mp true (bnd (E.bl true) (bnd [E.lst (t.map fun x => .bl (nmE l x))] (bnd (E.lst (t.map fun x => .bl (nmE l x))) (bnd t hit (mp _ (lcE_map _ _ (fun _ => rfl) hel2))) rfl) ?_) rfl)) (mp false (bnd (E.bl false) (bnd [.tup t] rfl hun) rfl))) rfl) ?_
            · rw [allE_map, hc]
            · rw [ex, hb, hc, hnd]
              rfl
          | true =>
            rw [hnd] at hun
            refine bnd (.inr _) (bF (bF (mp true (bnd (E.bl true) (bnd [E.lst (t.map fun x => .bl (nmE l x))] (bnd (E.lst (t.map fun x => .bl (nmE l x))) (bnd t hit (mp _ (lcE_map _ _ (fun _ => rfl) hel2))) rfl) ?_) rfl)) (mp true (bnd (E.bl true) (bnd [.tup t] rfl hun) rfl))) rfl) ?_
            · rw [allE_map, hc]
            rw [ex, hb, hc, hnd]
            cases t with
            | nil => rfl
            | cons m r =>
              have hq : eqP false m idT = some (.bl (idE m)) := by
                have hd' : (match eqP false m idT with | some (.bl b) => b == idE m | _ => false) = true := hd
                split at hd'
                · rename_i b hb'
                  rw [hb', beq_iff_eq.mp hd']
                · cases hd'
              refine mp (E.bl (tailE ps (m :: r))) (bT rfl ?_)
              have hte : tailE ps (m :: r) = (idE m && r.all fun x => ruleE (ps.map sx) (scnd x)) := rfl
              rw [hte]
              cases hi : idE m with
              | false =>
                rw [hi] at hq
                exact bF (bnd (E.bl false) (bnd m (ix0 _ _) hq) rfl) rfl
              | true =>
                rw [hi] at hq
                refine bT (bnd (E.bl true) (bnd m (ix0 _ _) hq) rfl) ?_
                have hz' : (m :: r).length ≤ 900 := of_decide_eq_true hz
                have hsl : (if HT.sIx (m :: r).length 0 (some 1) = 0 ∧ HT.sIx (m :: r).length (m :: r).length none = (m :: r).length then none else some (E.tup (cutE (m :: r) (some 1) none))) = some (.tup r) := by
                  have h : HT.sIx (m :: r).length 0 (some 1) = 1 := by
                    rw [show ((1 : Int)) = ((1 : Nat) : Int) from rfl, HT.sIx_nat, List.length_cons]
                    omega
                  rw [if_neg (fun z => by rw [h] at z; exact absurd z.1 (by decide)), cut1]
                have hit2 : (if r.length ≤ 900 then some r else none) = some r := if_pos (by rw [List.length_cons] at hz'; omega)
                have hel3 : ∀ x ∈ r, ((ixT x (.int 1)).bind fun d => ((some (E.lst ps)).bind fun d => (some []).map (d :: ·)).map (d :: ·)).bind ruleF = some (.bl (ruleE (ps.map sx) (scnd x))) := fun x hx => by
                  obtain ⟨a, b, rfl⟩ := two_eq (List.all_eq_true.mp hb x (List.mem_cons_of_mem _ hx))
                  have p := px _ (List.mem_cons_of_mem _ hx)
                  have pb := (plL_cons (plL_cons (show plL [a, b] = true from p)).2).1
                  refine bnd [b, .lst ps] (bnd b (ix1 _ _ _) rfl) ?_
                  show (if (pl b && ps.all strE) = true then some (E.bl (ruleE (ps.map sx) b)) else none) = _
                  rw [pb, hps]
                  rfl
                refine bnd [E.lst (r.map fun x => .bl (ruleE (ps.map sx) (scnd x)))] (bnd (E.lst (r.map fun x => .bl (ruleE (ps.map sx) (scnd x)))) (bnd r (bnd (E.tup r) (bnd (E.tup (m :: r)) rfl hsl) hit2) (mp _ (lcE_map _ _ (fun _ => rfl) hel3))) rfl) ?_
                rw [allE_map]
                rfl
    | ins _ _ _ => cases hp
    | _ => rfl
end
end K05

namespace K05
open PySem L2 XR VT ET
abbrev sNI : Stmt := inClass (top 2) 0
abbrev sKI : Stmt := inClass (top 16) 0
theorem bnot_t {b : Bool} (h : (!b) = true) : b = false := by cases b <;> simp_all
theorem bnot_f {b : Bool} (h : (!b) = false) : b = true := by cases b <;> simp_all
theorem lcE_filter {ft : FT} {fe : FE} {env : List (Option E)} {i : Nat} (p : E → Bool) (g : E → E) : ∀ (l : List E), (∀ x ∈ l, ft (env.set i (some x)) = some (p x)) → (∀ x ∈ l, p x = true → fe (env.set i (some x)) = some (g x)) → lcE ft fe env i l = some ((l.filter p).map g)
  | [], _, _ => rfl
  | x :: l, h1, h2 => by
    have ih := lcE_filter p g l (fun y hy => h1 y (List.mem_cons_of_mem _ hy)) (fun y hy => h2 y (List.mem_cons_of_mem _ hy))
    rw [lcE, h1 x List.mem_cons_self, Option.bind_some]
    cases hp : p x with
    | true => rw [if_pos rfl, h2 x List.mem_cons_self hp, Option.bind_some, ih, List.filter_cons_of_pos hp]; rfl
    | false => rw [if_neg (by decide), ih, List.filter_cons_of_neg (by rw [hp]; decide)]
section
variable {tt : TT} {ft : FT} {rest t u : TS} {D : Ends} {σ : L2.St} {H : Hp} {Pr : Addr → Prop} {env : List (Option E)} {b : Bool} {C : Addr} {fld part : Str} {W : WX}
theorem step_if (pu : PuT tt ft) (he : En (keepH Pr H) σ env) (hf : Fr Pr H) (e : ft env = some b) (hT : b = true → ∀ H1, Same H H1 → t { D with nx := rest D } σ H1) (hF : b = false → ∀ H1, Same H H1 → u { D with nx := rest D } σ H1) : tSeq (tIfS tt t u) rest D σ H := by
  refine pu Pr σ H env b _ he hf e fun H1 m1 => ?_
  cases b with
  | true => exact iteT (hT rfl H1 m1)
  | false => exact iteF (hF rfl H1 m1)
/-- if ..: raise C("part") -/
theorem step_raise (pu : PuT tt ft) (he : En (keepH Pr H) σ env) (hf : Fr Pr H) (e : ft env = some b)
    (hT : b = true → ∀ d H', Same H H' → H d = none → H' d = some (.xd [(fld, .str part)]) → W (.ref C) (some d) σ H') (hF : b = false → ∀ H1, Same H H1 → rest D σ H1) : tSeq (tIfS tt (tRaiseI C fld W (tC (.str part))) tNext) rest D σ H :=
  step_if pu he hf e (fun hb H1 m1 => raiseK fun d H' hd m2 hx => hT hb d H' (m1.trans m2) (by cases z : H d with | none => rfl | some o => rw [m1 _ _ z] at hd; cases hd) hx) hF
end
section
variable {ta : TA} {fl : FA} {rest : TS} {D : Ends} {σ : L2.St} {H : Hp} {Pr : Addr → Prop} {env : List (Option E)} {i j : Nat} {d d2 : E}
theorem step_par (pu : PuA ta fl) (he : En (keepH Pr H) σ env) (hf : Fr Pr H) (e : fl env = some [d, d2]) (hF : ∀ v w H1, Same H H1 → Rp (keepH Pr H1) v d → Rp (keepH Pr H1) w d2 → rest D ((σ.set i (some v)).set j (some w)) H1) : tSeq (tPar i j ta) rest D σ H := by
  refine pu Pr σ H env _ _ he hf e fun vs H1 m1 r => ?_
  cases r with
  | @cons v _ _ _ h1 t =>
  cases t with
  | @cons w _ _ _ h2 t =>
  cases t
  exact ⟨v, w, rfl, hF v w H1 m1 h1 h2⟩
end
def itm : E → List E
  | .tup t => t
  | _ => []
def plnE : E → Bool
  | .tup [_, _, _, .non] => true
  | _ => false
def nmsE (g : E) : List E := (itm g).map frst
def plsE (g : E) : List E := ((itm g).filter plnE).map frst
def gvsE : E → Bool
  | .tup t => t.all givenE && decide ((t.map fun x => sx (frst x)).Nodup)
  | _ => false
def sngE (ns : List E) : E → Bool
  | .non => true
  | .str x => anyIn ns (.str x)
  | _ => false
def gvsD : E → Bool
  | .tup t => t.all givD && decide (t.length ≤ 900)
  | .ins _ _ _ => false
  | _ => true
def kindE : List E → Option Str
  | [n, g, m, s, h] => if nameE n = false then some "name" else if gvsE g = false then some "given" else if (madeE (nmsE g) (plsE g) m && decide ((itm g).length + (itm m).length ≤ 8)) = false then some "made" else if sngE (nmsE g) s = false then some "single" else if heldE (nmsE g) h = false then some "holds" else none
  | _ => none
def kindD : List E → Bool
  | [n, g, m, s, h] => pl n && gvsD g && (pl m && szE m && hdD m) && pl s && (pl h && szE h)
  | _ => false
def flds : List Str := ["name", "given", "made", "single", "holds"]
def spKI (CK CN : Addr) : Sp := fun vs H Q E0 => ∃ (Pr : Addr → Prop) (x dx : Addr) (us : List V) (ds : List E), vs = .ref x :: us ∧ H x = some (.ins CK dx []) ∧ RpL (keepH Pr H) us ds ∧ Fr Pr H ∧ kindD ds = true ∧
  (kindE ds = none → ∀ H', But x H H' → H' x = some (.ins CK dx (flds.zip us)) → Q .non H') ∧
  (∀ part, kindE ds = some part → ∀ d H', Same H H' → H d = none → H' d = some (.xd [("part", .str part)]) → E0 (.ref CN) (some d) H')
theorem kindD_eq {ds : List E} (h : kindD ds = true) : ∃ n g m s h, ds = [n, g, m, s, h] := by
  unfold kindD at h
  split at h
  · exact ⟨_, _, _, _, _, rfl⟩
  · cases h
def envK (n g m s h : E) : List (Option E) := [none, some n, some g, some m, some s, some h, none, none, none]
theorem gv_rows {t : List E} (h : t.all givenE = true) : ∀ x ∈ t, ∃ y b c d, x = .tup [.str y, b, c, d] ∧ isName y = true := fun x hx => by
  have := List.all_eq_true.mp h x hx
  unfold givenE at this
  split at this
  · rename_i a b c d
    have hn := (Bool.and_eq_true_iff.mp this).1
    obtain ⟨y, rfl⟩ := name_str hn
    exact ⟨y, b, c, d, rfl, hn⟩
  · cases this
theorem heads_gv : ∀ {t : List E}, t.all givenE = true → heads t = some (t.map fun x => sx (frst x))
  | [], _ => rfl
  | a :: t, ha => by
    obtain ⟨y, b, c, d, rfl, _⟩ := gv_rows ha _ List.mem_cons_self
    rw [List.all_cons] at ha
    obtain ⟨h1, h2⟩ := Bool.and_eq_true_iff.mp ha
    show (heads t).map (y :: ·) = _
    rw [heads_gv h2]
    rfl
section
variable {P : Program} {w : World} {K : PySem.W.Frag} {mg : Str → Option Value} {base : Heap}
variable {CS : List Addr}
theorem scNI : FnScope ["self", "part"] ["self", "part"] (defScope sNI) := ⟨rfl, rfl, rfl, by decide +kernel, rfl, by decide +kernel, by decide +kernel⟩
theorem ok_NI {f C B : Addr} {fd : FuncData} {mc : Value} (F : Fun K "__init__" "NoKind.__init__" sNI f fd) (T : PIni K mg "PlanError" B mc) (xc : OexC K C) (no : PySem.W.findIn K (.ref C) "part" = some none) : FnOk P w K mg base CX0 1 f fd ["self", "part"] (spI C "part") := by
  refine F.ok scNI (fun vs H Q E h => ?_) (fun cdv A outer s H vs Q E hr h => ?_)
  · obtain ⟨a, v, rfl, _⟩ := h
    rfl
  · obtain ⟨a, v, rfl, ha, k⟩ := h
    refine ⟨_, pss_cons (ps_expr (pe_pinit T rfl (pa_cons (pv 0) (pa_cons pe_str pa_nil)))) (pss_one (ps_ost (pv 0) (pv 1))), ?_⟩
    exact ⟨_, rfl, a, C, _, rfl, (by show 1 ≤ 1000; decide), xc, ha, _, rfl, _, rfl, a, C, rfl, xc, no, .inl ⟨ha, fun dx hd hne => k dx _ hd hne rfl⟩⟩
theorem scKI : FnScope ["self", "name", "given", "made", "single", "holds", "row", "names", "plain"] ["self", "name", "given", "made", "single", "holds"] (defScope sKI) := ⟨rfl, rfl, rfl, by decide +kernel, rfl, by decide +kernel, by decide +kernel⟩
theorem ok_KI {f fN fU fV fM fD CK CN CP fI : Addr} {fd dN dU dV dM dD dI : FuncData} {kws : List (Str × V)} (F : FunD K "__init__" "Kind.__init__" (defArgs sKI) (defBody sKI) (defScope sKI) [] kws f fd) (T : Txt mg) (hC : ∀ C ∈ CS, CF K C) (cK : Cls K CK) (nA : ∀ x ∈ flds, NoAttr K CK x) {tM : Tok} (gMo : mg "MOST" = some (.int 8 tM))
    (NK : New1 P w K mg base CP "NoKind" "part" CN fI dI)
    (GN : FnOk P w K mg base CX0 1 fN dN ["thing"] (spP (d1 fun d => .bl (nameE d)))) (gN : mg "is_name" = some (.ref fN)) (kN : PySem.W.keepIn K (.ref fN) = true) (bN : Binds K dN ["thing"] [])
    (GU : FnOk P w K mg base CX0 1 fU dU ["rows"] (spP unlF)) (gU : mg "are_unlike" = some (.ref fU)) (kU : PySem.W.keepIn K (.ref fU) = true) (bU : Binds K dU ["rows"] [])
    (GV : FnOk P w K mg base CX0 2 fV dV ["row"] (spP givF)) (gV : mg "is_given" = some (.ref fV)) (kV : PySem.W.keepIn K (.ref fV) = true) (bV : Binds K dV ["row"] [])
    (GM : FnOk P w K mg base CX0 2 fM dM ["made", "names", "plain"] (spP madeF)) (gM : mg "are_made" = some (.ref fM)) (kM : PySem.W.keepIn K (.ref fM) = true) (bM : Binds K dM ["made", "names", "plain"] [])
    (GD : FnOk P w K mg base CX0 1 fD dD ["holds", "names"] (spP heldF)) (gD : mg "are_held" = some (.ref fD)) (kD : PySem.W.keepIn K (.ref fD) = true) (bD : Binds K dD ["holds", "names"] []) : FnOk P w K mg base (L2.CX P w) 3 f fd ["self", "name", "given", "made", "single", "holds"] (spKI CK CN) := by
  refine F.ok scKI (fun vs H Q E0 h => ?_) (fun cdv A outer s H vs Q E0 hr h => ?_)
  · obtain ⟨Pr, x, dx, us, ds, rfl, hx, r, hf, hd, _⟩ := h
    obtain ⟨n, g, m, s, h, rfl⟩ := kindD_eq hd
    rw [List.length_cons, r.length]
    rfl
  obtain ⟨Pr, x, dx, us, ds, rfl, hx, r, hf, hd, hok, hex⟩ := h
  obtain ⟨n, g, m, s', h', rfl⟩ := kindD_eq hd
  have hr2 : Room 2 _ := hr
  have hrM : Room 2 _ := hr
  have hr1 : Room 1 _ := hr.mono (by decide)
  have hu := hu_of hr
  refine ⟨_, (pss_cons (ps_if (pt_not (pt_val (pe_call GN hr1 rfl gN kN bN .nil pass0 (pa_cons (pv 1) pa_nil)))) (pss_one (ps_raiseI NK rfl hrM (takes_of rfl rfl rfl rfl) rfl pe_str)) pss_nil)
      (pss_cons (ps_if (PW.pt (pw_or (pt_not (pt_val (pe_callB (call_isiK (K := K) rfl) (by rfl) T.isi (by decide +kernel) (pa_cons (pv 2) (pa_cons (pe_bltn (v := .ty "tuple") (by rfl) T.tuple (by decide +kernel) rfl) pa_nil))))) (pw_or (pt_not (pt_val (pe_callB (cr_allK (K := K) rfl rfl) (by rfl) T.all (by decide +kernel) (pa_cons (pe_lc (own := [("row", 6)]) (g := gName 6) (tt := tYes) rfl scKI.nd (pi_tupK (K := K) rfl (pv 2)) (blkOk_by (own := [("row", 6)]) (N := ["self", "name", "given", "made", "single", "holds", "row", "names", "plain"]) (sc := (defScope sKI)) (by decide +kernel)) (fun _ _ _ _ _ => pg_name (i := 6) scKI.nd rfl (Or.inl rfl)) (fun _ _ _ _ _ => pts_nil) (fun _ _ _ _ _ => (pe_call GV hr2 rfl gV kV bV .nil pass0 (pa_cons (pv 6) pa_nil)))) pa_nil)))) (pw_or1 (pt_not (pt_val (pe_call GU hr1 rfl gU kU bU .nil pass0 (pa_cons (pv 2) pa_nil)))))))) (pss_one (ps_raiseI NK rfl hrM (takes_of rfl rfl rfl rfl) rfl pe_str)) pss_nil)
      (pss_cons (ps_par (i := 7) (j := 8) (by rfl) scKI.nd rfl rfl (by decide) rfl rfl (pa_cons (pe_lc (own := [("row", 6)]) (g := gName 6) (tt := tYes) rfl scKI.nd (pi_tupK (K := K) rfl (pv 2)) (blkOk_by (own := [("row", 6)]) (N := ["self", "name", "given", "made", "single", "holds", "row", "names", "plain"]) (sc := (defScope sKI)) (by decide +kernel)) (fun _ _ _ _ _ => pg_name (i := 6) scKI.nd rfl (Or.inl rfl)) (fun _ _ _ _ _ => pts_nil) (fun _ _ _ _ _ => (pe_ix (ix_tupK (K := K) rfl) (pv 6) pe_int (fun _ _ => rfl)))) (pa_cons (pe_lc (own := [("row", 6)]) (g := gName 6) rfl scKI.nd (pi_tupK (K := K) rfl (pv 2)) (blkOk_by (own := [("row", 6)]) (N := ["self", "name", "given", "made", "single", "holds", "row", "names", "plain"]) (sc := (defScope sKI)) (by decide +kernel)) (fun _ _ _ _ _ => pg_name (i := 6) scKI.nd rfl (Or.inl rfl)) (fun _ _ _ _ _ => pts_one (pt_cmpR op_isNo (pe_ix (ix_tupK (K := K) rfl) (pv 6) pe_int (fun _ _ => rfl)) pe_non (nomark _))) (fun _ _ _ _ _ => (pe_ix (ix_tupK (K := K) rfl) (pv 6) pe_int (fun _ _ => rfl)))) pa_nil)) (by rfl))
      (pss_cons (ps_if (PW.pt (pw_or (pt_not (pt_val (pe_call GM hr2 rfl gM kM bM .nil pass0 (pa_cons (pv 3) (pa_cons (pv 7) (pa_cons (pv 8) pa_nil)))))) (pw_or1 (pt_cmpR op_gt (pe_op op_add (pe_callB (call_lenK (K := K) rfl) (by rfl) T.len (by decide +kernel) (pa_cons (pv 2) pa_nil)) (pe_callB (call_lenK (K := K) rfl) (by rfl) T.len (by decide +kernel) (pa_cons (pv 3) pa_nil))) (pe_glob (v := .int 8) rfl gMo ⟨_, rfl⟩) (nomark _))))) (pss_one (ps_raiseI NK rfl hrM (takes_of rfl rfl rfl rfl) rfl pe_str)) pss_nil)
      (pss_cons (ps_if (PW.pt (pw_and (pt_cmpR op_notNo (pv 4) pe_non (nomark _)) (pw_and1 (PW.pt (pw_or (pt_not (pt_val (pe_callB (call_isiK (K := K) rfl) (by rfl) T.isi (by decide +kernel) (pa_cons (pv 4) (pa_cons (pe_bltn (v := .ty "str") (by rfl) T.str (by decide +kernel) rfl) pa_nil))))) (pw_or1 (pt_cmpR (op_ninK (K := K) rfl) (pv 4) (pv 7) (by rfl)))))))) (pss_one (ps_raiseI NK rfl hrM (takes_of rfl rfl rfl rfl) rfl pe_str)) pss_nil)
      (pss_cons (ps_if (pt_not (pt_val (pe_call GD hr1 rfl gD kD bD .nil pass0 (pa_cons (pv 5) (pa_cons (pv 7) pa_nil))))) (pss_one (ps_raiseI NK rfl hrM (takes_of rfl rfl rfl rfl) rfl pe_str)) pss_nil)
      (pss_cons (ps_fld (pv 0) (pv 1) rfl)
      (pss_cons (ps_fld (pv 0) (pv 2) rfl)
      (pss_cons (ps_fld (pv 0) (pv 3) rfl)
      (pss_cons (ps_fld (pv 0) (pv 4) rfl)
      (pss_one (ps_fld (pv 0) (pv 5) rfl)))))))))))), ?_⟩
  match us, r with
  | [v1, v2, v3, v4, v5], .cons r1 (.cons r2 (.cons r3 (.cons r4 (.cons r5 .nil)))) =>
  have he : En (keepH Pr H) (L2.start ["self", "name", "given", "made", "single", "holds", "row", "names", "plain"] [.ref x, v1, v2, v3, v4, v5]) (envK n g m s' h') := by
    refine ⟨rfl, fun i d e => ?_⟩
    match i, e with
    | 1, e => cases e; exact ⟨v1, rfl, r1⟩
    | 2, e => cases e; exact ⟨v2, rfl, r2⟩
    | 3, e => cases e; exact ⟨v3, rfl, r3⟩
    | 4, e => cases e; exact ⟨v4, rfl, r4⟩
    | 5, e => cases e; exact ⟨v5, rfl, r5⟩
    | 0, e => cases e
    | 6, e => cases e
    | 7, e => cases e
    | 8, e => cases e
    | i + 9, e => cases e
  simp only [kindD, Bool.and_eq_true] at hd
  obtain ⟨⟨⟨⟨dn, dg⟩, ⟨⟨dm1, dm2⟩, dm3⟩⟩, ds1⟩, ⟨dh1, dh2⟩⟩ := hd
  -- the name
  apply step_raise (he := he) (hf := hf) (b := !nameE n)
  case pu => (repeat' first
    | with_reducible exact pu_var _ | with_reducible exact pu_non | with_reducible exact pu_bl _ | with_reducible exact pu_int _ | with_reducible exact pu_nil | with_reducible exact pu_next | with_reducible exact pu_yes
    | with_reducible apply pu_seq | with_reducible apply pu_ifS | with_reducible apply pu_ret | with_reducible apply pu_asg
    | with_reducible apply pu_and | with_reducible apply pu_or | with_reducible apply pu_not | with_reducible apply pu_test | with_reducible apply pu_b
    | with_reducible apply pu_andV | with_reducible apply pu_orV | with_reducible apply pu_notV | with_reducible apply pu_if
    | with_reducible apply pu_isi hC | with_reducible apply pu_cb (hr := pu_len) | with_reducible apply pu_cb (hr := pu_all) | with_reducible apply pu_cb (hr := pu_any) | with_reducible apply pu_cb (hr := pu_tupOf) | with_reducible apply pu_cb (hr := pu_lstOf)
    
    | with_reducible apply pu_op (hr := pu_ixT) | with_reducible apply pu_op (hr := pu_ixL) | with_reducible apply pu_op (hr := pu_eqS) | with_reducible apply pu_op (hr := pu_neS) | with_reducible apply pu_op (hr := pu_in) | with_reducible apply pu_op (hr := pu_isNo) | with_reducible apply pu_op (hr := pu_notNo)
    | with_reducible apply pu_op (hr := pu_cm) | with_reducible apply pu_op (hr := pu_ar) | with_reducible apply pu_op (hr := pu_eqP) | with_reducible apply pu_op (hr := pu_neP) | with_reducible apply pu_op (hr := pu_catT) | with_reducible apply pu_op (hr := pu_catL)
    | with_reducible apply pu_chain pu_cm pu_cm | with_reducible apply pu_lcV | with_reducible apply pu_dcV | with_reducible apply pu_iTup | with_reducible apply pu_iLst
    | with_reducible apply pu_slT | with_reducible apply pu_slL | with_reducible exact pu_noPart | with_reducible exact pu_part _
    | exact pu_str _ ⟨by decide +kernel, by decide +kernel⟩ | with_reducible apply pu_call | with_reducible apply pu_tup | with_reducible apply pu_lst | with_reducible apply pu_cons | (with_reducible_and_instances rfl) | rfl)
  case e =>
    refine mp (nameE n) (bnd (E.bl (nameE n)) (bnd [n] rfl ?_) rfl)
    simp [d1, dn]
  case hT =>
    intro hb d H' m' hd' hx'
    refine hex "name" ?_ d H' m' hd' hx'
    have : nameE n = false := by simpa using hb
    simp [kindE, this]
  intro hb H1 m1
  have hb : nameE n = true := by simpa using hb
  have he := he.keepS m1
  have hf := hf.same m1
  -- what is given
  apply step_raise (he := he) (hf := hf) (b := !gvsE g)
  case pu => (repeat' first
    | with_reducible exact pu_var _ | with_reducible exact pu_non | with_reducible exact pu_bl _ | with_reducible exact pu_int _ | with_reducible exact pu_nil | with_reducible exact pu_next | with_reducible exact pu_yes
    | with_reducible apply pu_seq | with_reducible apply pu_ifS | with_reducible apply pu_ret | with_reducible apply pu_asg
    | with_reducible apply pu_and | with_reducible apply pu_or | with_reducible apply pu_not | with_reducible apply pu_test | with_reducible apply pu_b
    | with_reducible apply pu_andV | with_reducible apply pu_orV | with_reducible apply pu_notV | with_reducible apply pu_if
    | with_reducible apply pu_isi hC | with_reducible apply pu_cb (hr := pu_len) | with_reducible apply pu_cb (hr := pu_all) | with_reducible apply pu_cb (hr := pu_any) | with_reducible apply pu_cb (hr := pu_tupOf) | with_reducible apply pu_cb (hr := pu_lstOf)
    
    | with_reducible apply pu_op (hr := pu_ixT) | with_reducible apply pu_op (hr := pu_ixL) | with_reducible apply pu_op (hr := pu_eqS) | with_reducible apply pu_op (hr := pu_neS) | with_reducible apply pu_op (hr := pu_in) | with_reducible apply pu_op (hr := pu_isNo) | with_reducible apply pu_op (hr := pu_notNo)
    | with_reducible apply pu_op (hr := pu_cm) | with_reducible apply pu_op (hr := pu_ar) | with_reducible apply pu_op (hr := pu_eqP) | with_reducible apply pu_op (hr := pu_neP) | with_reducible apply pu_op (hr := pu_catT) | with_reducible apply pu_op (hr := pu_catL)
    | with_reducible apply pu_chain pu_cm pu_cm | with_reducible apply pu_lcV | with_reducible apply pu_dcV | with_reducible apply pu_iTup | with_reducible apply pu_iLst
    | with_reducible apply pu_slT | with_reducible apply pu_slL | with_reducible exact pu_noPart | with_reducible exact pu_part _
    | exact pu_str _ ⟨by decide +kernel, by decide +kernel⟩ | with_reducible apply pu_call | with_reducible apply pu_tup | with_reducible apply pu_lst | with_reducible apply pu_cons | (with_reducible_and_instances rfl) | rfl)
  case e =>
    cases g with
    | tup t =>
      obtain ⟨dg1, dg2⟩ := Bool.and_eq_true_iff.mp dg
      have hz : t.length ≤ 900 := of_decide_eq_true dg2
      have hit : (if t.length ≤ 900 then some t else none) = some t := if_pos hz
      have hel : ∀ x ∈ t, givF [x] = some (.bl (givenE x)) := fun x hx => by
        show (if givD x = true then _ else _) = _
        rw [if_pos (List.all_eq_true.mp dg1 x hx)]
      have ex : gvsE (.tup t) = (t.all givenE && decide ((t.map fun x => sx (frst x)).Nodup)) := rfl
      cases ha : t.all givenE with
      | false =>
        rw [ex, ha]
        refine bF rfl (bT (mp false (bnd (E.bl false) (bnd [E.lst (t.map fun x => .bl (givenE x))] (bnd (E.lst (t.map fun x => .bl (givenE x))) (bnd t hit (mp _ (lcE_map _ _ (fun _ => rfl) hel))) rfl) ?_) rfl)) rfl)
        rw [allE_map, ha]
      | true =>
        rw [ex, ha]
        have hh := heads_gv ha
        have hun : unlF [.tup t] = some (.bl (decide ((t.map fun x => sx (frst x)).Nodup))) := by
          show (if t.length ≤ 900 then (heads t).map fun xs => E.bl (decide xs.Nodup) else none) = _
          rw [if_pos hz, hh]
          rfl
        refine bF rfl (bF (mp true (bnd (E.bl true) (bnd [E.lst (t.map fun x => .bl (givenE x))] (bnd (E.lst (t.map fun x => .bl (givenE x))) (bnd t hit (mp _ (lcE_map _ _ (fun _ => rfl) hel))) rfl) ?_) rfl)) (mp _ (bnd (E.bl (decide ((t.map fun x => sx (frst x)).Nodup))) (bnd [.tup t] rfl hun) rfl)))
        rw [allE_map, ha]
    | ins _ _ _ => cases dg
    | _ => rfl
  case hT =>
    intro hb2 d H' m' hd' hx'
    have hb2 : gvsE g = false := by simpa using hb2
    refine hex "given" (by simp [kindE, hb, hb2]) d H' (m1.trans m') (same_none m1 hd') hx'
  intro hb2 H2 m2
  have hb2 : gvsE g = true := by simpa using hb2
  have m12 := m1.trans m2
  have he := he.keepS m2
  have hf := hf.same m2
  cases g with
  | tup t =>
    obtain ⟨ga, gd⟩ := Bool.and_eq_true_iff.mp hb2
    obtain ⟨dg1, dg2⟩ := Bool.and_eq_true_iff.mp dg
    have hz : t.length ≤ 900 := of_decide_eq_true dg2
    have hit : (if t.length ≤ 900 then some t else none) = some t := if_pos hz
    have rows := gv_rows ga
    apply step_par (he := he) (hf := hf) (d := .lst (nmsE (.tup t))) (d2 := .lst (plsE (.tup t)))
    case pu => (repeat' first
    | with_reducible exact pu_var _ | with_reducible exact pu_non | with_reducible exact pu_bl _ | with_reducible exact pu_int _ | with_reducible exact pu_nil | with_reducible exact pu_next | with_reducible exact pu_yes
    | with_reducible apply pu_seq | with_reducible apply pu_ifS | with_reducible apply pu_ret | with_reducible apply pu_asg
    | with_reducible apply pu_and | with_reducible apply pu_or | with_reducible apply pu_not | with_reducible apply pu_test | with_reducible apply pu_b
    | with_reducible apply pu_andV | with_reducible apply pu_orV | with_reducible apply pu_notV | with_reducible apply pu_if
    | with_reducible apply pu_isi hC | with_reducible apply pu_cb (hr := pu_len) | with_reducible apply pu_cb (hr := pu_all) | with_reducible apply pu_cb (hr := pu_any) | with_reducible apply pu_cb (hr := pu_tupOf) | with_reducible apply pu_cb (hr := pu_lstOf)
    
    | with_reducible apply pu_op (hr := pu_ixT) | with_reducible apply pu_op (hr := pu_ixL) | with_reducible apply pu_op (hr := pu_eqS) | with_reducible apply pu_op (hr := pu_neS) | with_reducible apply pu_op (hr := pu_in) | with_reducible apply pu_op (hr := pu_isNo) | with_reducible apply pu_op (hr := pu_notNo)
    | with_reducible apply pu_op (hr := pu_cm) | with_reducible apply pu_op (hr := pu_ar) | with_reducible apply pu_op (hr := pu_eqP) | with_reducible apply pu_op (hr := pu_neP) | with_reducible apply pu_op (hr := pu_catT) | with_reducible apply pu_op (hr := pu_catL)
    | with_reducible apply pu_chain pu_cm pu_cm | with_reducible apply pu_lcV | with_reducible apply pu_dcV | with_reducible apply pu_iTup | with_reducible apply pu_iLst
    | with_reducible apply pu_slT | with_reducible apply pu_slL | with_reducible exact pu_noPart | with_reducible exact pu_part _
    | exact pu_str _ ⟨by decide +kernel, by decide +kernel⟩ | with_reducible apply pu_call | with_reducible apply pu_tup | with_reducible apply pu_lst | with_reducible apply pu_cons | (with_reducible_and_instances rfl) | rfl)
    case e =>
      have l1 : ∀ x ∈ t, ixT x (.int 0) = some (frst x) := fun x hx => by
        obtain ⟨y, b, c, d, rfl, _⟩ := rows x hx
        exact ix0 _ _
      have l2 : ∀ x ∈ t, (((ixT x (.int 3)).bind fun d => (some E.non).bind fun e => isNo d e).bind toB) = some (plnE x) := fun x hx => by
        obtain ⟨y, b, c, d, rfl, _⟩ := rows x hx
        refine bnd (E.bl (plnE (.tup [.str y, b, c, d]))) (bnd d (by simp [ixT, atI, ixN]) ?_) rfl
        cases d <;> rfl
      refine bnd (E.lst (nmsE (.tup t))) (bnd t hit (mp _ (lcE_map _ _ (fun _ => rfl) l1))) (mp [E.lst (plsE (.tup t))] (bnd (E.lst (plsE (.tup t))) (bnd t hit (mp _ (lcE_filter _ _ _ l2 fun x hx _ => l1 x hx))) rfl))
    intro v7 v8 H3 m3 r7 r8
    have m13 := m12.trans m3
    have he := ((he.keepS m3).set (i := 7) r7).set (i := 8) r8
    have hf := hf.same m3
    have hns : (nmsE (.tup t)).all strE = true := by
      rw [show nmsE (.tup t) = t.map frst from rfl, List.all_map]
      refine List.all_eq_true.mpr fun x hx => ?_
      obtain ⟨y, b, c, d, rfl, _⟩ := rows x hx
      rfl
    have hps : (plsE (.tup t)).all strE = true := by
      rw [show plsE (.tup t) = (t.filter plnE).map frst from rfl, List.all_map]
      refine List.all_eq_true.mpr fun x hx => ?_
      obtain ⟨y, b, c, d, rfl, _⟩ := rows x (List.mem_filter.mp hx).1
      rfl
    -- what is made
    apply step_raise (he := he) (hf := hf) (b := !(madeE (nmsE (.tup t)) (plsE (.tup t)) m && decide ((itm (.tup t)).length + (itm m).length ≤ 8)))
    case pu => (repeat' first
    | with_reducible exact pu_var _ | with_reducible exact pu_non | with_reducible exact pu_bl _ | with_reducible exact pu_int _ | with_reducible exact pu_nil | with_reducible exact pu_next | with_reducible exact pu_yes
    | with_reducible apply pu_seq | with_reducible apply pu_ifS | with_reducible apply pu_ret | with_reducible apply pu_asg
    | with_reducible apply pu_and | with_reducible apply pu_or | with_reducible apply pu_not | with_reducible apply pu_test | with_reducible apply pu_b
    | with_reducible apply pu_andV | with_reducible apply pu_orV | with_reducible apply pu_notV | with_reducible apply pu_if
    | with_reducible apply pu_isi hC | with_reducible apply pu_cb (hr := pu_len) | with_reducible apply pu_cb (hr := pu_all) | with_reducible apply pu_cb (hr := pu_any) | with_reducible apply pu_cb (hr := pu_tupOf) | with_reducible apply pu_cb (hr := pu_lstOf)
    
    | with_reducible apply pu_op (hr := pu_ixT) | with_reducible apply pu_op (hr := pu_ixL) | with_reducible apply pu_op (hr := pu_eqS) | with_reducible apply pu_op (hr := pu_neS) | with_reducible apply pu_op (hr := pu_in) | with_reducible apply pu_op (hr := pu_isNo) | with_reducible apply pu_op (hr := pu_notNo)
    | with_reducible apply pu_op (hr := pu_cm) | with_reducible apply pu_op (hr := pu_ar) | with_reducible apply pu_op (hr := pu_eqP) | with_reducible apply pu_op (hr := pu_neP) | with_reducible apply pu_op (hr := pu_catT) | with_reducible apply pu_op (hr := pu_catL)
    | with_reducible apply pu_chain pu_cm pu_cm | with_reducible apply pu_lcV | with_reducible apply pu_dcV | with_reducible apply pu_iTup | with_reducible apply pu_iLst
    | with_reducible apply pu_slT | with_reducible apply pu_slL | with_reducible exact pu_noPart | with_reducible exact pu_part _
    | exact pu_str _ ⟨by decide +kernel, by decide +kernel⟩ | with_reducible apply pu_call | with_reducible apply pu_tup | with_reducible apply pu_lst | with_reducible apply pu_cons | (with_reducible_and_instances rfl) | rfl)
    case e =>
      have hm : madeF [m, .lst (nmsE (.tup t)), .lst (plsE (.tup t))] = some (.bl (madeE (nmsE (.tup t)) (plsE (.tup t)) m)) := by
        show (if _ = true then _ else _) = _
        rw [dm1, dm2, dm3, hns, hps]
        rfl
      cases hq : madeE (nmsE (.tup t)) (plsE (.tup t)) m with
      | false =>
        rw [hq] at hm
        exact bT (mp false (bnd (E.bl false) (bnd [m, .lst (nmsE (.tup t)), .lst (plsE (.tup t))] rfl hm) rfl)) rfl
      | true =>
        rw [hq] at hm
        refine bF (mp true (bnd (E.bl true) (bnd [m, .lst (nmsE (.tup t)), .lst (plsE (.tup t))] rfl hm) rfl)) ?_
        cases m with
        | tup l =>
          refine bnd (E.bl (!(decide (t.length + l.length ≤ 8)))) (bnd (E.int ((t.length : Int) + l.length)) rfl ?_) rfl
          show some (E.bl (decide (((t.length : Int) + l.length) > 8))) = _
          rw [← decide_not]
          rw [decide_eq_decide.mpr (show ((t.length : Int) + l.length > 8) ↔ ¬ (t.length + l.length ≤ 8) by omega)]
        | _ => cases hq
    case hT =>
      intro hb3 d H' m' hd' hx'
      have hb3 := bnot_t hb3
      refine hex "made" (by simp only [kindE, hb, hb2, hb3]; simp) d H' (m13.trans m') (same_none m13 hd') hx'
    intro hb3 H4 m4
    have hb3 := bnot_f hb3
    have m14 := m13.trans m4
    have he := he.keepS m4
    have hf := hf.same m4
    -- the single one
    apply step_raise (he := he) (hf := hf) (b := !sngE (nmsE (.tup t)) s')
    case pu => (repeat' first
    | with_reducible exact pu_var _ | with_reducible exact pu_non | with_reducible exact pu_bl _ | with_reducible exact pu_int _ | with_reducible exact pu_nil | with_reducible exact pu_next | with_reducible exact pu_yes
    | with_reducible apply pu_seq | with_reducible apply pu_ifS | with_reducible apply pu_ret | with_reducible apply pu_asg
    | with_reducible apply pu_and | with_reducible apply pu_or | with_reducible apply pu_not | with_reducible apply pu_test | with_reducible apply pu_b
    | with_reducible apply pu_andV | with_reducible apply pu_orV | with_reducible apply pu_notV | with_reducible apply pu_if
    | with_reducible apply pu_isi hC | with_reducible apply pu_cb (hr := pu_len) | with_reducible apply pu_cb (hr := pu_all) | with_reducible apply pu_cb (hr := pu_any) | with_reducible apply pu_cb (hr := pu_tupOf) | with_reducible apply pu_cb (hr := pu_lstOf)
    
    | with_reducible apply pu_op (hr := pu_ixT) | with_reducible apply pu_op (hr := pu_ixL) | with_reducible apply pu_op (hr := pu_eqS) | with_reducible apply pu_op (hr := pu_neS) | with_reducible apply pu_op (hr := pu_in) | with_reducible apply pu_op (hr := pu_isNo) | with_reducible apply pu_op (hr := pu_notNo)
    | with_reducible apply pu_op (hr := pu_cm) | with_reducible apply pu_op (hr := pu_ar) | with_reducible apply pu_op (hr := pu_eqP) | with_reducible apply pu_op (hr := pu_neP) | with_reducible apply pu_op (hr := pu_catT) | with_reducible apply pu_op (hr := pu_catL)
    | with_reducible apply pu_chain pu_cm pu_cm | with_reducible apply pu_lcV | with_reducible apply pu_dcV | with_reducible apply pu_iTup | with_reducible apply pu_iLst
    | with_reducible apply pu_slT | with_reducible apply pu_slL | with_reducible exact pu_noPart | with_reducible exact pu_part _
    | exact pu_str _ ⟨by decide +kernel, by decide +kernel⟩ | with_reducible apply pu_call | with_reducible apply pu_tup | with_reducible apply pu_lst | with_reducible apply pu_cons | (with_reducible_and_instances rfl) | rfl)
    case e =>
      cases s' with
      | non => rfl
      | str y =>
        refine bT rfl (bF rfl ?_)
        refine bnd (E.bl (!(anyIn (nmsE (.tup t)) (.str y)))) ?_ rfl
        show (if (true && (nmsE (.tup t)).all flatE) = true then some (E.bl (!(anyIn (nmsE (.tup t)) (.str y)))) else none) = _
        rw [flat_str hns]
        rfl
      | ins _ _ _ => cases ds1
      | _ => exact bT rfl (bT rfl rfl)
    case hT =>
      intro hb4 d H' m' hd' hx'
      have hb4 : sngE (nmsE (.tup t)) s' = false := by simpa using hb4
      refine hex "single" (by simp only [kindE, hb, hb2, hb3, hb4]; simp) d H' (m14.trans m') (same_none m14 hd') hx'
    intro hb4 H5 m5
    have hb4 : sngE (nmsE (.tup t)) s' = true := by simpa using hb4
    have m15 := m14.trans m5
    have he := he.keepS m5
    have hf := hf.same m5
    -- what is held
    apply step_raise (he := he) (hf := hf) (b := !heldE (nmsE (.tup t)) h')
    case pu => (repeat' first
    | with_reducible exact pu_var _ | with_reducible exact pu_non | with_reducible exact pu_bl _ | with_reducible exact pu_int _ | with_reducible exact pu_nil | with_reducible exact pu_next | with_reducible exact pu_yes
    | with_reducible apply pu_seq | with_reducible apply pu_ifS | with_reducible apply pu_ret | with_reducible apply pu_asg
    | with_reducible apply pu_and | with_reducible apply pu_or | with_reducible apply pu_not | with_reducible apply pu_test | with_reducible apply pu_b
    | with_reducible apply pu_andV | with_reducible apply pu_orV | with_reducible apply pu_notV | with_reducible apply pu_if
    | with_reducible apply pu_isi hC | with_reducible apply pu_cb (hr := pu_len) | with_reducible apply pu_cb (hr := pu_all) | with_reducible apply pu_cb (hr := pu_any) | with_reducible apply pu_cb (hr := pu_tupOf) | with_reducible apply pu_cb (hr := pu_lstOf)
    
    | with_reducible apply pu_op (hr := pu_ixT) | with_reducible apply pu_op (hr := pu_ixL) | with_reducible apply pu_op (hr := pu_eqS) | with_reducible apply pu_op (hr := pu_neS) | with_reducible apply pu_op (hr := pu_in) | with_reducible apply pu_op (hr := pu_isNo) | with_reducible apply pu_op (hr := pu_notNo)
    | with_reducible apply pu_op (hr := pu_cm) | with_reducible apply pu_op (hr := pu_ar) | with_reducible apply pu_op (hr := pu_eqP) | with_reducible apply pu_op (hr := pu_neP) | with_reducible apply pu_op (hr := pu_catT) | with_reducible apply pu_op (hr := pu_catL)
    | with_reducible apply pu_chain pu_cm pu_cm | with_reducible apply pu_lcV | with_reducible apply pu_dcV | with_reducible apply pu_iTup | with_reducible apply pu_iLst
    | with_reducible apply pu_slT | with_reducible apply pu_slL | with_reducible exact pu_noPart | with_reducible exact pu_part _
    | exact pu_str _ ⟨by decide +kernel, by decide +kernel⟩ | with_reducible apply pu_call | with_reducible apply pu_tup | with_reducible apply pu_lst | with_reducible apply pu_cons | (with_reducible_and_instances rfl) | rfl)
    case e =>
      refine mp (heldE (nmsE (.tup t)) h') (bnd (E.bl (heldE (nmsE (.tup t)) h')) (bnd [h', .lst (nmsE (.tup t))] rfl ?_) rfl)
      show (if _ = true then _ else _) = _
      rw [dh1, dh2, hns]
      rfl
    case hT =>
      intro hb5 d H' m' hd' hx'
      have hb5 : heldE (nmsE (.tup t)) h' = false := by simpa using hb5
      refine hex "holds" (by simp only [kindE, hb, hb2, hb3, hb4, hb5]; simp) d H' (m15.trans m') (same_none m15 hd') hx'
    intro hb5 H6 m6
    have hb5 : heldE (nmsE (.tup t)) h' = true := by simpa using hb5
    have m16 := m15.trans m6
    have hx6 := m16 _ _ hx
    refine ⟨v1, rfl, .ref x, rfl, x, CK, dx, [], rfl, hx6, cK, nA _ (by decide), by decide, ?_⟩
    refine ⟨v2, rfl, .ref x, rfl, x, CK, dx, _, rfl, upd_same, cK, nA _ (by decide), (by show 1 < 1000; decide), ?_⟩
    refine ⟨v3, rfl, .ref x, rfl, x, CK, dx, _, rfl, upd_same, cK, nA _ (by decide), (by show 2 < 1000; decide), ?_⟩
    refine ⟨v4, rfl, .ref x, rfl, x, CK, dx, _, rfl, upd_same, cK, nA _ (by decide), (by show 3 < 1000; decide), ?_⟩
    refine ⟨v5, rfl, .ref x, rfl, x, CK, dx, _, rfl, upd_same, cK, nA _ (by decide), (by show 4 < 1000; decide), ?_⟩
    refine hok (by simp only [kindE, hb, hb2, hb3, hb4, hb5]; simp) _ (fun b o hb' nb => ?_) ?_
    · rw [upd_ne nb, upd_ne nb, upd_ne nb, upd_ne nb, upd_ne nb]
      exact m16 _ _ hb'
    · rw [upd_same]
      rfl
  | _ => cases hb2
end
end K05

namespace K05
open PySem L2 XR VT ET
abbrev sEq : Stmt := top 12
theorem valV_at {kvs : List (L2.Key × V)} (nd : (kvs.map (·.1)).Nodup) : ∀ {i : Nat} {k : L2.Key} {v : V}, kvs[i]? = some (k, v) → valV kvs k = some v := by
  induction kvs with
  | nil => intro i k v h; simp at h
  | cons p r ih =>
    intro i k v h
    obtain ⟨k0, v0⟩ := p
    rw [List.map_cons, List.nodup_cons] at nd
    cases i with
    | zero =>
      simp at h
      obtain ⟨rfl, rfl⟩ := h
      simp [valV]
    | succ i =>
      have h' : r[i]? = some (k, v) := by simpa using h
      have hm : k ∈ r.map (·.1) := List.mem_map.mpr ⟨(k, v), List.mem_of_getElem? h', rfl⟩
      have hne : ¬ k0 = k := fun z => nd.1 (z ▸ hm)
      have := ih nd.2 h'
      unfold valV at this ⊢
      rw [List.find?_cons_of_neg (by simpa using hne)]
      exact this
theorem nodup_at {α : Type} {l : List α} (hN : l.Nodup) {i j : Nat} {x : α} (a : l[i]? = some x) (b : l[j]? = some x) : i = j := by
  obtain ⟨h1, e1⟩ := List.getElem?_eq_some_iff.mp a
  obtain ⟨h2, e2⟩ := List.getElem?_eq_some_iff.mp b
  exact (List.getElem_inj hN).mp (e1.trans e2.symm)
theorem valV_take {kvs : List (L2.Key × V)} (nd : (kvs.map (·.1)).Nodup) {i : Nat} {k : L2.Key} {v : V} (h : kvs[i]? = some (k, v)) (g : L2.Key × V → L2.Key × V) (hg : ∀ p, (g p).1 = p.1) : valV ((kvs.take i).map g) k = none := by
  have hi : i < kvs.length := (List.getElem?_eq_some_iff.mp h).1
  unfold valV
  rw [Option.map_eq_none_iff, List.find?_eq_none]
  intro q hq z
  obtain ⟨p, hp, rfl⟩ := List.mem_map.mp hq
  have z' : p.1 = k := by
    rw [← hg p]
    simpa using z
  obtain ⟨j, hj⟩ := List.mem_iff_getElem?.mp hp
  have hj1 : j < i := by
    have := (List.getElem?_eq_some_iff.mp hj).1
    rw [List.length_take] at this
    omega
  rw [List.getElem?_take_of_lt hj1] at hj
  have e1 : (kvs.map (·.1))[j]? = some k := by rw [List.getElem?_map, hj]; exact congrArg some z'
  have e2 : (kvs.map (·.1))[i]? = some k := by rw [List.getElem?_map, h]; rfl
  have := nodup_at nd e1 e2
  omega
theorem tk_next {α : Type} {l : List α} {i : Nat} {x : α} (h : l[i]? = some x) : l.take (i + 1) = l.take i ++ [x] := by
  rw [List.take_succ, h]
  rfl
theorem valV_no {kvs : List (L2.Key × V)} {k : L2.Key} (h : k ∉ kvs.map (·.1)) : valV kvs k = none := by
  unfold valV
  rw [Option.map_eq_none_iff, List.find?_eq_none]
  intro q hq z
  have z' : q.1 = k := by simpa using z
  exact h (List.mem_map.mpr ⟨q, hq, z'⟩)
theorem mk_keys {ks : List L2.Key} {vs : List V} (h : ks.length = vs.length) : (mk ks vs).map (·.1) = ks := by
  show (ks.zip vs).map Prod.fst = ks
  exact List.map_fst_zip (by omega)
def txB (x : Str) : Bool := PyData.strOk x && decide (x.length ≤ 2000000)
theorem tx_of {x : Str} (h : txB x = true) : TxOk x := ⟨(Bool.and_eq_true_iff.mp h).1, of_decide_eq_true (Bool.and_eq_true_iff.mp h).2⟩
def keyB : L2.Key → Bool
  | .inr x => txB x
  | _ => false
mutual
/-- what are_equal is asked of -/
def qd : E → Bool
  | .tup l => qdL l
  | .map ks ds => ks.all keyB && ds.all flatE
  | .lst _ => false
  | .ins _ _ _ => false
  | _ => true
def qdL : List E → Bool
  | [] => true
  | d :: l => qd d && qdL l
end
theorem qdL_mem : ∀ {l : List E} {d : E}, qdL l = true → d ∈ l → qd d = true
  | x :: l, d, h, hd => by
    obtain ⟨h1, h2⟩ := Bool.and_eq_true_iff.mp (show (qd x && qdL l) = true from h)
    rcases List.mem_cons.mp hd with rfl | hd
    · exact h1
    · exact qdL_mem h2 hd
theorem plL_of : ∀ {l : List E}, (∀ d ∈ l, pl d = true) → plL l = true
  | [], _ => rfl
  | d :: l, h => Bool.and_eq_true_iff.mpr ⟨h d List.mem_cons_self, plL_of fun e he => h e (List.mem_cons_of_mem _ he)⟩
theorem flat_pl {d : E} (h : flatE d = true) : pl d = true := by cases d <;> first | rfl | cases h
theorem qd_pl : ∀ {n : Nat} {d : E}, dep d < n → qd d = true → pl d = true
  | n + 1, .tup l, hn, h => plL_of fun d hd => qd_pl (n := n) (by have := dep_mem hd; have : depL l + 1 < n + 1 := hn; omega) (qdL_mem h hd)
  | n, .map ks ds, _, h => plL_of fun d hd => flat_pl (List.all_eq_true.mp (Bool.and_eq_true_iff.mp (show (ks.all keyB && ds.all flatE) = true from h)).2 d hd)
  | _, .lst _, _, h => by cases h
  | _, .ins _ _ _, _, h => by cases h
  | _, .non, _, _ => rfl
  | _, .bl _, _, _ => rfl
  | _, .int _, _, _ => rfl
  | _, .str _, _, _ => rfl
theorem flat_qd {d : E} (h : flatE d = true) : qd d = true := by cases d <;> first | rfl | cases h
theorem flat_dep {d : E} (h : flatE d = true) : dep d = 0 := by cases d <;> first | rfl | cases h
def getE (ks : List L2.Key) (ds : List E) (k : L2.Key) : E := match (ks.zip ds).find? (fun p => decide (p.1 = k)) with
  | some p => p.2
  | none => .non
theorem get_ok : ∀ {ks : List L2.Key} {ds : List E} {k : L2.Key}, ks.length = ds.length → ks.Nodup → k ∈ ks → ∃ j : Nat, ks[j]? = some k ∧ ds[j]? = some (getE ks ds k)
  | k0 :: ks, d0 :: ds, k, hl, nd, hm => by
    by_cases e : k0 = k
    · refine ⟨0, by rw [e]; rfl, ?_⟩
      unfold getE
      rw [show (k0 :: ks).zip (d0 :: ds) = (k0, d0) :: ks.zip ds from rfl, List.find?_cons_of_pos (by simpa using e)]
      rfl
    · have hm' : k ∈ ks := by
        rcases List.mem_cons.mp hm with h | h
        · exact absurd h.symm e
        · exact h
      obtain ⟨j, h1, h2⟩ := get_ok (Nat.succ.inj hl) (List.nodup_cons.mp nd).2 hm'
      refine ⟨j + 1, h1, ?_⟩
      have : getE (k0 :: ks) (d0 :: ds) k = getE ks ds k := by
        unfold getE
        rw [show (k0 :: ks).zip (d0 :: ds) = (k0, d0) :: ks.zip ds from rfl, List.find?_cons_of_neg (by simpa using e)]
      rw [this]
      exact h2
  | [], _, k, _, _, hm => by cases hm
  | _ :: _, [], k, hl, _, _ => by cases hl
def scE : E → E → Bool
  | .non, .non => true
  | .bl a, .bl b => decide (a = b)
  | .int a, .int b => decide (a = b)
  | .str a, .str b => decide (a = b)
  | _, _ => false
def hasK (ks : List L2.Key) (k : L2.Key) : Bool := ks.any fun q => decide (q = k)
theorem hasK_iff {ks : List L2.Key} {k : L2.Key} : hasK ks k = true ↔ k ∈ ks := by
  unfold hasK
  rw [List.any_eq_true]
  exact ⟨fun ⟨x, h1, h2⟩ => of_decide_eq_true h2 ▸ h1, fun h => ⟨k, h, decide_eq_true rfl⟩⟩
def mapEq (q : E → E → Bool) (ks : List L2.Key) (ds : List E) (ks' : List L2.Key) (ds' : List E) : Bool := decide (ds.length = ds'.length) && (ks.all (hasK ks') && (ks.zip ds).all fun p => q p.2 (getE ks' ds' p.1))
def tupEq (q : E → E → Bool) (l m : List E) : Bool := decide (l.length = m.length) && (l.zip m).all fun p => q p.1 p.2
def eqC (q : E → E → Bool) : E → E → Bool
  | .map ks ds, .map ks' ds' => mapEq q ks ds ks' ds'
  | .tup l, .tup m => tupEq q l m
  | d, e => scE d e
def eqE : Nat → E → E → Bool
  | 0, _, _ => false
  | n + 1, d, e => decide (sortE d = sortE e) && eqC (eqE n) d e
def eqF (n : Nat) : List E → Option E
  | [d, e] => if (qd d && qd e && decide (dep d < n) && decide (dep e < n)) = true then some (.bl (eqE n d e)) else none
  | _ => none
theorem eqF_len {n : Nat} (ds : List E) (d : E) (h : eqF n ds = some d) : ds.length = 2 := by
  unfold eqF at h
  split at h
  · rfl
  · cases h
theorem eqF_at {n : Nat} {d e : E} (h1 : qd d = true) (h2 : qd e = true) (h3 : dep d < n) (h4 : dep e < n) : eqF n [d, e] = some (.bl (eqE n d e)) := by
  show (if _ = true then _ else _) = _
  rw [h1, h2, decide_eq_true h3, decide_eq_true h4]
  rfl
def dictFn (n : Nat) (env : List (Option E)) : Option (E ⊕ List (Option E)) := match env with
  | [some (.map ks ds), some (.map ks' ds'), _, _, _, _] => if (qd (.map ks ds) && qd (.map ks' ds') && decide (1 ≤ n)) = true then some (.inl (.bl (mapEq (eqE n) ks ds ks' ds'))) else none
  | _ => none
theorem flat_any {H H' : Hp} {v : V} {d : E} (r : Rp H v d) (h : flatE d = true) : Rp H' v d := by
  cases r with
  | non => exact .non
  | bl b => exact .bl b
  | int i => exact .int i
  | str x hx => exact .str x hx
  | _ => cases h
theorem eqE_str {n : Nat} (h : 1 ≤ n) (x : Str) : eqE n (.str x) (.str x) = true := by
  cases n with
  | zero => cases h
  | succ n =>
    show (decide (("text" : Str) = "text") && decide (x = x)) = true
    rw [decide_eq_true rfl, decide_eq_true rfl]
    rfl
theorem isC_no {CS : List Addr} {sb : Addr → Bool} {d : E} (h : qd d = true) : isC CS sb d = some (.bl false) := by cases d <;> first | rfl | cases h
theorem isL_no {CS : List Addr} {d : E} (h : qd d = true) : isT CS "list" d = some (.bl false) := by cases d <;> first | rfl | cases h
theorem lcZ_all {fe : FE} {env : List (Option E)} {i j : Nat} (q : E → E → Bool) : ∀ {l m : List E}, l.length = m.length → (∀ x y, x ∈ l → y ∈ m → fe ((env.set i (some x)).set j (some y)) = some (.bl (q x y))) → lcZ fe env i j l m = some ((l.zip m).map fun p => q p.1 p.2)
  | [], [], _, _ => rfl
  | x :: l, y :: m, hl, h => by
    rw [lcZ, h x y List.mem_cons_self List.mem_cons_self, Option.bind_some]
    show (some (q x y)).bind _ = _
    rw [Option.bind_some, lcZ_all q (Nat.succ.inj hl) fun a b ha hb => h a b (List.mem_cons_of_mem _ ha) (List.mem_cons_of_mem _ hb)]
    rfl
theorem lkd {G : Hp} {a b : Addr} {o : Obj} {k k' : List (L2.Key × V)} (h1 : G a = some (.dK k)) (h2 : G b = some (.dK k')) {H : Hp} (m : Same (upd G a (.frz o (.dK k))) H) : H b = some (.dK k') ∨ ∃ od, H b = some (.frz od (.dK k')) := by
  by_cases e : b = a
  · subst e
    rw [h1] at h2
    cases h2
    exact .inr ⟨o, m _ _ upd_same⟩
  · exact .inl (m _ _ (by rw [upd_ne e]; exact h2))
section
variable {P : Program} {w : World} {K : PySem.W.Frag} {mg : Str → Option Value} {base : Heap}
variable {CS : List Addr}
theorem scEq : FnScope ["one", "other", "twins", "key", "mine", "its"] ["one", "other"] (defScope sEq) := ⟨rfl, rfl, rfl, by decide +kernel, rfl, by decide +kernel, by decide +kernel⟩
theorem ok_eq {f fS CV CU : Addr} {fd dS : FuncData} {n k : Nat} {sbV sbU : Addr → Bool} (F : Fun K "are_equal" "are_equal" sEq f fd) (T : Txt mg) (hC : ∀ C ∈ CS, CF K C)
    (gVa : mg "Valued" = some (.ref CV)) (gUn : mg "Unknown" = some (.ref CU))
    (oV : ∀ C ∈ CS, PySem.W.kitOne K (.ref C) (.ref CV) = some (sbV C)) (bV : ∀ t ∈ ["NoneType", "bool", "int", "str", "tuple", "dict", "list"], PySem.W.kitOne K (.type t) (.ref CV) = some false)
    (oU : ∀ C ∈ CS, PySem.W.kitOne K (.ref C) (.ref CU) = some (sbU C)) (bU : ∀ t ∈ ["NoneType", "bool", "int", "str", "tuple", "dict", "list"], PySem.W.kitOne K (.type t) (.ref CU) = some false)
    (GS : FnOk P w K mg base CX0 3 fS dS ["value"] (spP (d1 fun d => .str (sortE d)))) (gS : mg "sort_of" = some (.ref fS)) (kS : PySem.W.keepIn K (.ref fS) = true) (bS : Binds K dS ["value"] []) (hk : 3 ≤ k)
    (gE : mg "are_equal" = some (.ref f)) (bE : Binds K fd ["one", "other"] []) (GE : FnOk P w K mg base CX0 k f fd ["one", "other"] (spP (eqF n))) : FnOk P w K mg base CX0 (k + 1) f fd ["one", "other"] (spP (eqF (n + 1))) := by
  have kE := F.kp
  refine F.ok scEq (fun vs H Q E0 h => spP_len eqF_len h) (fun cdv A outer s H vs Q E0 hr h => ?_)
  have hu := hu_of hr
  have hrS : Room 3 _ := hr.mono hk
  refine ⟨_, (pss_cons (ps_if (PW.pt (pw_or (pt_val (pe_callB (call_isiK (K := K) rfl) (by rfl) T.isi (by decide +kernel) (pa_cons (pv 0) (pa_cons (pe_glob (v := .ref CV) rfl gVa rfl) pa_nil)))) (pw_or1 (pt_val (pe_callB (call_isiK (K := K) rfl) (by rfl) T.isi (by decide +kernel) (pa_cons (pv 1) (pa_cons (pe_glob (v := .ref CV) rfl gVa rfl) pa_nil))))))) (pss_one (ps_ret (pe_and (pe_callB (call_isiK (K := K) rfl) (by rfl) T.isi (by decide +kernel) (pa_cons (pv 0) (pa_cons (pe_glob (v := .ref CV) rfl gVa rfl) pa_nil))) (pe_one (pe_cmpR op_eq (pv 0) (pv 1) (nomark _)))))) pss_nil)
      (pss_cons (ps_if (PW.pt (pw_or (pt_val (pe_callB (call_isiK (K := K) rfl) (by rfl) T.isi (by decide +kernel) (pa_cons (pv 0) (pa_cons (pe_glob (v := .ref CU) rfl gUn rfl) pa_nil)))) (pw_or1 (pt_val (pe_callB (call_isiK (K := K) rfl) (by rfl) T.isi (by decide +kernel) (pa_cons (pv 1) (pa_cons (pe_glob (v := .ref CU) rfl gUn rfl) pa_nil))))))) (pss_one (ps_ret (pe_and (pe_callB (call_isiK (K := K) rfl) (by rfl) T.isi (by decide +kernel) (pa_cons (pv 0) (pa_cons (pe_glob (v := .ref CU) rfl gUn rfl) pa_nil))) (pe_one (pe_cmpR op_eq (pv 0) (pv 1) (nomark _)))))) pss_nil)
      (pss_cons (ps_if (PW.pt (pw_or (pt_val (pe_callB (call_isiK (K := K) rfl) (by rfl) T.isi (by decide +kernel) (pa_cons (pv 0) (pa_cons (pe_bltn (v := .ty "list") (by rfl) T.list (by decide +kernel) rfl) pa_nil)))) (pw_or1 (pt_val (pe_callB (call_isiK (K := K) rfl) (by rfl) T.isi (by decide +kernel) (pa_cons (pv 1) (pa_cons (pe_bltn (v := .ty "list") (by rfl) T.list (by decide +kernel) rfl) pa_nil))))))) (pss_one (ps_ret (pe_and (pe_callB (call_isiK (K := K) rfl) (by rfl) T.isi (by decide +kernel) (pa_cons (pv 0) (pa_cons (pe_bltn (v := .ty "list") (by rfl) T.list (by decide +kernel) rfl) pa_nil))) (pe_and (pe_callB (call_isiK (K := K) rfl) (by rfl) T.isi (by decide +kernel) (pa_cons (pv 1) (pa_cons (pe_bltn (v := .ty "list") (by rfl) T.list (by decide +kernel) rfl) pa_nil))) (pe_one (pe_call GE hr rfl gE kE bE .nil pass0 (pa_cons (pe_callTy (call_tupK (K := K) rfl) (by rfl) T.tuple (by decide +kernel) (pa_cons (pv 0) pa_nil)) (pa_cons (pe_callTy (call_tupK (K := K) rfl) (by rfl) T.tuple (by decide +kernel) (pa_cons (pv 1) pa_nil)) pa_nil)))))))) pss_nil)
      (pss_cons (ps_if (pt_cmpR op_ne (pe_call GS hrS rfl gS kS bS .nil pass0 (pa_cons (pv 0) pa_nil)) (pe_call GS hrS rfl gS kS bS .nil pass0 (pa_cons (pv 1) pa_nil)) (nomark _)) (pss_one (ps_ret pe_bl)) pss_nil)
      (pss_cons (ps_if (pt_val (pe_callB (call_isiK (K := K) rfl) (by rfl) T.isi (by decide +kernel) (pa_cons (pv 0) (pa_cons (pe_bltn (v := .ty "dict") (by rfl) T.dict (by decide +kernel) rfl) pa_nil)))) (pss_cons (ps_set (i := 2) scEq.nd rfl (Or.inr rfl) (pe_lock (pe_dc (own := [("key", 3)]) (g := gName 3) (tt := tYes) rfl scEq.nd (pi_keys (pv 1)) (blkOk_by (own := [("key", 3)]) (N := ["one", "other", "twins", "key", "mine", "its"]) (sc := (defScope sEq)) (by decide +kernel)) (fun _ _ _ _ _ => pg_name (i := 3) scEq.nd rfl (Or.inl rfl)) (fun _ _ _ _ _ => pts_nil) (fun _ _ _ _ _ => (pv 3)) (fun _ _ _ _ _ => (pv 3)))))
        (pss_cons (ps_if (PW.pt (pw_or (pt_cmpR op_ne (pe_callB (call_lenK (K := K) rfl) (by rfl) T.len (by decide +kernel) (pa_cons (pv 0) pa_nil)) (pe_callB (call_lenK (K := K) rfl) (by rfl) T.len (by decide +kernel) (pa_cons (pv 1) pa_nil)) (nomark _)) (pw_or1 (pt_not (pt_val (pe_callB (cr_allK (K := K) rfl rfl) (by rfl) T.all (by decide +kernel) (pa_cons (pe_lock (pe_lc (own := [("key", 3)]) (g := gName 3) (tt := tYes) rfl scEq.nd (pi_keys (pv 0)) (blkOk_by (own := [("key", 3)]) (N := ["one", "other", "twins", "key", "mine", "its"]) (sc := (defScope sEq)) (by decide +kernel)) (fun _ _ _ _ _ => pg_name (i := 3) scEq.nd rfl (Or.inl rfl)) (fun _ _ _ _ _ => pts_nil) (fun _ _ _ _ _ => (pe_and (pe_cmp (pc_din hu (pv 3) (pv 2)) (by rfl)) (pe_one (pe_call GE hr rfl gE kE bE .nil pass0 (pa_cons (pv 3) (pa_cons (pe_dget hu (pv 2) (pv 3) (fun _ _ => rfl)) pa_nil)))))))) pa_nil))))))) (pss_one (ps_ret pe_bl)) pss_nil)
        (pss_one (ps_ret (pe_callB (cr_allK (K := K) rfl rfl) (by rfl) T.all (by decide +kernel) (pa_cons (pe_lock (pe_lc (own := [("key", 3)]) (g := gName 3) (tt := tYes) rfl scEq.nd (pi_keys (pv 0)) (blkOk_by (own := [("key", 3)]) (N := ["one", "other", "twins", "key", "mine", "its"]) (sc := (defScope sEq)) (by decide +kernel)) (fun _ _ _ _ _ => pg_name (i := 3) scEq.nd rfl (Or.inl rfl)) (fun _ _ _ _ _ => pts_nil) (fun _ _ _ _ _ => (pe_call GE hr rfl gE kE bE .nil pass0 (pa_cons (pe_dget hu (pv 0) (pv 3) (fun _ _ => rfl)) (pa_cons (pe_dget hu (pv 1) (pv 3) (fun _ _ => rfl)) pa_nil)))))) pa_nil)))))) pss_nil)
      (pss_cons (ps_if (pt_val (pe_callB (call_isiK (K := K) rfl) (by rfl) T.isi (by decide +kernel) (pa_cons (pv 0) (pa_cons (pe_bltn (v := .ty "tuple") (by rfl) T.tuple (by decide +kernel) rfl) pa_nil)))) (pss_one (ps_ret (pe_and (pe_cmpR op_eq (pe_callB (call_lenK (K := K) rfl) (by rfl) T.len (by decide +kernel) (pa_cons (pv 0) pa_nil)) (pe_callB (call_lenK (K := K) rfl) (by rfl) T.len (by decide +kernel) (pa_cons (pv 1) pa_nil)) (nomark _)) (pe_one (pe_callB (cr_allK (K := K) rfl rfl) (by rfl) T.all (by decide +kernel) (pa_cons (pe_lc (own := [("mine", 4), ("its", 5)]) (g := gTup K 2 (gCons (gName 4) (gCons (gName 5) gNil))) (tt := tYes) rfl scEq.nd (pi_zipAK (K := K) rfl (by rfl) T.zip (pa_cons (pv 0) (pa_cons (pv 1) pa_nil))) (blkOk_by (own := [("mine", 4), ("its", 5)]) (N := ["one", "other", "twins", "key", "mine", "its"]) (sc := (defScope sEq)) (by decide +kernel)) (fun _ _ _ _ _ => (pg_tup rfl (pgs_cons (pg_name (i := 4) scEq.nd rfl (Or.inl rfl)) (pgs_cons (pg_name (i := 5) scEq.nd rfl (Or.inl rfl)) pgs_nil)))) (fun _ _ _ _ _ => pts_nil) (fun _ _ _ _ _ => (pe_call GE hr rfl gE kE bE .nil pass0 (pa_cons (pv 4) (pa_cons (pv 5) pa_nil))))) pa_nil)))))) pss_nil)
      (pss_one (ps_ret (pe_cmpR op_eq (pv 0) (pv 1) (nomark _)))))))))), ?_⟩
  apply pu_def (h := h)
  case pu =>
    apply pu_seq
    · (repeat' first
    | with_reducible exact pu_var _ | with_reducible exact pu_non | with_reducible exact pu_bl _ | with_reducible exact pu_int _ | with_reducible exact pu_nil | with_reducible exact pu_next | with_reducible exact pu_yes
    | with_reducible apply pu_seq | with_reducible apply pu_ifS | with_reducible apply pu_ret | with_reducible apply pu_asg
    | with_reducible apply pu_and | with_reducible apply pu_or | with_reducible apply pu_not | with_reducible apply pu_test | with_reducible apply pu_b
    | with_reducible apply pu_andV | with_reducible apply pu_orV | with_reducible apply pu_notV | with_reducible apply pu_if
    | with_reducible apply pu_isi hC | with_reducible apply pu_cb (hr := pu_len) | with_reducible apply pu_cb (hr := pu_all) | with_reducible apply pu_cb (hr := pu_any) | with_reducible apply pu_cb (hr := pu_tupOf) | with_reducible apply pu_cb (hr := pu_lstOf)
    | with_reducible apply pu_isC hC oV bV
    | with_reducible apply pu_isC hC oU bU
    | with_reducible apply pu_lcZ (i := 4) (j := 5) (hij := by decide)
    | with_reducible apply pu_op (hr := pu_ixT) | with_reducible apply pu_op (hr := pu_ixL) | with_reducible apply pu_op (hr := pu_eqS) | with_reducible apply pu_op (hr := pu_neS) | with_reducible apply pu_op (hr := pu_in) | with_reducible apply pu_op (hr := pu_isNo) | with_reducible apply pu_op (hr := pu_notNo)
    | with_reducible apply pu_op (hr := pu_cm) | with_reducible apply pu_op (hr := pu_ar) | with_reducible apply pu_op (hr := pu_eqP) | with_reducible apply pu_op (hr := pu_neP) | with_reducible apply pu_op (hr := pu_catT) | with_reducible apply pu_op (hr := pu_catL)
    | with_reducible apply pu_chain pu_cm pu_cm | with_reducible apply pu_lcV | with_reducible apply pu_dcV | with_reducible apply pu_iTup | with_reducible apply pu_iLst
    | with_reducible apply pu_slT | with_reducible apply pu_slL | with_reducible exact pu_noPart | with_reducible exact pu_part _
    | exact pu_str _ ⟨by decide +kernel, by decide +kernel⟩ | with_reducible apply pu_call | with_reducible apply pu_tup | with_reducible apply pu_lst | with_reducible apply pu_cons | (with_reducible_and_instances rfl) | rfl)
    apply pu_seq
    · (repeat' first
    | with_reducible exact pu_var _ | with_reducible exact pu_non | with_reducible exact pu_bl _ | with_reducible exact pu_int _ | with_reducible exact pu_nil | with_reducible exact pu_next | with_reducible exact pu_yes
    | with_reducible apply pu_seq | with_reducible apply pu_ifS | with_reducible apply pu_ret | with_reducible apply pu_asg
    | with_reducible apply pu_and | with_reducible apply pu_or | with_reducible apply pu_not | with_reducible apply pu_test | with_reducible apply pu_b
    | with_reducible apply pu_andV | with_reducible apply pu_orV | with_reducible apply pu_notV | with_reducible apply pu_if
    | with_reducible apply pu_isi hC | with_reducible apply pu_cb (hr := pu_len) | with_reducible apply pu_cb (hr := pu_all) | with_reducible apply pu_cb (hr := pu_any) | with_reducible apply pu_cb (hr := pu_tupOf) | with_reducible apply pu_cb (hr := pu_lstOf)
    | with_reducible apply pu_isC hC oV bV
    | with_reducible apply pu_isC hC oU bU
    | with_reducible apply pu_lcZ (i := 4) (j := 5) (hij := by decide)
    | with_reducible apply pu_op (hr := pu_ixT) | with_reducible apply pu_op (hr := pu_ixL) | with_reducible apply pu_op (hr := pu_eqS) | with_reducible apply pu_op (hr := pu_neS) | with_reducible apply pu_op (hr := pu_in) | with_reducible apply pu_op (hr := pu_isNo) | with_reducible apply pu_op (hr := pu_notNo)
    | with_reducible apply pu_op (hr := pu_cm) | with_reducible apply pu_op (hr := pu_ar) | with_reducible apply pu_op (hr := pu_eqP) | with_reducible apply pu_op (hr := pu_neP) | with_reducible apply pu_op (hr := pu_catT) | with_reducible apply pu_op (hr := pu_catL)
    | with_reducible apply pu_chain pu_cm pu_cm | with_reducible apply pu_lcV | with_reducible apply pu_dcV | with_reducible apply pu_iTup | with_reducible apply pu_iLst
    | with_reducible apply pu_slT | with_reducible apply pu_slL | with_reducible exact pu_noPart | with_reducible exact pu_part _
    | exact pu_str _ ⟨by decide +kernel, by decide +kernel⟩ | with_reducible apply pu_call | with_reducible apply pu_tup | with_reducible apply pu_lst | with_reducible apply pu_cons | (with_reducible_and_instances rfl) | rfl)
    apply pu_seq
    · (repeat' first
    | with_reducible exact pu_var _ | with_reducible exact pu_non | with_reducible exact pu_bl _ | with_reducible exact pu_int _ | with_reducible exact pu_nil | with_reducible exact pu_next | with_reducible exact pu_yes
    | with_reducible apply pu_seq | with_reducible apply pu_ifS | with_reducible apply pu_ret | with_reducible apply pu_asg
    | with_reducible apply pu_and | with_reducible apply pu_or | with_reducible apply pu_not | with_reducible apply pu_test | with_reducible apply pu_b
    | with_reducible apply pu_andV | with_reducible apply pu_orV | with_reducible apply pu_notV | with_reducible apply pu_if
    | with_reducible apply pu_isi hC | with_reducible apply pu_cb (hr := pu_len) | with_reducible apply pu_cb (hr := pu_all) | with_reducible apply pu_cb (hr := pu_any) | with_reducible apply pu_cb (hr := pu_tupOf) | with_reducible apply pu_cb (hr := pu_lstOf)
    | with_reducible apply pu_isC hC oV bV
    | with_reducible apply pu_isC hC oU bU
    | with_reducible apply pu_lcZ (i := 4) (j := 5) (hij := by decide)
    | with_reducible apply pu_op (hr := pu_ixT) | with_reducible apply pu_op (hr := pu_ixL) | with_reducible apply pu_op (hr := pu_eqS) | with_reducible apply pu_op (hr := pu_neS) | with_reducible apply pu_op (hr := pu_in) | with_reducible apply pu_op (hr := pu_isNo) | with_reducible apply pu_op (hr := pu_notNo)
    | with_reducible apply pu_op (hr := pu_cm) | with_reducible apply pu_op (hr := pu_ar) | with_reducible apply pu_op (hr := pu_eqP) | with_reducible apply pu_op (hr := pu_neP) | with_reducible apply pu_op (hr := pu_catT) | with_reducible apply pu_op (hr := pu_catL)
    | with_reducible apply pu_chain pu_cm pu_cm | with_reducible apply pu_lcV | with_reducible apply pu_dcV | with_reducible apply pu_iTup | with_reducible apply pu_iLst
    | with_reducible apply pu_slT | with_reducible apply pu_slL | with_reducible exact pu_noPart | with_reducible exact pu_part _
    | exact pu_str _ ⟨by decide +kernel, by decide +kernel⟩ | with_reducible apply pu_call | with_reducible apply pu_tup | with_reducible apply pu_lst | with_reducible apply pu_cons | (with_reducible_and_instances rfl) | rfl)
    apply pu_seq
    · (repeat' first
    | with_reducible exact pu_var _ | with_reducible exact pu_non | with_reducible exact pu_bl _ | with_reducible exact pu_int _ | with_reducible exact pu_nil | with_reducible exact pu_next | with_reducible exact pu_yes
    | with_reducible apply pu_seq | with_reducible apply pu_ifS | with_reducible apply pu_ret | with_reducible apply pu_asg
    | with_reducible apply pu_and | with_reducible apply pu_or | with_reducible apply pu_not | with_reducible apply pu_test | with_reducible apply pu_b
    | with_reducible apply pu_andV | with_reducible apply pu_orV | with_reducible apply pu_notV | with_reducible apply pu_if
    | with_reducible apply pu_isi hC | with_reducible apply pu_cb (hr := pu_len) | with_reducible apply pu_cb (hr := pu_all) | with_reducible apply pu_cb (hr := pu_any) | with_reducible apply pu_cb (hr := pu_tupOf) | with_reducible apply pu_cb (hr := pu_lstOf)
    | with_reducible apply pu_isC hC oV bV
    | with_reducible apply pu_isC hC oU bU
    | with_reducible apply pu_lcZ (i := 4) (j := 5) (hij := by decide)
    | with_reducible apply pu_op (hr := pu_ixT) | with_reducible apply pu_op (hr := pu_ixL) | with_reducible apply pu_op (hr := pu_eqS) | with_reducible apply pu_op (hr := pu_neS) | with_reducible apply pu_op (hr := pu_in) | with_reducible apply pu_op (hr := pu_isNo) | with_reducible apply pu_op (hr := pu_notNo)
    | with_reducible apply pu_op (hr := pu_cm) | with_reducible apply pu_op (hr := pu_ar) | with_reducible apply pu_op (hr := pu_eqP) | with_reducible apply pu_op (hr := pu_neP) | with_reducible apply pu_op (hr := pu_catT) | with_reducible apply pu_op (hr := pu_catL)
    | with_reducible apply pu_chain pu_cm pu_cm | with_reducible apply pu_lcV | with_reducible apply pu_dcV | with_reducible apply pu_iTup | with_reducible apply pu_iLst
    | with_reducible apply pu_slT | with_reducible apply pu_slL | with_reducible exact pu_noPart | with_reducible exact pu_part _
    | exact pu_str _ ⟨by decide +kernel, by decide +kernel⟩ | with_reducible apply pu_call | with_reducible apply pu_tup | with_reducible apply pu_lst | with_reducible apply pu_cons | (with_reducible_and_instances rfl) | rfl)
    apply pu_seq
    · apply pu_ifS
      · (repeat' first
    | with_reducible exact pu_var _ | with_reducible exact pu_non | with_reducible exact pu_bl _ | with_reducible exact pu_int _ | with_reducible exact pu_nil | with_reducible exact pu_next | with_reducible exact pu_yes
    | with_reducible apply pu_seq | with_reducible apply pu_ifS | with_reducible apply pu_ret | with_reducible apply pu_asg
    | with_reducible apply pu_and | with_reducible apply pu_or | with_reducible apply pu_not | with_reducible apply pu_test | with_reducible apply pu_b
    | with_reducible apply pu_andV | with_reducible apply pu_orV | with_reducible apply pu_notV | with_reducible apply pu_if
    | with_reducible apply pu_isi hC | with_reducible apply pu_cb (hr := pu_len) | with_reducible apply pu_cb (hr := pu_all) | with_reducible apply pu_cb (hr := pu_any) | with_reducible apply pu_cb (hr := pu_tupOf) | with_reducible apply pu_cb (hr := pu_lstOf)
    | with_reducible apply pu_isC hC oV bV
    | with_reducible apply pu_isC hC oU bU
    | with_reducible apply pu_lcZ (i := 4) (j := 5) (hij := by decide)
    | with_reducible apply pu_op (hr := pu_ixT) | with_reducible apply pu_op (hr := pu_ixL) | with_reducible apply pu_op (hr := pu_eqS) | with_reducible apply pu_op (hr := pu_neS) | with_reducible apply pu_op (hr := pu_in) | with_reducible apply pu_op (hr := pu_isNo) | with_reducible apply pu_op (hr := pu_notNo)
    | with_reducible apply pu_op (hr := pu_cm) | with_reducible apply pu_op (hr := pu_ar) | with_reducible apply pu_op (hr := pu_eqP) | with_reducible apply pu_op (hr := pu_neP) | with_reducible apply pu_op (hr := pu_catT) | with_reducible apply pu_op (hr := pu_catL)
    | with_reducible apply pu_chain pu_cm pu_cm | with_reducible apply pu_lcV | with_reducible apply pu_dcV | with_reducible apply pu_iTup | with_reducible apply pu_iLst
    | with_reducible apply pu_slT | with_reducible apply pu_slL | with_reducible exact pu_noPart | with_reducible exact pu_part _
    | exact pu_str _ ⟨by decide +kernel, by decide +kernel⟩ | with_reducible apply pu_call | with_reducible apply pu_tup | with_reducible apply pu_lst | with_reducible apply pu_cons | (with_reducible_and_instances rfl) | rfl)
      · refine (fun Pr σ H env D he hf => ⟨fun c e kk => ?_, fun env' e _ => ?_⟩ : PuS _ (dictFn n))
        case refine_2 =>
          unfold dictFn at e
          split at e
          · split at e <;> cases e
          · cases e
        unfold dictFn at e
        split at e
        case h_2 => cases e
        rename_i ks ds ks' ds' _ _ _ _
        split at e
        case isFalse => cases e
        rename_i hq
        cases e
        simp only [Bool.and_eq_true] at hq
        obtain ⟨⟨q1, q2⟩, q3⟩ := hq
        have q3 : 1 ≤ n := of_decide_eq_true q3
        obtain ⟨q1k, q1v⟩ := Bool.and_eq_true_iff.mp (show (ks.all keyB && ds.all flatE) = true from q1)
        obtain ⟨q2k, q2v⟩ := Bool.and_eq_true_iff.mp (show (ks'.all keyB && ds'.all flatE) = true from q2)
        obtain ⟨v0, s0, r0⟩ := he.2 0 _ rfl
        obtain ⟨v1, s1, r1⟩ := he.2 1 _ rfl
        match σ, he.1 with
        | [a0, a1, a2, a3, a4, a5], _ =>
        cases s0
        cases s1
        cases r0 with
        | @map a vs _ _ h hv hk' hz nd hs =>
        cases r1 with
        | @map b vs' _ _ h' hv' hk2 hz' nd' hs' =>
        have ha := (keep_some h).2
        have hb := (keep_some h').2
        have lk : (mk ks vs).length = ds.length := by rw [mk_length (hk'.trans hv.symm), hk']
        have lk' : (mk ks' vs').length = ds'.length := by rw [mk_length (hk2.trans hv'.symm), hk2]
        have nk : ((mk ks vs).map (·.1)).Nodup := by rw [mk_keys (hk'.trans hv.symm)]; exact nd
        have nk' : ((mk ks' vs').map (·.1)).Nodup := by rw [mk_keys (hk2.trans hv'.symm)]; exact nd'
        have tx : ∀ {j : Nat} {k0 : L2.Key}, ks[j]? = some k0 → ∃ x, k0 = Sum.inr x ∧ TxOk x := fun {j k0} hj => by
          have := List.all_eq_true.mp q1k k0 (List.mem_of_getElem? hj)
          cases k0 with
          | inl i => cases this
          | inr x => exact ⟨x, rfl, tx_of this⟩
        -- twins
        refine ⟨b, _, hb, trivial, fun od => ?_⟩
        refine ⟨_, rfl, b, od, rfl, .inl ⟨_, upd_same, fun D1 hD => ?_⟩⟩
        refine dc_it walk_keys (fun i H2 => Same (upd H b (.frz od (.dK (mk ks' vs')))) H2 ∧ H2 D1 = some (.dK (((mk ks' vs').take i).map fun p => (p.1, kV p.1)))) ⟨same_new hD, upd_same⟩ (fun i H2 _ q => q.1 _ _ upd_same) ?_ ?_
        · rintro i x H2 H3 hi ⟨m, fD⟩ ⟨rfl, k0, v0, ek, rfl⟩
          refine ⟨rfl, _, rfl, _, rfl, _, k0, rfl, fD, ?_, fun b' o q => ?_, ?_⟩
          · rw [List.length_map, List.length_take]
            exact small1000 (by omega)
          · rw [upd_ne (ne_of_none q hD)]
            exact m b' o q
          · have e1 := valV_take nk' ek (fun p => (p.1, kV p.1)) (fun _ => rfl)
            rw [upd_same, putK_new _ e1, tk_next ek, List.map_append]
            rfl
        rintro H2 ⟨m, fD⟩
        rw [List.take_length] at fD
        have nD : D1 ≠ b := fun z => by
          rw [z, upd_same] at hD
          cases hD
        refine ⟨m _ _ upd_same, ?_⟩
        have m1 : Same H (upd H2 b (.dK (mk ks' vs'))) := same_lock hb m
        have g1 : (upd H2 b (.dK (mk ks' vs'))) D1 = some (.dK ((mk ks' vs').map fun p => (p.1, kV p.1))) := by rw [upd_ne nD]; exact fD
        have nDa : D1 ≠ a := fun z => by
          by_cases e : a = b
          · exact nD (z.trans e)
          · rw [z, upd_ne e, ha] at hD
            cases hD
        have d1 := m1 _ _ ha
        have d2 := m1 _ _ hb
        generalize (upd H2 b (.dK (mk ks' vs'))) = G1 at m1 g1 d1 d2 ⊢
        have ndT : (((mk ks' vs').map fun p => (p.1, kV p.1)).map (·.1)).Nodup := by
          rw [List.map_map]
          exact nk'
        have kT : ((mk ks' vs').map fun p => (p.1, kV p.1)).map (·.1) = ks' := by
          rw [List.map_map]
          exact mk_keys (hk2.trans hv'.symm)
        refine ⟨_, rfl, .inr ⟨a, _, rfl, d1, _, rfl, .inr ⟨b, _, rfl, d2, rfl, _, rfl, ?_⟩⟩⟩
        rw [lk, lk']
        by_cases hl : ds.length = ds'.length
        case neg =>
          have z : mapEq (eqE n) ks ds ks' ds' = false := by
            unfold mapEq
            rw [decide_eq_false hl]
            rfl
          rw [z] at kk
          rw [decide_eq_false (fun z => hl (by injection z with z; omega) : ¬ (V.int (ds.length : Int) = V.int (ds'.length : Int)))]
          exact iteT (kk _ _ m1 (.bl _))
        rw [decide_eq_true (by rw [hl] : (V.int (ds.length : Int) = V.int (ds'.length : Int)))]
        refine iteF ?_
        -- the keys
        refine ⟨a, _, d1, trivial, fun oe => ?_⟩
        refine ⟨_, rfl, a, oe, rfl, .inl ⟨_, upd_same, fun D2 hD2 => ?_⟩⟩
        refine lc_pure walk_keys hD2 (ks.map fun k => V.bl (hasK ks' k)) (by rw [List.length_map, lk, hk']) (by rw [lk]; exact small1000 (by omega)) (fun H' m => m _ _ upd_same) (fun i y H4 H5 z hz2 m2 hy N hN => ?_) mono_name (fun H' m2 f2 => ?_)
        · obtain ⟨rfl, k0, v0, ek, rfl⟩ := hy
          obtain ⟨ek1, ek2⟩ := mk_get ek
          rw [List.getElem?_map, ek1] at hz2
          cases hz2
          obtain ⟨x, rfl, tx0⟩ := tx ek1
          have gT := m2 D1 _ (by rw [upd_ne nDa]; exact g1)
          by_cases hm : (Sum.inr x : L2.Key) ∈ ks'
          · obtain ⟨j, j1, j2⟩ := get_ok hk2 nd' hm
            have jl : j < vs'.length := by
              have := (List.getElem?_eq_some_iff.mp j2).1
              omega
            have eT : ((mk ks' vs').map fun p => (p.1, kV p.1))[j]? = some (Sum.inr x, V.str x) := by
              rw [List.getElem?_map, show (mk ks' vs')[j]? = some (Sum.inr x, vs'[j]) from List.getElem?_zip_eq_some.mpr ⟨j1, List.getElem?_eq_getElem jl⟩]
              rfl
            have gv := valV_at ndT eT
            have hN : ∀ H', Same H5 H' → N (.bl (hasK ks' (Sum.inr x))) H' := hN
            rw [hasK_iff.mpr hm] at hN
            refine ⟨rfl, _, rfl, _, rfl, D1, some (.str x), rfl, .inl ⟨_, Sum.inr x, .inl gT, rfl, gv.symm⟩, true, rfl, iteT ?_⟩
            refine ⟨_, rfl, _, rfl, _, rfl, D1, .str x, rfl, .inl ⟨_, Sum.inr x, .inl gT, rfl, gv.symm⟩, ?_⟩
            refine ⟨fun _ => True, [.str x, .str x], .bl true, .cons (.str x tx0) (.cons (.str x tx0) .nil), fun _ _ => trivial, ?_, fun v H6 m6 r6 => ?_⟩
            · rw [eqF_at rfl rfl (show 0 < n from q3) (show 0 < n from q3), eqE_str q3]
            · cases r6
              exact hN H6 m6
          · have hf0 : hasK ks' (Sum.inr x) = false := Bool.eq_false_iff.mpr fun z => hm (hasK_iff.mp z)
            have hN : ∀ H', Same H5 H' → N (.bl (hasK ks' (Sum.inr x))) H' := hN
            rw [hf0] at hN
            exact ⟨rfl, _, rfl, _, rfl, D1, none, rfl, .inl ⟨_, Sum.inr x, .inl gT, rfl, (valV_no (by rw [kT]; exact hm)).symm⟩, false, rfl, iteF (hN _ (fun _ _ z => z))⟩
        have nD2 : D2 ≠ a := fun z => by
          rw [z, upd_same] at hD2
          cases hD2
        refine ⟨m2 _ _ upd_same, ?_⟩
        have m3 : Same G1 (upd H' a (.dK (mk ks vs))) := same_lock d1 m2
        have f3 : (upd H' a (.dK (mk ks vs))) D2 = some (.lst ((ks.map (hasK ks')).map V.bl)) := by
          rw [upd_ne nD2, List.map_map]
          exact f2
        have d3 := m3 _ _ d1
        have d4 := m3 _ _ d2
        generalize (upd H' a (.dK (mk ks vs))) = G3 at m3 f3 d3 d4 ⊢
        refine ⟨D2, _, rfl, SqL.of f3, _, rfl, ?_⟩
        rw [List.all_map]
        have m13 := m1.trans m3
        cases hall : ks.all (hasK ks') with
        | false =>
          have z : mapEq (eqE n) ks ds ks' ds' = false := by
            unfold mapEq
            rw [hall, Bool.false_and, Bool.and_false]
          rw [z] at kk
          rw [show ks.all (id ∘ hasK ks') = false from hall]
          exact iteT (kk _ _ m13 (.bl _))
        | true =>
          rw [show ks.all (id ∘ hasK ks') = true from hall]
          refine iteF ?_
          have z : mapEq (eqE n) ks ds ks' ds' = (ks.zip ds).all fun p => eqE n p.2 (getE ks' ds' p.1) := by
            unfold mapEq
            rw [hall, decide_eq_true hl]
            rfl
          rw [z] at kk
          -- the values
          refine ⟨a, _, d3, trivial, fun og => ?_⟩
          refine ⟨_, rfl, a, og, rfl, .inl ⟨_, upd_same, fun D4 hD4 => ?_⟩⟩
          refine lc_pure walk_keys hD4 ((ks.zip ds).map fun p => V.bl (eqE n p.2 (getE ks' ds' p.1))) (by rw [List.length_map, List.length_zip, hk', Nat.min_self, lk]) (by rw [lk]; exact small1000 (by omega)) (fun H' m => m _ _ upd_same) (fun i y H4 H5 z hz2 m5 hy N hN => ?_) mono_name (fun H7 m5 f5 => ?_)
          · obtain ⟨rfl, k0, v0, ek, rfl⟩ := hy
            obtain ⟨ek1, ek2⟩ := mk_get ek
            have il : i < ds.length := by
              have := (List.getElem?_eq_some_iff.mp ek2).1
              omega
            have ez : (ks.zip ds)[i]? = some (k0, ds[i]) := List.getElem?_zip_eq_some.mpr ⟨ek1, List.getElem?_eq_getElem il⟩
            rw [List.getElem?_map, ez] at hz2
            cases hz2
            obtain ⟨x, rfl, tx0⟩ := tx ek1
            have hm : (Sum.inr x : L2.Key) ∈ ks' := hasK_iff.mp (List.all_eq_true.mp hall _ (List.mem_of_getElem? ek1))
            obtain ⟨j, j1, j2⟩ := get_ok hk2 nd' hm
            have jl : j < vs'.length := by
              have := (List.getElem?_eq_some_iff.mp j2).1
              omega
            have gv : valV (mk ks vs) (Sum.inr x) = some v0 := mk_val nd ek1 ek2
            have gv' : valV (mk ks' vs') (Sum.inr x) = some vs'[j] := mk_val nd' j1 (List.getElem?_eq_getElem jl)
            have fl1 := List.all_eq_true.mp q1v ds[i] (List.getElem_mem il)
            have fl2 := List.all_eq_true.mp q2v _ (List.mem_of_getElem? j2)
            have rr1 := hs i v0 ds[i] ek2 (List.getElem?_eq_getElem il)
            have rr2 := hs' j vs'[j] _ (List.getElem?_eq_getElem jl) j2
            refine ⟨rfl, _, rfl, _, rfl, a, v0, rfl, .inl ⟨_, Sum.inr x, .inr ⟨og, m5 _ _ upd_same⟩, rfl, gv.symm⟩, ?_⟩
            have fin : spP (eqF n) ([v0, vs'[j]] ++ []) H5 N L2.E0 := by
              refine ⟨fun _ => True, [ds[i], getE ks' ds' (Sum.inr x)], _, .cons (flat_any rr1 fl1) (.cons (flat_any rr2 fl2) .nil), fun _ _ => trivial, eqF_at (flat_qd fl1) (flat_qd fl2) (by rw [flat_dep fl1]; exact q3) (by rw [flat_dep fl2]; exact q3), fun v H6 m6 r6 => ?_⟩
              cases r6
              exact hN H6 m6
            rcases lkd d3 d4 m5 with hb5 | ⟨od', hb5⟩
            · exact ⟨_, rfl, _, rfl, b, vs'[j], rfl, .inl ⟨_, Sum.inr x, .inl hb5, rfl, gv'.symm⟩, fin⟩
            · exact ⟨_, rfl, _, rfl, b, vs'[j], rfl, .inl ⟨_, Sum.inr x, .inr ⟨od', hb5⟩, rfl, gv'.symm⟩, fin⟩
          have nD4 : D4 ≠ a := fun z => by
            rw [z, upd_same] at hD4
            cases hD4
          refine ⟨m5 _ _ upd_same, ?_⟩
          have m6 : Same G3 (upd H7 a (.dK (mk ks vs))) := same_lock d3 m5
          refine ⟨D4, ((ks.zip ds).map fun p => eqE n p.2 (getE ks' ds' p.1)), rfl, SqL.of (by rw [upd_ne nD4, List.map_map]; exact f5), ?_⟩
          rw [List.all_map]
          exact kk _ _ (m13.trans m6) (.bl _)
      · exact pu_next
    (repeat' first
    | with_reducible exact pu_var _ | with_reducible exact pu_non | with_reducible exact pu_bl _ | with_reducible exact pu_int _ | with_reducible exact pu_nil | with_reducible exact pu_next | with_reducible exact pu_yes
    | with_reducible apply pu_seq | with_reducible apply pu_ifS | with_reducible apply pu_ret | with_reducible apply pu_asg
    | with_reducible apply pu_and | with_reducible apply pu_or | with_reducible apply pu_not | with_reducible apply pu_test | with_reducible apply pu_b
    | with_reducible apply pu_andV | with_reducible apply pu_orV | with_reducible apply pu_notV | with_reducible apply pu_if
    | with_reducible apply pu_isi hC | with_reducible apply pu_cb (hr := pu_len) | with_reducible apply pu_cb (hr := pu_all) | with_reducible apply pu_cb (hr := pu_any) | with_reducible apply pu_cb (hr := pu_tupOf) | with_reducible apply pu_cb (hr := pu_lstOf)
    | with_reducible apply pu_isC hC oV bV
    | with_reducible apply pu_isC hC oU bU
    | with_reducible apply pu_lcZ (i := 4) (j := 5) (hij := by decide)
    | with_reducible apply pu_op (hr := pu_ixT) | with_reducible apply pu_op (hr := pu_ixL) | with_reducible apply pu_op (hr := pu_eqS) | with_reducible apply pu_op (hr := pu_neS) | with_reducible apply pu_op (hr := pu_in) | with_reducible apply pu_op (hr := pu_isNo) | with_reducible apply pu_op (hr := pu_notNo)
    | with_reducible apply pu_op (hr := pu_cm) | with_reducible apply pu_op (hr := pu_ar) | with_reducible apply pu_op (hr := pu_eqP) | with_reducible apply pu_op (hr := pu_neP) | with_reducible apply pu_op (hr := pu_catT) | with_reducible apply pu_op (hr := pu_catL)
    | with_reducible apply pu_chain pu_cm pu_cm | with_reducible apply pu_lcV | with_reducible apply pu_dcV | with_reducible apply pu_iTup | with_reducible apply pu_iLst
    | with_reducible apply pu_slT | with_reducible apply pu_slL | with_reducible exact pu_noPart | with_reducible exact pu_part _
    | exact pu_str _ ⟨by decide +kernel, by decide +kernel⟩ | with_reducible apply pu_call | with_reducible apply pu_tup | with_reducible apply pu_lst | with_reducible apply pu_cons | (with_reducible_and_instances rfl) | rfl)
  case hF =>
    intro ds0 c e
    unfold eqF at e
    split at e
    case h_2 => cases e
    rename_i d e'
    split at e
    case isFalse => cases e
    rename_i hq
    cases e
    simp only [Bool.and_eq_true] at hq
    obtain ⟨⟨⟨q1, q2⟩, q3⟩, q4⟩ := hq
    have q3 : dep d < n + 1 := of_decide_eq_true q3
    have q4 : dep e' < n + 1 := of_decide_eq_true q4
    have p1 := qd_pl q3 q1
    have p2 := qd_pl q4 q2
    have t1 : d1 (fun d => .str (sortE d)) [d] = some (.str (sortE d)) := by
      show (if pl d = true then _ else _) = _
      rw [if_pos p1]
    have t2 : d1 (fun d => .str (sortE d)) [e'] = some (.str (sortE e')) := by
      show (if pl e' = true then _ else _) = _
      rw [if_pos p2]
    refine bnd (.inr _) (bF (bF (bnd (E.bl false) (isC_no q1) rfl) (bnd (E.bl false) (isC_no q2) rfl)) rfl) ?_
    refine bnd (.inr _) (bF (bF (bnd (E.bl false) (isC_no q1) rfl) (bnd (E.bl false) (isC_no q2) rfl)) rfl) ?_
    refine bnd (.inr _) (bF (bF (bnd (E.bl false) (isL_no q1) rfl) (bnd (E.bl false) (isL_no q2) rfl)) rfl) ?_
    by_cases hso : sortE d = sortE e'
    case neg =>
      refine bnd (.inl (.bl false)) (bT (bnd (E.bl true) (bnd (E.str (sortE d)) (bnd [d] rfl t1) (bnd (E.str (sortE e')) (bnd [e'] rfl t2) ?_)) rfl) rfl) ?_
      · show some (E.bl (!decide (sortE d = sortE e'))) = _
        rw [decide_eq_false hso]
        rfl
      · show some (Sum.inl (E.bl false)) = some (Sum.inl (E.bl (decide (sortE d = sortE e') && _)))
        rw [decide_eq_false hso]
        rfl
    refine bnd (.inr _) (bF (bnd (E.bl false) (bnd (E.str (sortE d)) (bnd [d] rfl t1) (bnd (E.str (sortE e')) (bnd [e'] rfl t2) ?_)) rfl) rfl) ?_
    · show some (E.bl (!decide (sortE d = sortE e'))) = _
      rw [decide_eq_true hso]
      rfl
    have ex : eqE (n + 1) d e' = eqC (eqE n) d e' := by
      show (decide (sortE d = sortE e') && _) = _
      rw [decide_eq_true hso, Bool.true_and]
    rw [ex]
    cases d with
    | map ks ds =>
      cases e' with
      | map ks' ds' =>
        refine bnd (.inl _) (bT rfl ?_) rfl
        show (if (qd (.map ks ds) && qd (.map ks' ds') && decide (1 ≤ n)) = true then _ else _) = _
        have : 1 ≤ n := by
          have : depL ds + 1 < n + 1 := q3
          omega
        rw [q1, q2, decide_eq_true this]
        rfl
      | tup m => exfalso; simp only [sortE] at hso; split at hso <;> exact absurd hso (by decide +kernel)
      | _ => simp only [sortE] at hso; exact absurd hso (by decide +kernel)
    | tup l =>
      cases e' with
      | tup m =>
        refine bnd (.inr _) (bF rfl rfl) ?_
        refine bnd (.inl _) (bT rfl (mp (E.bl (tupEq (eqE n) l m)) ?_)) rfl
        have h0 : ((some (E.int l.length)).bind fun a => (some (E.int m.length)).bind fun b => eqS a b) = some (.bl (decide (l.length = m.length))) := by
          show some (E.bl (decide ((l.length : Int) = (m.length : Int)))) = _
          rw [decide_eq_decide.mpr (show ((l.length : Int) = (m.length : Int)) ↔ l.length = m.length by omega)]
        unfold tupEq
        by_cases hl : l.length = m.length
        case neg =>
          rw [decide_eq_false hl] at h0 ⊢
          exact bF (bnd (E.bl false) h0 rfl) rfl
        rw [decide_eq_true hl] at h0 ⊢
        refine bT (bnd (E.bl true) h0 rfl) ?_
        have hz : lcZ (fun env => (((env[4]?).bind id).bind fun d => ((((env[5]?).bind id).bind fun d => (some []).map (d :: ·))).map (d :: ·)).bind (eqF n)) (env0 ["one", "other", "twins", "key", "mine", "its"] [.tup l, .tup m]) 4 5 l m = some ((l.zip m).map fun p => eqE n p.1 p.2) := by
          refine lcZ_all (eqE n) hl fun x y hx hy => ?_
          have := dep_mem hx
          have := dep_mem hy
          have : depL l + 1 < n + 1 := q3
          have : depL m + 1 < n + 1 := q4
          exact eqF_at (qdL_mem q1 hx) (qdL_mem q2 hy) (by omega) (by omega)
        refine bnd [E.lst (((l.zip m).map fun p => eqE n p.1 p.2).map E.bl)] (bnd (E.lst (((l.zip m).map fun p => eqE n p.1 p.2).map E.bl)) (mp _ hz) rfl) ?_
        have z := allE_map (fun e => match e with | .bl b => b | _ => false) (((l.zip m).map fun p => eqE n p.1 p.2).map E.bl)
        rw [List.map_map, List.all_map, List.all_map] at z
        exact z
      | map ks' ds' => exfalso; simp only [sortE] at hso; split at hso <;> exact absurd hso (by decide +kernel)
      | lst _ => cases q2
      | ins _ _ _ => cases q2
      | _ => exfalso; simp only [sortE] at hso; split at hso <;> exact absurd hso (by decide +kernel)
    | lst _ => cases q1
    | ins _ _ _ => cases q1
    | _ =>
      refine bnd (.inr _) (bF rfl rfl) (bnd (.inr _) (bF rfl rfl) ?_)
      cases e' with
      | tup m => exfalso; simp only [sortE] at hso; split at hso <;> exact absurd hso (by decide +kernel)
      | lst _ => cases q2
      | ins _ _ _ => cases q2
      | _ => first | rfl | (simp only [sortE] at hso; exact absurd hso (by decide +kernel))
end
end K05

namespace K05
open PySem L2 XR VT ET
abbrev sVEq : Stmt := inClass (top 11) 2
abbrev sKN : Stmt := inClass (top 16) 1
abbrev sKF : Stmt := inClass (top 16) 2
def cnF (CK : Addr) : List E → Option E
  | [.ins C ns ds] => if C = CK then some (.str "Kind") else none
  | _ => none
theorem cnF_len {CK : Addr} (ds : List E) (d : E) (h : cnF CK ds = some d) : ds.length = 1 := by
  unfold cnF at h
  split at h
  · rfl
  · cases h
def fiF (CK : Addr) : List E → Option E
  | [.ins C ns [a, b, c, d, e]] => if C = CK ∧ ns = flds then some (.tup [a, b, c, d, e]) else none
  | _ => none
theorem fiF_len {CK : Addr} (ds : List E) (d : E) (h : fiF CK ds = some d) : ds.length = 1 := by
  unfold fiF at h
  split at h
  · rfl
  · cases h
def othF (CK : Addr) (n : Nat) (l : List E) : E → Option E
  | .ins C' ns' [a', b', c', d', e'] => if C' = CK ∧ ns' = flds then eqF n [.tup l, .tup [a', b', c', d', e']] else none
  | .ins _ _ _ => none
  | _ => some (.bl false)
def veqF (CK : Addr) (n : Nat) : List E → Option E
  | [.ins C ns [a, b, c, d, e], o] => if C = CK ∧ ns = flds then othF CK n [a, b, c, d, e] o else none
  | _ => none
theorem veqF_len {CK : Addr} {n : Nat} (ds : List E) (d : E) (h : veqF CK n ds = some d) : ds.length = 2 := by
  unfold veqF at h
  split at h
  · rfl
  · cases h
theorem eqF_bl {n : Nat} {ds : List E} {d : E} (h : eqF n ds = some d) : ∃ b, d = .bl b := by
  unfold eqF at h
  split at h
  · split at h
    · cases h; exact ⟨_, rfl⟩
    · cases h
  · cases h
theorem veqF_bl {CK : Addr} {n : Nat} (ds : List E) (d : E) (h : veqF CK n ds = some d) : ∃ b, d = .bl b := by
  unfold veqF at h
  split at h
  · split at h
    · unfold othF at h
      split at h
      · split at h
        · exact eqF_bl h
        · cases h
      · cases h
      · cases h; exact ⟨_, rfl⟩
    · cases h
  · cases h
section
variable {P : Program} {w : World} {K : PySem.W.Frag} {mg : Str → Option Value} {base : Heap}
variable {CS : List Addr}
theorem scKN : FnScope ["self"] ["self"] (defScope sKN) := ⟨rfl, rfl, rfl, by decide +kernel, rfl, by decide +kernel, by decide +kernel⟩
theorem ok_KN {f CK : Addr} {fd : FuncData} (F : Fun K "class_name" "Kind.class_name" sKN f fd) : FnOk P w K mg base CX0 1 f fd ["self"] (spP (cnF CK)) := by
  refine F.ok scKN (fun vs H Q E0 h => spP_len cnF_len h) (fun cdv A outer s H vs Q E0 hr h => ?_)
  refine ⟨_, (pss_one (ps_ret pe_str)), ?_⟩
  apply pu_def (N := ["self"]) (h := h)
  case pu => exact pu_ret (pu_str _ ⟨by decide +kernel, by decide +kernel⟩)
  case hF =>
    intro ds d e
    unfold cnF at e
    split at e
    · split at e
      · cases e; rfl
      · cases e
    · cases e
theorem scKF : FnScope ["self"] ["self"] (defScope sKF) := ⟨rfl, rfl, rfl, by decide +kernel, rfl, by decide +kernel, by decide +kernel⟩
theorem ok_KF {f CK : Addr} {fd : FuncData} (F : Fun K "fields" "Kind.fields" sKF f fd) (cK : Cls K CK) (nA : ∀ x ∈ flds, NoAttr K CK x) : FnOk P w K mg base CX0 1 f fd ["self"] (spP (fiF CK)) := by
  refine F.ok scKF (fun vs H Q E0 h => spP_len fiF_len h) (fun cdv A outer s H vs Q E0 hr h => ?_)
  refine ⟨_, (pss_one (ps_ret (pe_tup (pa_cons (pe_fldK (K := K) rfl (pv 0) rfl) (pa_cons (pe_fldK (K := K) rfl (pv 0) rfl) (pa_cons (pe_fldK (K := K) rfl (pv 0) rfl) (pa_cons (pe_fldK (K := K) rfl (pv 0) rfl) (pa_cons (pe_fldK (K := K) rfl (pv 0) rfl) pa_nil)))))))), ?_⟩
  have hC : ∀ C ∈ ([] : List Addr), CF K C := fun C h => by cases h
  apply pu_def (N := ["self"]) (h := h)
  case pu => (repeat' first
    | with_reducible exact pu_var _ | with_reducible exact pu_non | with_reducible exact pu_bl _ | with_reducible exact pu_int _ | with_reducible exact pu_nil | with_reducible exact pu_next | with_reducible exact pu_yes
    | with_reducible apply pu_seq | with_reducible apply pu_ifS | with_reducible apply pu_ret | with_reducible apply pu_asg
    | with_reducible apply pu_and | with_reducible apply pu_or | with_reducible apply pu_not | with_reducible apply pu_test | with_reducible apply pu_b
    | with_reducible apply pu_andV | with_reducible apply pu_orV | with_reducible apply pu_notV | with_reducible apply pu_if
    | with_reducible apply pu_isi hC | with_reducible apply pu_cb (hr := pu_len) | with_reducible apply pu_cb (hr := pu_all) | with_reducible apply pu_cb (hr := pu_any) | with_reducible apply pu_cb (hr := pu_tupOf) | with_reducible apply pu_cb (hr := pu_lstOf)
    | with_reducible apply pu_fld cK (nA _ (by decide))
    | with_reducible apply pu_op (hr := pu_ixT) | with_reducible apply pu_op (hr := pu_ixL) | with_reducible apply pu_op (hr := pu_eqS) | with_reducible apply pu_op (hr := pu_neS) | with_reducible apply pu_op (hr := pu_in) | with_reducible apply pu_op (hr := pu_isNo) | with_reducible apply pu_op (hr := pu_notNo)
    | with_reducible apply pu_op (hr := pu_cm) | with_reducible apply pu_op (hr := pu_ar) | with_reducible apply pu_op (hr := pu_eqP) | with_reducible apply pu_op (hr := pu_neP) | with_reducible apply pu_op (hr := pu_catT) | with_reducible apply pu_op (hr := pu_catL)
    | with_reducible apply pu_chain pu_cm pu_cm | with_reducible apply pu_lcV | with_reducible apply pu_dcV | with_reducible apply pu_iTup | with_reducible apply pu_iLst
    | with_reducible apply pu_slT | with_reducible apply pu_slL | with_reducible exact pu_noPart | with_reducible exact pu_part _
    | exact pu_str _ ⟨by decide +kernel, by decide +kernel⟩ | with_reducible apply pu_call | with_reducible apply pu_tup | with_reducible apply pu_lst | with_reducible apply pu_cons | (with_reducible_and_instances rfl) | rfl)
  case hF =>
    intro ds d e
    unfold fiF at e
    split at e
    case h_2 => cases e
    split at e
    case isFalse => cases e
    rename_i hq
    obtain ⟨rfl, rfl⟩ := hq
    cases e
    have n1 : (("given" : Str) == "name") = false := by decide +kernel
    have n2 : (("made" : Str) == "name") = false := by decide +kernel
    have n3 : (("made" : Str) == "given") = false := by decide +kernel
    have n4 : (("single" : Str) == "name") = false := by decide +kernel
    have n5 : (("single" : Str) == "given") = false := by decide +kernel
    have n6 : (("single" : Str) == "made") = false := by decide +kernel
    have n7 : (("holds" : Str) == "name") = false := by decide +kernel
    have n8 : (("holds" : Str) == "given") = false := by decide +kernel
    have n9 : (("holds" : Str) == "made") = false := by decide +kernel
    have n10 : (("holds" : Str) == "single") = false := by decide +kernel
    simp [env0, fldE, getF, flds, List.lookup, n1, n2, n3, n4, n5, n6, n7, n8, n9, n10]
theorem scVE : FnScope ["self", "other"] ["self", "other"] (defScope sVEq) := ⟨rfl, rfl, rfl, by decide +kernel, rfl, by decide +kernel, by decide +kernel⟩
theorem ok_VEq {f fE fN fF CV CK : Addr} {fd dE dN dF : FuncData} {n k : Nat} {sbV : Addr → Bool} (F : Fun K "__eq__" "Valued.__eq__" sVEq f fd) (T : Txt mg) (hC : ∀ C ∈ CS, CF K C) (cK : Cls K CK) (inC : CK ∈ CS) (sK : sbV CK = true)
    (gVa : mg "Valued" = some (.ref CV)) (oV : ∀ C ∈ CS, PySem.W.kitOne K (.ref C) (.ref CV) = some (sbV C)) (bV : ∀ t ∈ ["NoneType", "bool", "int", "str", "tuple", "dict", "list"], PySem.W.kitOne K (.type t) (.ref CV) = some false) (hk : 1 ≤ k)
    (GE : FnOk P w K mg base CX0 k fE dE ["one", "other"] (spP (eqF n))) (gE : mg "are_equal" = some (.ref fE)) (kE : PySem.W.keepIn K (.ref fE) = true) (bE : Binds K dE ["one", "other"] [])
    (GN : FnOk P w K mg base CX0 1 fN dN ["self"] (spP (cnF CK))) (mCn : Meth K CK "class_name" fN) (bCn : Binds K dN ["self"] []) (GF : FnOk P w K mg base CX0 1 fF dF ["self"] (spP (fiF CK))) (mFi : Meth K CK "fields" fF) (bFi : Binds K dF ["self"] []) :
    FnOk P w K mg base CX0 (k + 1) f fd ["self", "other"] (spP (veqF CK n)) := by
  refine F.ok scVE (fun vs H Q E0 h => spP_len veqF_len h) (fun cdv A outer s H vs Q E0 hr h => ?_)
  have hr1 : Room 1 _ := hr.mono hk
  refine ⟨_, (pss_cons (ps_if (PW.pt (pw_or (pt_not (pt_val (pe_callB (call_isiK (K := K) rfl) (by rfl) T.isi (by decide +kernel) (pa_cons (pv 1) (pa_cons (pe_glob (v := .ref CV) rfl gVa rfl) pa_nil))))) (pw_or1 (pt_cmpR op_ne (pe_meth0 (pv 0) cK mCn GN hr1 bCn .nil pass0) (pe_meth0 (pv 1) cK mCn GN hr1 bCn .nil pass0) (nomark _))))) (pss_one (ps_ret pe_bl)) pss_nil)
      (pss_one (ps_ret (pe_call GE hr rfl gE kE bE .nil pass0 (pa_cons (pe_meth0 (pv 0) cK mFi GF hr1 bFi .nil pass0) (pa_cons (pe_meth0 (pv 1) cK mFi GF hr1 bFi .nil pass0) pa_nil)))))), ?_⟩
  apply pu_def (N := ["self", "other"]) (h := h)
  case pu => (repeat' first
    | with_reducible exact pu_var _ | with_reducible exact pu_non | with_reducible exact pu_bl _ | with_reducible exact pu_int _ | with_reducible exact pu_nil | with_reducible exact pu_next | with_reducible exact pu_yes
    | with_reducible apply pu_seq | with_reducible apply pu_ifS | with_reducible apply pu_ret | with_reducible apply pu_asg
    | with_reducible apply pu_and | with_reducible apply pu_or | with_reducible apply pu_not | with_reducible apply pu_test | with_reducible apply pu_b
    | with_reducible apply pu_andV | with_reducible apply pu_orV | with_reducible apply pu_notV | with_reducible apply pu_if
    | with_reducible apply pu_isi hC | with_reducible apply pu_cb (hr := pu_len) | with_reducible apply pu_cb (hr := pu_all) | with_reducible apply pu_cb (hr := pu_any) | with_reducible apply pu_cb (hr := pu_tupOf) | with_reducible apply pu_cb (hr := pu_lstOf)
    | with_reducible apply pu_isC hC oV bV
    | with_reducible apply pu_meth
    | with_reducible apply pu_op (hr := pu_ixT) | with_reducible apply pu_op (hr := pu_ixL) | with_reducible apply pu_op (hr := pu_eqS) | with_reducible apply pu_op (hr := pu_neS) | with_reducible apply pu_op (hr := pu_in) | with_reducible apply pu_op (hr := pu_isNo) | with_reducible apply pu_op (hr := pu_notNo)
    | with_reducible apply pu_op (hr := pu_cm) | with_reducible apply pu_op (hr := pu_ar) | with_reducible apply pu_op (hr := pu_eqP) | with_reducible apply pu_op (hr := pu_neP) | with_reducible apply pu_op (hr := pu_catT) | with_reducible apply pu_op (hr := pu_catL)
    | with_reducible apply pu_chain pu_cm pu_cm | with_reducible apply pu_lcV | with_reducible apply pu_dcV | with_reducible apply pu_iTup | with_reducible apply pu_iLst
    | with_reducible apply pu_slT | with_reducible apply pu_slL | with_reducible exact pu_noPart | with_reducible exact pu_part _
    | exact pu_str _ ⟨by decide +kernel, by decide +kernel⟩ | with_reducible apply pu_call | with_reducible apply pu_tup | with_reducible apply pu_lst | with_reducible apply pu_cons | (with_reducible_and_instances rfl) | rfl)
  case hF =>
    intro ds d e
    unfold veqF at e
    split at e
    case h_2 => cases e
    split at e
    case isFalse => cases e
    rename_i hq
    obtain ⟨rfl, rfl⟩ := hq
    rename_i C0 a b c d0 e0 o
    unfold othF at e
    split at e
    · rename_i C ns a' b' c' d' e'
      split at e
      case isFalse => cases e
      rename_i hq
      obtain ⟨rfl, rfl⟩ := hq
      have h1 : ∀ l, isC CS sbV (.ins C flds l) = some (.bl true) := fun l => by
        show (if C ∈ CS then some (E.bl (sbV C)) else none) = _
        rw [if_pos inC, sK]
      have h2 : ∀ l, mthE C "class_name" (cnF C) (.ins C flds l) = some (.str "Kind") := fun l => by
        show (if C = C ∧ (("class_name" : Str) ∉ flds) then (if C = C then some (E.str "Kind") else none) else none) = _
        rw [if_pos ⟨rfl, by decide⟩, if_pos rfl]
      have h3 : ∀ a b c d e, mthE C "fields" (fiF C) (.ins C flds [a, b, c, d, e]) = some (.tup [a, b, c, d, e]) := fun a b c d e => by
        show (if C = C ∧ (("fields" : Str) ∉ flds) then (if C = C ∧ flds = flds then some (E.tup [a, b, c, d, e]) else none) else none) = _
        rw [if_pos ⟨rfl, by decide⟩, if_pos ⟨rfl, rfl⟩]
      refine bnd (.inr _) (bF (bF (mp true (bnd (E.bl true) (h1 [a', b', c', d', e']) rfl)) (bnd (E.bl false) (bnd (E.str "Kind") (h2 [a, b, c, d0, e0]) (bnd (E.str "Kind") (h2 [a', b', c', d', e']) ?_)) rfl)) rfl) ?_
      · show some (E.bl (!decide (("Kind" : Str) = "Kind"))) = _
        rw [decide_eq_true rfl]
        rfl
      · exact mp d (bnd [_, _] (bnd _ (h3 _ _ _ _ _) (mp [_] (bnd _ (h3 _ _ _ _ _) rfl))) e)
    · cases e
    · rename_i hni
      cases e
      refine bnd (.inl (.bl false)) (bT (bT (mp false (bnd (E.bl false) ?_ rfl)) rfl) rfl) rfl
      cases o <;> first | rfl | exact absurd rfl (hni _ _ _)
end
end K05

namespace K05
open PySem L2 XR VT ET
abbrev sWell : Stmt := top 25
abbrev sDraw : Stmt := top 26
abbrev sOne : Stmt := top 27
theorem But.new {w p : Addr} {H : Hp} {o : HO} (h : H p = none) : But w H (L2.upd H p o) := fun b u e n => by rw [upd_ne (ne_of_none e h)]; exact e
structure Well (H : Hp) (w : Addr) (a b c : Int) : Prop where
  at_ : H w = some (.lst [.int a, .int b, .int c])
  b0 : 0 ≤ b
  b1 : b < 2147483647
  c0 : 0 ≤ c
  c1 : c ≤ 1000000000000000
def spWell : Sp := fun vs H Q _ => ∃ z : Int, vs = [.int z] ∧ ∀ (p : Addr) (a b : Int) (H' : Hp), Same H H' → H p = none → Well H' p a b 0 → Q (.ref p) H'
def spDraw : Sp := fun vs H Q _ => ∃ (w : Addr) (a b c m : Int), vs = [.ref w, .int m] ∧ Well H w a b c ∧ c < 1000000000000000 ∧ 0 < m ∧ m < 1000000 ∧
  ∀ (d a' c' : Int) (H' : Hp), 0 ≤ d → d < m → c' ≤ c + 1 → Well H' w a' b c' → But w H H' → Q (.int d) H'
def spOne (K : PySem.W.Frag) : Sp := fun vs H Q _ => ∃ (w l : Addr) (a b c : Int) (xs : List V), vs = [.ref w, .ref l] ∧ Well H w a b c ∧ c < 1000000000000000 ∧ H l = some (.lst xs) ∧ l ≠ w ∧ 0 < xs.length ∧ xs.length < 1000 ∧
  ∀ (v : V) (a' c' : Int) (H' : Hp), v ∈ xs → c' ≤ c + 1 → Well H' w a' b c' → But w H H' → Q v H'
structure Txt0 (mg : Str → Option Value) : Prop where
  int : mg "int" = none
  len : mg "len" = none
section
variable {P : Program} {w : World} {K : PySem.W.Frag} {mg : Str → Option Value} {base : Heap} {CU : Addr}
theorem scW : FnScope ["_law_cell"] ["_law_cell"] (defScope sWell) := ⟨rfl, rfl, rfl, by decide +kernel, rfl, by decide +kernel, by decide +kernel⟩
theorem ok_well {f : Addr} {fd : FuncData} (F : Fun K "_law_well" "_law_well" sWell f fd) (T : Txt0 mg) : FnOk P w K mg base CX0 1 f fd ["_law_cell"] spWell := by
  refine F.ok scW (fun vs H Q E h => ?_) (fun cdv A outer s H vs Q E hr h => ?_)
  · obtain ⟨z, rfl, _⟩ := h
    rfl
  · obtain ⟨z, rfl, k⟩ := h
    refine ⟨_, pss_one (ps_ret (pe_lst (pa_cons (pe_op op_mul (pv 0) (pe_callTy call_int1 (by rfl) T.int (by decide +kernel) (pa_cons (pe_cmpR op_ge (pv 0) (pe_op op_pow pe_int pe_int) (nomark _)) pa_nil)))
      (pa_cons (pe_op op_mod (pe_callTy call_int1 (by rfl) T.int (by decide +kernel) (pa_cons (pv 0) pa_nil)) pe_int) (pa_cons pe_int pa_nil))))), ?_⟩
    refine ⟨_, rfl, _, rfl, _, _, rfl, rfl, ⟨by decide, by decide, by decide⟩, _, _, rfl, rfl, .inr ⟨_, rfl, ?_⟩⟩
    refine ⟨_, _, rfl, rfl, .inr ?_, ?_⟩
    · split <;> exact ⟨by decide, by decide⟩
    refine ⟨_, rfl, .inl ⟨_, rfl, _, _, rfl, rfl, (by show (0 : Int) < 2147483647; decide), (by show 3 ≤ sizeLine; decide), fun p hp => ?_⟩⟩
    refine k p _ _ _ (same_new hp) hp ⟨upd_same, ?_, ?_, Int.le_refl _, by decide⟩
    · exact Int.emod_nonneg _ (by decide)
    · exact Int.emod_lt_of_pos _ (by decide)
theorem scD : FnScope ["_law_well_here", "_law_below", "_law_digit", "_law_prime", "_law_number"] ["_law_well_here", "_law_below"] (defScope sDraw) := ⟨rfl, rfl, rfl, by decide +kernel, rfl, by decide +kernel, by decide +kernel⟩
theorem ok_draw {f : Addr} {fd : FuncData} (F : Fun K "_law_draw" "_law_draw" sDraw f fd) (T : Txt0 mg) : FnOk P w K mg base CX0 1 f fd ["_law_well_here", "_law_below"] spDraw := by
  refine F.ok scD (fun vs H Q E h => ?_) (fun cdv A outer s H vs Q E hr h => ?_)
  · obtain ⟨w, a, b, c, m, rfl, _⟩ := h
    rfl
  · obtain ⟨w, a, b, c, m, rfl, W, hc, m0, m1, k⟩ := h
    refine ⟨_, pss_cons (ps_if (pt_cmpR op_gt (pe_ix ix_list (pv 0) pe_int (fun _ _ => rfl)) pe_int (nomark _))
        (pss_cons (ps_set (i := 2) scD.nd rfl (Or.inl rfl) (pe_op op_mod (pe_callTy call_int1 (by rfl) T.int (by decide +kernel) (pa_cons (pe_ix ix_list (pv 0) pe_int (fun _ _ => rfl)) pa_nil)) (pv 1)))
        (pss_cons (ps_asg (pe_op op_fdiv (pe_ix ix_list (pv 0) pe_int (fun _ _ => rfl)) (pv 1)) (pg_sub (pv 0) pe_int set_list))
        (pss_one (ps_ret (pv 2))))) pss_nil)
      (pss_cons (ps_asg (pe_op op_add (pe_ix ix_list (pv 0) pe_int (fun _ _ => rfl)) pe_int) (pg_sub (pv 0) pe_int set_list))
      (pss_cons (ps_set (i := 3) scD.nd rfl (Or.inl rfl) (pe_ix ix_list (pe_lst (pa_cons pe_int (pa_cons pe_int (pa_cons pe_int (pa_cons pe_int (pa_cons pe_int (pa_cons pe_int (pa_cons pe_int pa_nil))))))))
        (pe_op op_mod (pe_callTy call_int1 (by rfl) T.int (by decide +kernel) (pa_cons (pe_ix ix_list (pv 0) pe_int (fun _ _ => rfl)) pa_nil)) pe_int) (fun _ _ => rfl)))
      (pss_cons (ps_set (i := 4) scD.nd rfl (Or.inl rfl) (pe_op op_mod (pe_callTy call_int1 (by rfl) T.int (by decide +kernel) (pa_cons (pe_op op_pow (pe_op op_add (pe_op op_add (pe_ix ix_list (pv 0) pe_int (fun _ _ => rfl)) (pe_op op_mul pe_int (pe_ix ix_list (pv 0) pe_int (fun _ _ => rfl)))) pe_int) pe_int) pa_nil)) (pv 3)))
      (pss_cons (ps_set (i := 4) scD.nd rfl (Or.inl rfl) (pe_op op_mod (pe_callTy call_int1 (by rfl) T.int (by decide +kernel) (pa_cons (pe_op op_mul (pe_op op_add (pv 4) (pe_ix ix_list (pv 0) pe_int (fun _ _ => rfl))) (pe_op op_add (pe_op op_fdiv (pv 4) pe_int) pe_int)) pa_nil)) (pv 3)))
      (pss_one (ps_ret (pe_op op_mod (pe_callTy call_int1 (by rfl) T.int (by decide +kernel) (pa_cons (pe_op op_fdiv (pv 4) pe_int) pa_nil)) (pv 1)))))))), ?_⟩
    refine ⟨_, rfl, w, _, _, _, rfl, rfl, SqL.of W.at_, rfl, _, _, rfl, rfl, _, rfl, ?_⟩
    refine ite2 (fun ca => ?_) (fun ca => ?_)
    · refine ⟨_, rfl, w, _, _, _, rfl, rfl, SqL.of W.at_, rfl, .inl ⟨_, rfl, _, rfl, _, _, rfl, rfl, m0, ?_⟩⟩
      refine ⟨_, rfl, w, _, _, _, rfl, rfl, SqL.of W.at_, rfl, _, rfl, _, _, rfl, rfl, ⟨m0, by omega⟩, _, rfl, w, _, _, _, rfl, rfl, W.at_, rfl, ?_⟩
      exact ⟨_, rfl, k _ _ c _ (Int.emod_nonneg _ (by omega)) (Int.emod_lt_of_pos _ m0) (by omega) ⟨upd_same, W.b0, W.b1, W.c0, W.c1⟩ But.upd⟩
    · refine ⟨_, rfl, w, _, _, _, rfl, rfl, SqL.of W.at_, rfl, _, _, rfl, rfl, _, rfl, w, _, _, _, rfl, rfl, W.at_, rfl, ?_⟩
      have W1 : Well (upd H w (.lst [.int a, .int b, .int (c + 1)])) w a b (c + 1) := ⟨upd_same, W.b0, W.b1, by have := W.c0; omega, by omega⟩
      have B1 : But w H (upd H w (.lst [.int a, .int b, .int (c + 1)])) := But.upd
      refine ⟨(by show 7 ≤ sizeLine; decide), fun p hp => ?_⟩
      have wp : w ≠ p := ne_of_none W1.at_ hp
      have W2 : Well (upd (upd H w (.lst [.int a, .int b, .int (c + 1)])) p (.lst [.int 2147483647, .int 2147483629, .int 2147483587, .int 2147483579, .int 2147483563, .int 2147483549, .int 2147483543])) w a b (c + 1) := ⟨by rw [upd_ne wp]; exact W1.at_, W1.b0, W1.b1, W1.c0, W1.c1⟩
      have B2 := B1.trans (K05.But.new (w := w) (o := .lst [.int 2147483647, .int 2147483629, .int 2147483587, .int 2147483579, .int 2147483563, .int 2147483549, .int 2147483543]) hp)
      have hx : ∃ q : Int, (L2.atI [V.int 2147483647, .int 2147483629, .int 2147483587, .int 2147483579, .int 2147483563, .int 2147483549, .int 2147483543] ((c + 1) % 7)) = some (.int q) ∧ 0 < q ∧ q ≤ 2147483647 := by
        have h0 : 0 ≤ (c + 1) % 7 := Int.emod_nonneg _ (by decide)
        have h1 : (c + 1) % 7 < 7 := Int.emod_lt_of_pos _ (by decide)
        rcases (by omega : (c + 1) % 7 = 0 ∨ (c + 1) % 7 = 1 ∨ (c + 1) % 7 = 2 ∨ (c + 1) % 7 = 3 ∨ (c + 1) % 7 = 4 ∨ (c + 1) % 7 = 5 ∨ (c + 1) % 7 = 6) with e | e | e | e | e | e | e <;> rw [e] <;> exact ⟨_, rfl, by decide, by decide⟩
      obtain ⟨q, eq, q0, q1⟩ := hx
      refine ⟨_, rfl, w, _, _, _, rfl, rfl, SqL.of W2.at_, rfl, .inl ⟨_, rfl, _, _, rfl, rfl, (by show (0 : Int) < 7; decide), p, _, _, _, rfl, rfl, SqL.of upd_same, eq, ?_⟩⟩
      refine ⟨_, rfl, w, _, _, _, rfl, rfl, SqL.of W2.at_, rfl, _, rfl, w, _, _, _, rfl, rfl, SqL.of W2.at_, rfl, _, _, rfl, rfl, .inl ⟨by decide, by decide⟩, _, _, rfl, rfl, _, _, rfl, rfl, _, _, rfl, rfl, ⟨by decide, by decide, ?_⟩, ?_⟩
      · have := W.b0; have := W.b1; have := W.c0; have := W.c1
        omega
      refine .inl ⟨_, rfl, _, rfl, _, _, rfl, rfl, q0, ?_⟩
      have n0 := Int.emod_nonneg ((b + 7919 * (c + 1) + 1) ^ Int.toNat 5) (by omega : q ≠ 0)
      have n1 := Int.emod_lt_of_pos ((b + 7919 * (c + 1) + 1) ^ Int.toNat 5) q0
      refine ⟨_, rfl, _, rfl, w, _, _, _, rfl, rfl, SqL.of W2.at_, rfl, _, _, rfl, rfl, _, rfl, _, _, rfl, rfl, ⟨by decide, by decide⟩, _, _, rfl, rfl, _, _, rfl, rfl, .inl ⟨?_, ?_⟩, ?_⟩
      · have := W1.c0; omega
      · have := W1.c1; omega
      refine .inl ⟨_, rfl, _, rfl, _, _, rfl, rfl, q0, ?_⟩
      refine ⟨_, rfl, _, _, rfl, rfl, ⟨by decide, by decide⟩, .inl ⟨_, rfl, _, rfl, _, _, rfl, rfl, m0, ?_⟩⟩
      exact k _ _ _ _ (Int.emod_nonneg _ (by omega)) (Int.emod_lt_of_pos _ m0) (Int.le_refl _) W2 B2
theorem scO : FnScope ["_law_well_here", "_law_some"] ["_law_well_here", "_law_some"] (defScope sOne) := ⟨rfl, rfl, rfl, by decide +kernel, rfl, by decide +kernel, by decide +kernel⟩
theorem ok_one {f fD : Addr} {fd fdD : FuncData} (F : Fun K "_law_one" "_law_one" sOne f fd) (T : Txt0 mg) (FD : Fun K "_law_draw" "_law_draw" sDraw fD fdD) (gD : mg "_law_draw" = some (.ref fD)) (bD : Binds K fdD ["_law_well_here", "_law_below"] []) :
    FnOk P w K mg base CX0 2 f fd ["_law_well_here", "_law_some"] (spOne K) := by
  have GD : FnOk P w K mg base CX0 1 fD fdD ["_law_well_here", "_law_below"] spDraw := ok_draw FD T
  refine F.ok scO (fun vs H Q E h => ?_) (fun cdv A outer s H vs Q E hr h => ?_)
  · obtain ⟨w, l, a, b, c, xs, rfl, _⟩ := h
    rfl
  · obtain ⟨w, l, a, b, c, xs, rfl, W, hc, hl, nlw, l0, l1, k⟩ := h
    refine ⟨_, pss_one (ps_ret (pe_ix ix_list (pv 1) (pe_call GD hr rfl gD FD.kp bD .nil pass0 (pa_cons (pv 0) (pa_cons (pe_callB call_len (by rfl) T.len PySem.boot_len (pa_cons (pv 1) pa_nil)) pa_nil))) (fun _ _ => rfl))), ?_⟩
    refine ⟨_, rfl, _, rfl, _, rfl, _, _, rfl, .inl ⟨_, SqL.of hl, rfl⟩, w, a, b, c, _, rfl, W, hc, by omega, by omega, fun d a' c' H' d0 d1 hc' W' B => ?_⟩
    have hl' : H' l = some (.lst xs) := B _ _ hl nlw
    have hd : d.toNat < xs.length := by omega
    refine ⟨l, xs, d, xs[d.toNat], rfl, rfl, SqL.of hl', ?_, ?_⟩
    · have z := atI_nat (xs := xs) (j := d.toNat) (v := xs[d.toNat]) (by simp [hd])
      rwa [Int.toNat_of_nonneg d0] at z
    · exact k _ a' c' H' (List.getElem_mem hd) hc' W' B

end
end K05

/-! readings that draw: what they may come to (Φ: what holds of each tree that may come out) -/
namespace K05
open PySem L2 XR VT ET
def Wl (H : Hp) (w : Addr) (n : Nat) : Prop := ∃ a b c, Well H w a b c ∧ c + n ≤ 1000000000000000
theorem Wl.same {H H' : Hp} {w : Addr} {n : Nat} (m : Same H H') (h : Wl H w n) : Wl H' w n := by
  obtain ⟨a, b, c, W, hc⟩ := h
  exact ⟨a, b, c, ⟨m _ _ W.at_, W.b0, W.b1, W.c0, W.c1⟩, hc⟩
theorem Wl.le {H : Hp} {w : Addr} {n n' : Nat} (h : Wl H w n') (l : n ≤ n') : Wl H w n := by
  obtain ⟨a, b, c, W, hc⟩ := h
  exact ⟨a, b, c, W, by omega⟩
theorem Wl.there {H : Hp} {w : Addr} {n : Nat} (h : Wl H w n) : ∃ o, H w = some o := by
  obtain ⟨a, b, c, W, hc⟩ := h
  exact ⟨_, W.at_⟩
theorem keepB {P : Addr → Prop} {H H' : Hp} {w : Addr} (nw : ¬ P w) (B : But w H H') : ∀ a o, keepH P H a = some o → keepH P H' a = some o := fun a o e => by
  obtain ⟨p, e'⟩ := keep_some e
  rw [keep_at p]
  exact B a o e' fun z => nw (z ▸ p)
theorem frB {P : Addr → Prop} {H H' : Hp} {w : Addr} {n : Nat} (fr : Fr P H) (B : But w H H') (W : Wl H' w n) : Fr P H' := fun b hb => by
  refine fr b ?_
  cases h : H b with
  | none => rfl
  | some o =>
    have nb : b ≠ w := fun z => by
      obtain ⟨o', ho⟩ := W.there
      rw [z, ho] at hb
      cases hb
    rw [B _ _ h nb] at hb
    cases hb
structure Nd (w : Addr) (i n : Nat) (P : Addr → Prop) (σ : L2.St) (H : Hp) (env : List (Option E)) : Prop where
  en : En (keepH P H) σ env
  fr : Fr P H
  nw : ¬ P w
  wl : Wl H w n
  at_ : σ[i]? = some (some (.ref w))
theorem Nd.next {w : Addr} {i n n' : Nat} {P : Addr → Prop} {σ : L2.St} {H H' : Hp} {env : List (Option E)} (h : Nd w i n P σ H env) (B : But w H H') (W : Wl H' w n') : Nd w i n' P σ H' env := ⟨h.en.mono (keepB h.nw B), frB h.fr B W, h.nw, W, h.at_⟩
theorem Nd.le {w : Addr} {i n n' : Nat} {P : Addr → Prop} {σ : L2.St} {H : Hp} {env : List (Option E)} (h : Nd w i n P σ H env) (l : n' ≤ n) : Nd w i n' P σ H env := ⟨h.en, h.fr, h.nw, h.wl.le l, h.at_⟩
theorem Nd.set {w : Addr} {i j n : Nat} {P : Addr → Prop} {σ : L2.St} {H : Hp} {env : List (Option E)} {v : V} {d : E} (h : Nd w i n P σ H env) (ij : j ≠ i) (r : Rp (keepH P H) v d) : Nd w i n P (σ.set j (some v)) H (env.set j (some d)) := ⟨h.en.set r, h.fr, h.nw, h.wl, by rw [List.getElem?_set_ne ij]; exact h.at_⟩
theorem _root_.ET.Rp.but {P : Addr → Prop} {H H' : Hp} {w : Addr} {v : V} {d : E} (r : Rp (keepH P H) v d) (nw : ¬ P w) (B : But w H H') : Rp (keepH P H') v d := r.mono (keepB nw B)
theorem _root_.ET.RpL.but {P : Addr → Prop} {H H' : Hp} {w : Addr} {v : List V} {d : List E} (r : RpL (keepH P H) v d) (nw : ¬ P w) (B : But w H H') : RpL (keepH P H') v d := r.mono (keepB nw B)
abbrev NE := List (Option E) → (E → Prop) → Prop
abbrev NT := List (Option E) → (Bool → Prop) → Prop
abbrev NA := List (Option E) → (List E → Prop) → Prop
def NdE (i q : Nat) (te : TE) (f : NE) : Prop := ∀ (w : Addr) (n : Nat) (P : Addr → Prop) (σ : L2.St) (H : Hp) (env : List (Option E)) (Q : VK) (Φ : E → Prop), Nd w i (n + q) P σ H env → f env Φ → (∀ v d H', But w H H' → Wl H' w n → Rp (keepH P H') v d → Φ d → Q v H') → te σ H Q
def NdT (i q : Nat) (tt : TT) (f : NT) : Prop := ∀ (w : Addr) (n : Nat) (P : Addr → Prop) (σ : L2.St) (H : Hp) (env : List (Option E)) (Q : Bool → Hp → Prop) (Φ : Bool → Prop), Nd w i (n + q) P σ H env → f env Φ → (∀ b H', But w H H' → Wl H' w n → Φ b → Q b H') → tt σ H Q
def NdA (i q : Nat) (ta : TA) (f : NA) : Prop := ∀ (w : Addr) (n : Nat) (P : Addr → Prop) (σ : L2.St) (H : Hp) (env : List (Option E)) (Q : List V → Hp → Prop) (Φ : List E → Prop), Nd w i (n + q) P σ H env → f env Φ → (∀ vs ds H', But w H H' → Wl H' w n → RpL (keepH P H') vs ds → Φ ds → Q vs H') → ta σ H Q
section
variable {i q q1 q2 q3 : Nat} {te ta tb : TE} {tt : TT} {tl : TA} {f fa fb : NE} {ft : NT} {fl : NA} {pe : FE} {pt : FT} {pa : FA}
theorem nd_pu (h : PuE te pe) : NdE i 0 te (fun env Φ => ∃ d, pe env = some d ∧ Φ d) := fun w n P σ H env Q Φ nd ⟨d, e, hd⟩ k => h P σ H env d Q nd.en nd.fr e fun v H' m r => k v d H' (But.of m) (nd.wl.same m) r hd
theorem nd_pt (h : PuT tt pt) : NdT i 0 tt (fun env Φ => ∃ d, pt env = some d ∧ Φ d) := fun w n P σ H env Q Φ nd ⟨d, e, hd⟩ k => h P σ H env d Q nd.en nd.fr e fun H' m => k d H' (But.of m) (nd.wl.same m) hd
theorem nd_pa (h : PuA tl pa) : NdA i 0 tl (fun env Φ => ∃ d, pa env = some d ∧ Φ d) := fun w n P σ H env Q Φ nd ⟨d, e, hd⟩ k => h P σ H env d Q nd.en nd.fr e fun v H' m r => k v d H' (But.of m) (nd.wl.same m) r hd
theorem nd_test (h : NdE i q te f) : NdT i q (tTest te) (fun env Φ => f env fun d => ∃ b, d = .bl b ∧ Φ b) := fun w n P σ H env Q Φ nd hf k => h w n P σ H env _ _ nd hf fun v d H' B W r hd => by
  obtain ⟨b, rfl, hb⟩ := hd
  cases r
  exact ⟨b, rfl, k b H' B W hb⟩
theorem nd_nil : NdA i 0 tNil (fun env Φ => Φ []) := fun w n P σ H env Q Φ nd hf k => k [] [] H (But.of fun _ _ z => z) nd.wl .nil hf
theorem nd_cons (ha : NdE i q1 ta fa) (hl : NdA i q2 tl fl) : NdA i (q1 + q2) (tCons ta tl) (fun env Φ => fa env fun d => fl env fun l => Φ (d :: l)) := fun w n P σ H env Q Φ nd hf k =>
  ha w (n + q2) P σ H env _ _ (nd.le (by omega)) hf fun v d H1 B1 W1 r1 h1 => hl w n P σ H1 env _ _ (nd.next B1 W1) h1 fun vs ds H2 B2 W2 r2 h2 => k _ _ H2 (B1.trans B2) W2 (.cons (r1.but nd.nw B2) r2) h2
theorem nd_op {r : R2} {fr : E → E → Option E} (ha : NdE i q1 ta fa) (hb : NdE i q2 tb fb) (hr : PuR r fr) : NdE i (q1 + q2) (tOp r ta tb) (fun env Φ => fa env fun d => fb env fun e => ∃ c, fr d e = some c ∧ Φ c) := fun w n P σ H env Q Φ nd hf k =>
  ha w (n + q2) P σ H env _ _ (nd.le (by omega)) hf fun v d H1 B1 W1 r1 h1 => hb w n P σ H1 env _ _ (nd.next B1 W1) h1 fun u e H2 B2 W2 r2 h2 => by
    obtain ⟨c, e1, hc⟩ := h2
    exact hr P v u H2 d e c Q (r1.but nd.nw B2) r2 (frB (frB nd.fr B1 W1) B2 W2) e1 fun z H3 m3 r3 => k z c H3 ((B1.trans B2).trans (But.of m3)) (W2.same m3) r3 hc
theorem nd_cb {r : List V → Hp → VK → Prop} {fr : List E → Option E} (hl : NdA i q tl fl) (hr : PuC r fr) : NdE i q (tCB r tl) (fun env Φ => fl env fun l => ∃ c, fr l = some c ∧ Φ c) := fun w n P σ H env Q Φ nd hf k =>
  hl w n P σ H env _ _ nd hf fun vs ds H1 B1 W1 r1 h1 => by
    obtain ⟨c, e1, hc⟩ := h1
    exact hr P vs H1 ds c Q r1 (frB nd.fr B1 W1) e1 fun z H3 m3 r3 => k z c H3 (B1.trans (But.of m3)) (W1.same m3) r3 hc
theorem nd_if (hx : NdT i q1 tt ft) (ha : NdE i q2 ta fa) (hb : NdE i q3 tb fb) : NdE i (q1 + (q2 + q3)) (tIf tt ta tb) (fun env Φ => ft env fun b => if b = true then fa env Φ else fb env Φ) := fun w n P σ H env Q Φ nd hf k =>
  hx w (n + (q2 + q3)) P σ H env _ _ (nd.le (by omega)) hf fun b H1 B1 W1 h1 => by
    cases b with
    | true => exact iteT (ha w (n + q3) P σ H1 env Q Φ (nd.next B1 (W1.le (by omega))) h1 fun v d H2 B2 W2 r2 h2 => k v d H2 (B1.trans B2) (W2.le (by omega)) r2 h2)
    | false => exact iteF (hb w (n + q2) P σ H1 env Q Φ (nd.next B1 (W1.le (by omega))) h1 fun v d H2 B2 W2 r2 h2 => k v d H2 (B1.trans B2) (W2.le (by omega)) r2 h2)
theorem nd_tup (hl : NdA i q tl fl) : NdE i q (tTup tl) (fun env Φ => fl env fun l => l.length ≤ 900 ∧ Φ (.tup l)) := fun w n P σ H env Q Φ nd hf k =>
  hl w n P σ H env _ _ nd hf fun vs ds H1 B1 W1 r1 h1 => by
    refine ⟨by rw [r1.length, sizeLine_eq]; omega, fun p hp => ?_⟩
    have m := same_new (o := .tup vs) hp
    exact k _ _ _ (B1.trans (But.of m)) (W1.same m) (.tup (by rw [keep_at (frB nd.fr B1 W1 _ hp)]; exact upd_same) r1.length h1.1 fun i v d g1 g2 => (r1.get i v d g1 g2).keepS m) h1.2
theorem nd_lst (hl : NdA i q tl fl) : NdE i q (tLst tl) (fun env Φ => fl env fun l => l.length ≤ 900 ∧ Φ (.lst l)) := fun w n P σ H env Q Φ nd hf k =>
  hl w n P σ H env _ _ nd hf fun vs ds H1 B1 W1 r1 h1 => by
    refine ⟨by rw [r1.length, sizeLine_eq]; omega, fun p hp => ?_⟩
    have m := same_new (o := .lst vs) hp
    exact k _ _ _ (B1.trans (But.of m)) (W1.same m) (.lst (by rw [keep_at (frB nd.fr B1 W1 _ hp)]; exact upd_same) r1.length h1.1 fun i v d g1 g2 => (r1.get i v d g1 g2).keepS m) h1.2
/-- a def that draws from the well, its first parameter -/
def spN (q : Nat) (f : List E → (E → Prop) → Prop) : Sp := fun vs H Q _ => ∃ (n : Nat) (P : Addr → Prop) (w : Addr) (us : List V) (ds : List E) (Φ : E → Prop), vs = .ref w :: us ∧ RpL (keepH P H) us ds ∧ Fr P H ∧ ¬ P w ∧ Wl H w (n + q) ∧ f ds Φ ∧ ∀ v d H', But w H H' → Wl H' w n → Rp (keepH P H') v d → Φ d → Q v H'
theorem nd_call {F : List E → (E → Prop) → Prop} {E0 : XK} (hl : NdA i q1 tl fl) : NdE i (q1 + q2) (tCall (spN q2 F) [] E0 (tCons (tVar i) tl)) (fun env Φ => fl env fun l => F l Φ) := fun w n P σ H env Q Φ nd hf k =>
  ⟨_, nd.at_, hl w (n + q2) P σ H env _ _ (nd.le (by omega)) hf fun vs ds H1 B1 W1 r1 h1 => ⟨n, P, w, vs, ds, Φ, by rw [List.append_nil], r1, frB nd.fr B1 W1, nd.nw, W1, h1, fun v d H2 B2 W2 r2 h2 => k v d H2 (B1.trans B2) W2 r2 h2⟩⟩
theorem NdE.le {q' : Nat} (h : NdE i q te f) (l : q ≤ q') : NdE i q' te f := fun w n P σ H env Q Φ nd hf k => h w (n + (q' - q)) P σ H env Q Φ (nd.le (by omega)) hf fun v d H' B W r hd => k v d H' B (W.le (by omega)) r hd
/-! statements -/
abbrev NS := List (Option E) → (E → Prop) → (List (Option E) → Prop) → Prop
def NdS (i q : Nat) (ts : TS) (f : NS) : Prop := ∀ (w : Addr) (n : Nat) (P : Addr → Prop) (σ : L2.St) (H : Hp) (env : List (Option E)) (D : Ends) (Φ : E → Prop) (Ψ : List (Option E) → Prop), Nd w i (n + q) P σ H env → f env Φ Ψ →
  (∀ v d H', But w H H' → Wl H' w n → Rp (keepH P H') v d → Φ d → D.rt v H') → (∀ σ' env' H', But w H H' → Nd w i n P σ' H' env' → Ψ env' → D.nx σ' H') → ts D σ H
theorem nd_ret (h : NdE i q te f) : NdS i q (tRet te) (fun env Φ Ψ => f env Φ) := fun w n P σ H env D Φ Ψ nd hf k1 k2 => h w n P σ H env _ Φ nd hf k1
theorem nd_next : NdS i 0 tNext (fun env Φ Ψ => Ψ env) := fun w n P σ H env D Φ Ψ nd hf k1 k2 => k2 σ env H (But.of fun _ _ z => z) nd hf
theorem nd_asg {j : Nat} (ij : j ≠ i) (h : NdE i q te f) : NdS i q (tAsg te (gName j)) (fun env Φ Ψ => f env fun d => Ψ (env.set j (some d))) := fun w n P σ H env D Φ Ψ nd hf k1 k2 => h w n P σ H env _ _ nd hf fun v d H' B W r hd => k2 _ _ H' B ((nd.next B W).set ij r) hd
theorem nd_seq {t u : TS} {g g' : NS} (ht : NdS i q1 t g) (hu : NdS i q2 u g') : NdS i (q1 + q2) (tSeq t u) (fun env Φ Ψ => g env Φ fun env' => g' env' Φ Ψ) := fun w n P σ H env D Φ Ψ nd hf k1 k2 =>
  ht w (n + q2) P σ H env { D with nx := u D } Φ _ (nd.le (by omega)) hf (fun v d H' B W r hd => k1 v d H' B (W.le (by omega)) r hd) fun σ' env' H' B nd' h' => hu w n P σ' H' env' D Φ Ψ nd' h' (fun v d H2 B2 W r hd => k1 v d H2 (B.trans B2) W r hd) fun σ2 env2 H2 B2 nd2 h2 => k2 σ2 env2 H2 (B.trans B2) nd2 h2
theorem nd_ifS {t u : TS} {g g' : NS} (hx : NdT i q1 tt ft) (ht : NdS i q2 t g) (hu : NdS i q3 u g') : NdS i (q1 + (q2 + q3)) (tIfS tt t u) (fun env Φ Ψ => ft env fun b => if b = true then g env Φ Ψ else g' env Φ Ψ) := fun w n P σ H env D Φ Ψ nd hf k1 k2 =>
  hx w (n + (q2 + q3)) P σ H env _ _ (nd.le (by omega)) hf fun b H1 B1 W1 h1 => by
    cases b with
    | true => exact iteT (ht w (n + q3) P σ H1 env D Φ Ψ (nd.next B1 (W1.le (by omega))) h1 (fun v d H2 B2 W2 r2 h2 => k1 v d H2 (B1.trans B2) (W2.le (by omega)) r2 h2) fun σ2 env2 H2 B2 nd2 h2 => k2 σ2 env2 H2 (B1.trans B2) (nd2.le (by omega)) h2)
    | false => exact iteF (hu w (n + q2) P σ H1 env D Φ Ψ (nd.next B1 (W1.le (by omega))) h1 (fun v d H2 B2 W2 r2 h2 => k1 v d H2 (B1.trans B2) (W2.le (by omega)) r2 h2) fun σ2 env2 H2 B2 nd2 h2 => k2 σ2 env2 H2 (B1.trans B2) (nd2.le (by omega)) h2)
theorem NdS.le {q' : Nat} {t : TS} {g : NS} (h : NdS i q t g) (l : q ≤ q') : NdS i q' t g := fun w n P σ H env D Φ Ψ nd hf k1 k2 => h w (n + (q' - q)) P σ H env D Φ Ψ (nd.le (by omega)) hf (fun v d H' B W r hd => k1 v d H' B (W.le (by omega)) r hd) fun σ' env' H' B nd' h' => k2 σ' env' H' B (nd'.le (by omega)) h'
def envN (N : List Str) (ds : List E) : List (Option E) := none :: (ds.map some ++ List.replicate (N.length - (ds.length + 1)) none)
theorem en_startN {H : Hp} {N : List Str} {w : Addr} {us : List V} {ds : List E} (r : RpL H us ds) : En H (L2.start N (.ref w :: us)) (envN N ds) := by
  have hl := r.length
  refine ⟨?_, fun j d e => ?_⟩
  · show ((V.ref w :: us).map some ++ List.replicate (N.length - (V.ref w :: us).length) none).length = _
    unfold envN
    simp [hl]
  · cases j with
    | zero => cases e
    | succ j =>
      have e : (ds.map some ++ List.replicate (N.length - (ds.length + 1)) none)[j]? = some (some d) := e
      show ∃ v, (us.map some ++ List.replicate (N.length - (us.length + 1)) none)[j]? = some (some v) ∧ _
      by_cases hj : j < ds.length
      · rw [List.getElem?_append_left (by rw [List.length_map]; exact hj), List.getElem?_map] at e
        obtain ⟨d', h1, h2⟩ := Option.map_eq_some_iff.mp e
        cases h2
        have hj' : j < us.length := by omega
        refine ⟨us[j], ?_, r.get j _ _ (List.getElem?_eq_getElem hj') h1⟩
        rw [List.getElem?_append_left (by rw [List.length_map]; exact hj'), List.getElem?_map, List.getElem?_eq_getElem hj']
        rfl
      · rw [List.getElem?_append_right (by rw [List.length_map]; omega)] at e
        have := List.mem_of_getElem? e
        rw [List.mem_replicate] at this
        cases this.2
theorem nd_def {t : TS} {g : NS} {F : List E → (E → Prop) → Prop} {N : List Str} {vs : List V} {H : Hp} {Q : VK} {E0 : XK} {q0 : Nat} (nd : NdS 0 q0 t g) (le : q0 ≤ q) (hF : ∀ ds Φ, F ds Φ → g (envN N ds) Φ fun _ => Φ .non) (h : spN q F vs H Q E0) : t { nx := fun _ H' => Q .non H', rt := Q } (L2.start N vs) H := by
  obtain ⟨n, P, w, us, ds, Φ, rfl, r, fr, nw, W, hf, k⟩ := h
  exact (nd.le le) w n P _ H (envN N ds) _ Φ _ ⟨en_startN r, fr, nw, W, rfl⟩ (hF ds Φ hf) k fun σ' env' H' B nd' h' => k .non .non H' B nd'.wl .non h'
theorem spN_len {F : List E → (E → Prop) → Prop} {m : Nat} (hF : ∀ ds Φ, F ds Φ → ds.length = m) {vs : List V} {H : Hp} {Q : VK} {E0 : XK} (h : spN q F vs H Q E0) : vs.length = m + 1 := by
  obtain ⟨n, P, w, us, ds, Φ, rfl, r, fr, nw, W, hf, k⟩ := h
  rw [List.length_cons, r.length, hF ds Φ hf]
end
def drawN : List E → (E → Prop) → Prop
  | [.int m], Φ => 0 < m ∧ m < 1000000 ∧ ∀ d : Int, 0 ≤ d → d < m → Φ (.int d)
  | _, _ => False
def oneN : List E → (E → Prop) → Prop
  | [.lst l], Φ => 0 < l.length ∧ ∀ d ∈ l, Φ d
  | _, _ => False
section
variable {P : Program} {w : World} {K : PySem.W.Frag} {mg : Str → Option Value} {base : Heap} {f : Addr} {fd : FuncData} {k : Nat}
theorem draw_nd {ps : List Str} (G : FnOk P w K mg base CX0 k f fd ps spDraw) : FnOk P w K mg base CX0 k f fd ps (spN 1 drawN) := G.imp fun vs H Q E0 h => by
  obtain ⟨n, Pr, w, us, ds, Φ, rfl, r, fr, nw, ⟨a, b, c, W, hc⟩, hf, k⟩ := h
  unfold drawN at hf
  split at hf
  · obtain ⟨m0, m1, hΦ⟩ := hf
    cases r with
    | @cons v _ _ _ h1 t =>
    cases t
    cases h1
    exact ⟨w, a, b, c, _, rfl, W, by omega, m0, m1, fun d a' c' H' d0 d1 hc' W' B => k _ _ H' B ⟨a', b, c', W', by omega⟩ (.int d) (hΦ d d0 d1)⟩
  · cases hf
theorem one_nd {ps : List Str} (G : FnOk P w K mg base CX0 k f fd ps (spOne K)) : FnOk P w K mg base CX0 k f fd ps (spN 1 oneN) := G.imp fun vs H Q E0 h => by
  obtain ⟨n, Pr, w, us, ds, Φ, rfl, r, fr, nw, ⟨a, b, c, W, hc⟩, hf, k⟩ := h
  unfold oneN at hf
  split at hf
  · obtain ⟨l0, hΦ⟩ := hf
    cases r with
    | @cons v _ _ _ h1 t =>
    cases t
    cases h1 with
    | @lst l xs _ hl' hl hz hs =>
    obtain ⟨pl', hx⟩ := keep_some hl'
    refine ⟨w, l, a, b, c, xs, rfl, W, by omega, hx, fun z => nw (z ▸ pl'), by omega, by omega, fun v a' c' H' hv hc' W' B => ?_⟩
    obtain ⟨j, hj⟩ := List.mem_iff_getElem?.mp hv
    have jl : j < _ := (List.getElem?_eq_some_iff.mp hj).1
    have jl' := hl ▸ jl
    exact k v _ H' B ⟨a', b, c', W', by omega⟩ ((hs j v _ hj (List.getElem?_eq_getElem jl')).but nw B) (hΦ _ (List.getElem_mem jl'))
  · cases hf
end
end K05

namespace K05
open PySem L2 XR VT ET
abbrev sLTab : Stmt := top 28
theorem same_new2 {p : Addr} {H : Hp} {o u : HO} (h : H p = none) : Same H (L2.upd (L2.upd H p o) p u) := fun b z e => by rw [upd_ne (ne_of_none e h), upd_ne (ne_of_none e h)]; exact e
theorem pu_dnil : PuE tDNewK (fun _ => some (.map [] [])) := fun P σ H env d Q he hf e k => by
  cases e
  intro p hp
  exact k _ _ (same_new hp) (.map (vs := []) (by rw [keep_at (hf _ hp)]; exact upd_same) rfl rfl (by decide) .nil fun i v d h => nomatch h)
theorem rp_one {H : Hp} {v : V} {d : E} (r : Rp H v d) : ∀ (i : Nat) (v' : V) (d' : E), [v][i]? = some v' → [d][i]? = some d' → Rp H v' d' := fun i v' d' h1 h2 => by
  cases i with
  | zero => cases h1; cases h2; exact r
  | succ i => cases h1
theorem pu_d1 (x : Str) (v : V) (d0 : E) (hr : ∀ H, Rp H v d0) : PuE (tDisp [(tC (.str x), tC v)]) (fun _ => some (.map [.inr x] [d0])) := fun P σ H env d Q he hf e k => by
  cases e
  intro p hp
  exact ⟨upd_same, [(Sum.inr x, v)], rfl, (by decide : 1 ≤ 15), k _ _ (same_new2 hp) (.map (vs := [v]) (by rw [keep_at (hf _ hp)]; exact upd_same) rfl rfl (by simp) (by simp) (rp_one (hr _)))⟩
theorem pu_d1i (x : Int) (v : V) (d0 : E) (hr : ∀ H, Rp H v d0) : PuE (tDisp [(tC (.int x), tC v)]) (fun _ => some (.map [.inl x] [d0])) := fun P σ H env d Q he hf e k => by
  cases e
  intro p hp
  exact ⟨upd_same, [(Sum.inl x, v)], rfl, (by decide : 1 ≤ 15), k _ _ (same_new2 hp) (.map (vs := [v]) (by rw [keep_at (hf _ hp)]; exact upd_same) rfl rfl (by simp) (by simp) (rp_one (hr _)))⟩
theorem pu_d2 (x y : Str) (v u : V) (d1 d2 : E) (hxy : x ≠ y) (hr : ∀ H, Rp H v d1) (hu : ∀ H, Rp H u d2) : PuE (tDisp [(tC (.str x), tC v), (tC (.str y), tC u)]) (fun _ => some (.map [.inr x, .inr y] [d1, d2])) := fun P σ H env d Q he hf e k => by
  cases e
  intro p hp
  have hne : ¬ (Sum.inr x : L2.Key) = Sum.inr y := fun z => hxy (Sum.inr.inj z)
  have em : mergeK [] [((Sum.inr x : L2.Key), v), (Sum.inr y, u)] = [((Sum.inr x : L2.Key), v), (Sum.inr y, u)] := by simp [mergeK, putK, hne]
  refine ⟨upd_same, [(Sum.inr x, v), (Sum.inr y, u)], rfl, (by decide : 2 ≤ 15), ?_⟩
  rw [em]
  refine k _ _ (same_new2 hp) (.map (vs := [v, u]) (by rw [keep_at (hf _ hp)]; exact upd_same) rfl rfl (by simp) (by simp [hne]) fun i v' d' h1 h2 => ?_)
  match i, h1, h2 with
  | 0, h1, h2 => cases h1; cases h2; exact hr _
  | 1, h1, h2 => cases h1; cases h2; exact hu _
  | i + 2, h1, h2 => cases h1
theorem itd {p q : Prop} {b : Bool} (ht : b = true → p) (hf : b = false → q) : if b = true then p else q := by
  cases b with
  | true => exact iteT (ht rfl)
  | false => exact iteF (hf rfl)
theorem rpS {x : Str} (h : TxOk x) : ∀ H : Hp, Rp H (.str x) (.str x) := fun _ => .str x h
theorem rpI {x : Int} : ∀ H : Hp, Rp H (.int x) (.int x) := fun _ => .int x
def tabs : List E := [.map [] [], .map [.inr "A"] [.str "a"], .map [.inr "a", .inr "b"] [.str "b", .str "a"]]
def tabN : List E → (E → Prop) → Prop
  | [], Φ => Φ .non ∧ ∀ d ∈ tabs, Φ d
  | _, _ => False
section
variable {P : Program} {w : World} {K : PySem.W.Frag} {mg : Str → Option Value} {base : Heap}
variable {CS : List Addr}
theorem scLT : FnScope ["_law_well_here"] ["_law_well_here"] (defScope sLTab) := ⟨rfl, rfl, rfl, by decide +kernel, rfl, by decide +kernel, by decide +kernel⟩
theorem ok_ltab {f fDr fOn : Addr} {fd dDr dOn : FuncData} (F : Fun K "_law_table" "_law_table" sLTab f fd) (T : Txt mg) (hC : ∀ C ∈ CS, CF K C)
    (GDr : FnOk P w K mg base CX0 1 fDr dDr ["_law_well_here", "_law_below"] (spN 1 drawN)) (gDr : mg "_law_draw" = some (.ref fDr)) (kDr : PySem.W.keepIn K (.ref fDr) = true) (bDr : Binds K dDr ["_law_well_here", "_law_below"] [])
    (GOn : FnOk P w K mg base CX0 2 fOn dOn ["_law_well_here", "_law_some"] (spN 1 oneN)) (gOn : mg "_law_one" = some (.ref fOn)) (kOn : PySem.W.keepIn K (.ref fOn) = true) (bOn : Binds K dOn ["_law_well_here", "_law_some"] []) : FnOk P w K mg base CX0 3 f fd ["_law_well_here"] (spN 10 tabN) := by
  refine F.ok scLT (fun vs H Q E0 h => spN_len (m := 0) (fun ds Φ h => by cases ds with | nil => rfl | cons a l => cases h) h) (fun cdv A outer s H vs Q E0 hr h => ?_)
  have hr2 : Room 2 _ := hr
  have hr1 : Room 1 _ := hr.mono (by decide)
  refine ⟨_, (pss_one (ps_ret (pe_ifExp (pt_cmpR op_gt (pe_call GDr hr1 rfl gDr kDr bDr .nil pass0 (pa_cons (pv 0) (pa_cons pe_int pa_nil))) pe_int (nomark _)) pe_non (pe_call GOn hr2 rfl gOn kOn bOn .nil pass0 (pa_cons (pv 0) (pa_cons (pe_lst (pa_cons pe_dnewK (pa_cons (pe_disp (pps_cons pe_str pe_str pps_nil) (by rfl) (by rfl) (fun z => by cases z) (by decide)) (pa_cons (pe_disp (pps_cons pe_str pe_str (pps_cons pe_str pe_str pps_nil)) (by rfl) (by rfl) (fun z => by cases z) (by decide)) pa_nil)))) pa_nil)))))), ?_⟩
  apply nd_def (h := h)
  case nd => (repeat' first
    | with_reducible exact nd_next | with_reducible exact nd_nil
    | with_reducible apply nd_ret | with_reducible apply nd_seq | with_reducible apply nd_ifS | (with_reducible apply nd_asg (ij := by decide))
    | ((with_reducible apply nd_pu); ((repeat' first
    | with_reducible exact pu_var _ | with_reducible exact pu_non | with_reducible exact pu_bl _ | with_reducible exact pu_int _ | with_reducible exact pu_nil | with_reducible exact pu_next | with_reducible exact pu_yes
    | with_reducible apply pu_seq | with_reducible apply pu_ifS | with_reducible apply pu_ret | with_reducible apply pu_asg
    | with_reducible apply pu_and | with_reducible apply pu_or | with_reducible apply pu_not | with_reducible apply pu_test | with_reducible apply pu_b
    | with_reducible apply pu_andV | with_reducible apply pu_orV | with_reducible apply pu_notV | with_reducible apply pu_if
    | with_reducible apply pu_isi hC | with_reducible apply pu_cb (hr := pu_len) | with_reducible apply pu_cb (hr := pu_all) | with_reducible apply pu_cb (hr := pu_any) | with_reducible apply pu_cb (hr := pu_tupOf) | with_reducible apply pu_cb (hr := pu_lstOf)
    | with_reducible exact pu_dnil
    | exact pu_d1 _ _ _ (rpS ⟨by decide +kernel, by decide +kernel⟩)
    | exact pu_d1 _ _ _ rpI
    | exact pu_d1i _ _ _ (rpS ⟨by decide +kernel, by decide +kernel⟩)
    | exact pu_d2 _ _ _ _ _ _ (by decide +kernel) (rpS ⟨by decide +kernel, by decide +kernel⟩) (rpS ⟨by decide +kernel, by decide +kernel⟩)
    | with_reducible apply pu_op (hr := pu_ixT) | with_reducible apply pu_op (hr := pu_ixL) | with_reducible apply pu_op (hr := pu_eqS) | with_reducible apply pu_op (hr := pu_neS) | with_reducible apply pu_op (hr := pu_in) | with_reducible apply pu_op (hr := pu_isNo) | with_reducible apply pu_op (hr := pu_notNo)
    | with_reducible apply pu_op (hr := pu_cm) | with_reducible apply pu_op (hr := pu_ar) | with_reducible apply pu_op (hr := pu_eqP) | with_reducible apply pu_op (hr := pu_neP) | with_reducible apply pu_op (hr := pu_catT) | with_reducible apply pu_op (hr := pu_catL)
    | with_reducible apply pu_chain pu_cm pu_cm | with_reducible apply pu_lcV | with_reducible apply pu_dcV | with_reducible apply pu_iTup | with_reducible apply pu_iLst
    | with_reducible apply pu_slT | with_reducible apply pu_slL | with_reducible exact pu_noPart | with_reducible exact pu_part _
    | exact pu_str _ ⟨by decide +kernel, by decide +kernel⟩ | with_reducible apply pu_call | with_reducible apply pu_tup | with_reducible apply pu_lst | with_reducible apply pu_cons | (with_reducible_and_instances rfl) | rfl)); done)
    | ((with_reducible apply nd_pt); ((repeat' first
    | with_reducible exact pu_var _ | with_reducible exact pu_non | with_reducible exact pu_bl _ | with_reducible exact pu_int _ | with_reducible exact pu_nil | with_reducible exact pu_next | with_reducible exact pu_yes
    | with_reducible apply pu_seq | with_reducible apply pu_ifS | with_reducible apply pu_ret | with_reducible apply pu_asg
    | with_reducible apply pu_and | with_reducible apply pu_or | with_reducible apply pu_not | with_reducible apply pu_test | with_reducible apply pu_b
    | with_reducible apply pu_andV | with_reducible apply pu_orV | with_reducible apply pu_notV | with_reducible apply pu_if
    | with_reducible apply pu_isi hC | with_reducible apply pu_cb (hr := pu_len) | with_reducible apply pu_cb (hr := pu_all) | with_reducible apply pu_cb (hr := pu_any) | with_reducible apply pu_cb (hr := pu_tupOf) | with_reducible apply pu_cb (hr := pu_lstOf)
    | with_reducible exact pu_dnil
    | exact pu_d1 _ _ _ (rpS ⟨by decide +kernel, by decide +kernel⟩)
    | exact pu_d1 _ _ _ rpI
    | exact pu_d1i _ _ _ (rpS ⟨by decide +kernel, by decide +kernel⟩)
    | exact pu_d2 _ _ _ _ _ _ (by decide +kernel) (rpS ⟨by decide +kernel, by decide +kernel⟩) (rpS ⟨by decide +kernel, by decide +kernel⟩)
    | with_reducible apply pu_op (hr := pu_ixT) | with_reducible apply pu_op (hr := pu_ixL) | with_reducible apply pu_op (hr := pu_eqS) | with_reducible apply pu_op (hr := pu_neS) | with_reducible apply pu_op (hr := pu_in) | with_reducible apply pu_op (hr := pu_isNo) | with_reducible apply pu_op (hr := pu_notNo)
    | with_reducible apply pu_op (hr := pu_cm) | with_reducible apply pu_op (hr := pu_ar) | with_reducible apply pu_op (hr := pu_eqP) | with_reducible apply pu_op (hr := pu_neP) | with_reducible apply pu_op (hr := pu_catT) | with_reducible apply pu_op (hr := pu_catL)
    | with_reducible apply pu_chain pu_cm pu_cm | with_reducible apply pu_lcV | with_reducible apply pu_dcV | with_reducible apply pu_iTup | with_reducible apply pu_iLst
    | with_reducible apply pu_slT | with_reducible apply pu_slL | with_reducible exact pu_noPart | with_reducible exact pu_part _
    | exact pu_str _ ⟨by decide +kernel, by decide +kernel⟩ | with_reducible apply pu_call | with_reducible apply pu_tup | with_reducible apply pu_lst | with_reducible apply pu_cons | (with_reducible_and_instances rfl) | rfl)); done)
    | with_reducible apply nd_if | with_reducible apply nd_test | with_reducible apply nd_call | with_reducible apply nd_cons
    | with_reducible apply nd_op (hr := pu_cm) | with_reducible apply nd_op (hr := pu_eqS) | with_reducible apply nd_tup | with_reducible apply nd_lst)
  case le => decide
  case hF =>
    intro ds Φ h
    cases ds with
    | cons a l => cases h
    | nil =>
      obtain ⟨h1, h2⟩ := h
      refine ⟨_, rfl, (by decide : (0 : Int) < 3), (by decide : (3 : Int) < 1000000), fun i i0 i3 => ⟨_, rfl, _, rfl, _, rfl, ?_⟩⟩
      exact itd (fun _ => ⟨_, rfl, h1⟩) (fun _ => ⟨_, rfl, (by decide : 0 < 3), h2⟩)
end
end K05

namespace K05
open PySem L2 XR VT ET
abbrev sSaid : Stmt := top 30
def saidE (CK : Addr) (ds : List E) : E := match kindE ds with
  | none => .ins CK flds ds
  | some p => .tup [.str "refused", .str p]
def saidF (CK : Addr) : List E → Option E
  | [.lst ds] => if kindD ds = true then some (saidE CK ds) else none
  | _ => none
theorem saidF_len {CK : Addr} (ds : List E) (d : E) (h : saidF CK ds = some d) : ds.length = 1 := by
  unfold saidF at h
  split at h
  · rfl
  · cases h
section
variable {t tk : TA} {fl fk : FA} {H : Hp} {σ : L2.St} {Pr : Addr → Prop} {env : List (Option E)} {l1 l2 : List E} {n m : Nat} {C : Addr} {sp : Sp} {gV : List V → List V → List V} {E0 : XK} {Q : VK}
theorem step_make (p1 : PuA t fl) (p2 : PuA tk fk) (he : En (keepH Pr H) σ env) (hf : Fr Pr H) (e1 : fl env = some l1) (e2 : fk env = some l2) (h1 : l1.length = n) (h2 : l2.length = m)
    (k : ∀ vs zs H2, Same H H2 → RpL (keepH Pr H2) vs l1 → RpL (keepH Pr H2) zs l2 → ∀ x dx, H2 x = none → H2 dx = none → dx ≠ x → sp (gV (.ref x :: vs) zs) (upd (upd H2 dx (.own x)) x (.ins C dx [])) (fun v H3 => v = .non ∧ Q (.ref x) H3) E0) : tRet (tMakeK C n m sp gV E0 t tk) { nx := fun _ H' => Q .non H', rt := Q } σ H :=
  p1 Pr σ H env l1 _ he hf e1 fun vs H1 m1 r1 => p2 Pr σ H1 env l2 _ (he.keepS m1) (hf.same m1) e2 fun zs H2 m2 r2 => ⟨r1.length.trans h1, r2.length.trans h2, k vs zs H2 (m1.trans m2) (r1.mono (keep_same m2)) r2⟩
end
theorem passL {X : Cx} {W : WX} (n : Nat) (hn : X.N.length = n) (tk : Takes X W) : Passes (L2.CX X.prog X.w) X (fun cls d H => ∀ σ' : L2.St, σ'.length = n → W cls d σ' H) := fun pins σ H s e s' I c => tk e s' (XE.of_call I (fun cls d H' h => h σ (I.len.trans hn)) c)
theorem kind_tx {ds : List E} {p : Str} (h : kindE ds = some p) : TxOk p := by
  unfold kindE at h
  split at h
  · split at h
    · cases h; exact ⟨by decide +kernel, by decide +kernel⟩
    · split at h
      · cases h; exact ⟨by decide +kernel, by decide +kernel⟩
      · split at h
        · cases h; exact ⟨by decide +kernel, by decide +kernel⟩
        · split at h
          · cases h; exact ⟨by decide +kernel, by decide +kernel⟩
          · split at h
            · cases h; exact ⟨by decide +kernel, by decide +kernel⟩
            · cases h
  · cases h
section
variable {P : Program} {w : World} {K : PySem.W.Frag} {mg : Str → Option Value} {base : Heap}
variable {CS : List Addr}
theorem scSa : FnScope ["_law_some", "e"] ["_law_some"] (defScope sSaid) := ⟨rfl, rfl, rfl, by decide +kernel, rfl, by decide +kernel, by decide +kernel⟩
theorem ok_said {f CK CN CP fI fK : Addr} {fd dI dK : FuncData} (F : Fun K "_law_said" "_law_said" sSaid f fd) (T : Txt mg) (hC : ∀ C ∈ CS, CF K C) (NK : New1 P w K mg base CP "NoKind" "part" CN fI dI) (nP : CN ≠ CP)
    (M : Mk K CK fK) (gK : mg "Kind" = some (.ref CK)) (GK : FnOk P w K mg base (L2.CX P w) 3 fK dK ["self", "name", "given", "made", "single", "holds"] (spKI CK CN)) (hb : KBn K dK ["self", "name", "given", "made", "single", "holds"] 4 ["single", "holds"] (fun us ws => us ++ ws) (fun vs zs => vs ++ zs)) : FnOk P w K mg base CX0 5 f fd ["_law_some"] (spP (saidF CK)) := by
  refine F.ok scSa (fun vs H Q E0 h => spP_len saidF_len h) (fun cdv A outer s H vs Q E0 hr h => ?_)
  obtain ⟨Pr, ds, d, r, fr, e, k⟩ := h
  unfold saidF at e
  split at e
  case h_2 => cases e
  rename_i ds
  split at e
  case isFalse => cases e
  rename_i hd
  cases e
  obtain ⟨n, g, m, s', h', rfl⟩ := kindD_eq hd
  refine ⟨_, pss_one (ps_try_as (i := 1) (c := .ref CN) rfl rfl scSa.nd rfl rfl ⟨rfl, by decide, .inl NK.g⟩ LamX.takes0
    (fun W pn xe tk _ => pss_one (ps_ret (pe_makeK M GK hr rfl gK hb (passL 2 rfl tk) (pa_cons (pe_ix (ix_lstK (K := K) rfl) (pv 0) pe_int (fun _ _ => rfl)) (pa_cons (pe_ix (ix_lstK (K := K) rfl) (pv 0) pe_int (fun _ _ => rfl)) (pa_cons (pe_ix (ix_lstK (K := K) rfl) (pv 0) pe_int (fun _ _ => rfl)) pa_nil))) (pk_cons (pe_ix (ix_lstK (K := K) rfl) (pv 0) pe_int (fun _ _ => rfl)) (pk_cons (pe_ix (ix_lstK (K := K) rfl) (pv 0) pe_int (fun _ _ => rfl)) pk_nil)))))
    (fun a oe cls d pn hz hf => pss_one (ps_ret (pe_tup (pa_cons pe_str (pa_cons (pe_xf NK.xc.xf NK.no hz hf (pv 1)) pa_nil)))))), ?_⟩
  apply step_make (he := en_start r) (hf := fr) (l1 := [n, g, m]) (l2 := [s', h'])
  case p1 => (repeat' first
    | with_reducible exact pu_var _ | with_reducible exact pu_non | with_reducible exact pu_bl _ | with_reducible exact pu_int _ | with_reducible exact pu_nil | with_reducible exact pu_next | with_reducible exact pu_yes
    | with_reducible apply pu_seq | with_reducible apply pu_ifS | with_reducible apply pu_ret | with_reducible apply pu_asg
    | with_reducible apply pu_and | with_reducible apply pu_or | with_reducible apply pu_not | with_reducible apply pu_test | with_reducible apply pu_b
    | with_reducible apply pu_andV | with_reducible apply pu_orV | with_reducible apply pu_notV | with_reducible apply pu_if
    | with_reducible apply pu_isi hC | with_reducible apply pu_cb (hr := pu_len) | with_reducible apply pu_cb (hr := pu_all) | with_reducible apply pu_cb (hr := pu_any) | with_reducible apply pu_cb (hr := pu_tupOf) | with_reducible apply pu_cb (hr := pu_lstOf)
    
    | with_reducible apply pu_op (hr := pu_ixT) | with_reducible apply pu_op (hr := pu_ixL) | with_reducible apply pu_op (hr := pu_eqS) | with_reducible apply pu_op (hr := pu_neS) | with_reducible apply pu_op (hr := pu_in) | with_reducible apply pu_op (hr := pu_isNo) | with_reducible apply pu_op (hr := pu_notNo)
    | with_reducible apply pu_op (hr := pu_cm) | with_reducible apply pu_op (hr := pu_ar) | with_reducible apply pu_op (hr := pu_eqP) | with_reducible apply pu_op (hr := pu_neP) | with_reducible apply pu_op (hr := pu_catT) | with_reducible apply pu_op (hr := pu_catL)
    | with_reducible apply pu_chain pu_cm pu_cm | with_reducible apply pu_lcV | with_reducible apply pu_dcV | with_reducible apply pu_iTup | with_reducible apply pu_iLst
    | with_reducible apply pu_slT | with_reducible apply pu_slL | with_reducible exact pu_noPart | with_reducible exact pu_part _
    | exact pu_str _ ⟨by decide +kernel, by decide +kernel⟩ | with_reducible apply pu_call | with_reducible apply pu_tup | with_reducible apply pu_lst | with_reducible apply pu_cons | (with_reducible_and_instances rfl) | rfl)
  case p2 => (repeat' first
    | with_reducible exact pu_var _ | with_reducible exact pu_non | with_reducible exact pu_bl _ | with_reducible exact pu_int _ | with_reducible exact pu_nil | with_reducible exact pu_next | with_reducible exact pu_yes
    | with_reducible apply pu_seq | with_reducible apply pu_ifS | with_reducible apply pu_ret | with_reducible apply pu_asg
    | with_reducible apply pu_and | with_reducible apply pu_or | with_reducible apply pu_not | with_reducible apply pu_test | with_reducible apply pu_b
    | with_reducible apply pu_andV | with_reducible apply pu_orV | with_reducible apply pu_notV | with_reducible apply pu_if
    | with_reducible apply pu_isi hC | with_reducible apply pu_cb (hr := pu_len) | with_reducible apply pu_cb (hr := pu_all) | with_reducible apply pu_cb (hr := pu_any) | with_reducible apply pu_cb (hr := pu_tupOf) | with_reducible apply pu_cb (hr := pu_lstOf)
    
    | with_reducible apply pu_op (hr := pu_ixT) | with_reducible apply pu_op (hr := pu_ixL) | with_reducible apply pu_op (hr := pu_eqS) | with_reducible apply pu_op (hr := pu_neS) | with_reducible apply pu_op (hr := pu_in) | with_reducible apply pu_op (hr := pu_isNo) | with_reducible apply pu_op (hr := pu_notNo)
    | with_reducible apply pu_op (hr := pu_cm) | with_reducible apply pu_op (hr := pu_ar) | with_reducible apply pu_op (hr := pu_eqP) | with_reducible apply pu_op (hr := pu_neP) | with_reducible apply pu_op (hr := pu_catT) | with_reducible apply pu_op (hr := pu_catL)
    | with_reducible apply pu_chain pu_cm pu_cm | with_reducible apply pu_lcV | with_reducible apply pu_dcV | with_reducible apply pu_iTup | with_reducible apply pu_iLst
    | with_reducible apply pu_slT | with_reducible apply pu_slL | with_reducible exact pu_noPart | with_reducible exact pu_part _
    | exact pu_str _ ⟨by decide +kernel, by decide +kernel⟩ | with_reducible apply pu_call | with_reducible apply pu_tup | with_reducible apply pu_lst | with_reducible apply pu_cons | (with_reducible_and_instances rfl) | rfl)
  case e1 => rfl
  case e2 => rfl
  case h1 => rfl
  case h2 => rfl
  intro vs zs H2 m2 r1 r2 x dx hx hdx ne
  have fr2 := fr.same m2
  have mG : Same H2 (upd (upd H2 dx (.own x)) x (.ins CK dx [])) := fun b o e => by rw [upd_ne (ne_of_none e hx), upd_ne (ne_of_none e hdx)]; exact e
  refine ⟨Pr, x, dx, vs ++ zs, [n, g, m, s', h'], rfl, upd_same, ?_, fr2.same mG, hd, fun ek H3 B3 h3 => ⟨rfl, ?_⟩, fun part ek dd H3 m3 hdd h3 => ?_⟩
  · exact (r1.app r2).mono (keep_same mG)
  · have m3 : Same H2 H3 := fun b o e => B3 b o (mG b o e) (ne_of_none e hx)
    have rr := (r1.app r2).mono (keep_same (P := Pr) m3)
    refine k (.ref x) H3 (m2.trans m3) ?_
    have es : saidE CK [n, g, m, s', h'] = .ins CK flds [n, g, m, s', h'] := by
      unfold saidE
      rw [ek]
    rw [es]
    exact .ins (by rw [keep_at (fr2 x hx)]; exact h3) rr.length rfl (by simp) rr.get
  · intro σ' hl
    match σ', hl with
    | [a0, a1], _ =>
    refine ⟨true, (NK.xc.exm NK.xc nP).trans (congrArg some (decide_eq_true rfl)), fun _ a ha => ?_, fun z => Bool.noConfusion z⟩
    refine ⟨_, rfl, rfl, rfl, dd, _, .str part, rfl, h3, (by simp [List.lookup_cons]), (by show 2 ≤ sizeLine; decide), fun t ht => ?_⟩
    have m23 := mG.trans m3
    have m4 := m23.trans (same_new (o := .tup [.str "refused", .str part]) ht)
    refine k (.ref t) _ (m2.trans m4) ?_
    have es : saidE CK [n, g, m, s', h'] = .tup [.str "refused", .str part] := by
      unfold saidE
      rw [ek]
    rw [es]
    have rr : RpL (keepH Pr (L2.upd H3 t (.tup [.str "refused", .str part]))) [.str "refused", .str part] [.str "refused", .str part] := .cons (.str _ ⟨by decide +kernel, by decide +kernel⟩) (.cons (.str _ (kind_tx ek)) .nil)
    exact .tup (by rw [keep_at (fr2.same m23 t ht)]; exact upd_same) rfl (by simp) rr.get
end
end K05

namespace K05
open PySem L2 XR VT ET
abbrev sGOdd : Stmt := top 31
def gOdds (a b c d : E) (rest : List E) : List E :=
  [.lst (.tup [a, b, c, d] :: rest), .non, .tup ((.tup [a, b, c, d] :: rest) ++ [.tup [a, b, c, d]]), .tup [.non], .tup [.tup [a, b, c]], .tup [.tup [a, b, c, d, .int 1]], .tup [.tup [.int 7, b, c, d]], .tup [.map [] []],
   .tup [.tup [.str "Size", b, c, d]], .tup [.tup [a, .str "made", c, d]], .tup [.tup [a, b, .int 1, d]],
   .tup [.tup [a, b, c, .map [.inr "a"] [.int 5]]], .tup [.tup [a, b, c, .map [.inl 5] [.str "a"]]], .tup [.tup [a, b, c, .lst []]], .tup [.tup [a, .lst [], c, d]],
   .tup [.lst [a, b, c, d]], .tup [.tup [a, .non, c, d]], .tup [.tup [a, .str "", c, d]]]
def gOddN : List E → (E → Prop) → Prop
  | [.tup (.tup [a, b, c, d] :: rest)], Φ => rest.length ≤ 3 ∧ ∀ o ∈ gOdds a b c d rest, Φ o
  | _, _ => False
section
variable {P : Program} {w : World} {K : PySem.W.Frag} {mg : Str → Option Value} {base : Heap}
variable {CS : List Addr}
theorem scGO : FnScope ["_law_well_here", "_law_given", "_law_row", "_law_odd"] ["_law_well_here", "_law_given"] (defScope sGOdd) := ⟨rfl, rfl, rfl, by decide +kernel, rfl, by decide +kernel, by decide +kernel⟩
theorem ok_godd {f fOn : Addr} {fd dOn : FuncData} (F : Fun K "_law_given_odd" "_law_given_odd" sGOdd f fd) (T : Txt mg) (hC : ∀ C ∈ CS, CF K C)
    (GOn : FnOk P w K mg base CX0 2 fOn dOn ["_law_well_here", "_law_some"] (spN 1 oneN)) (gOn : mg "_law_one" = some (.ref fOn)) (kOn : PySem.W.keepIn K (.ref fOn) = true) (bOn : Binds K dOn ["_law_well_here", "_law_some"] []) : FnOk P w K mg base CX0 3 f fd ["_law_well_here", "_law_given"] (spN 10 gOddN) := by
  refine F.ok scGO (fun vs H Q E0 h => spN_len (m := 1) (fun ds Φ h => by unfold gOddN at h; split at h; rfl; cases h) h) (fun cdv A outer s H vs Q E0 hr h => ?_)
  have hr2 : Room 2 _ := hr
  refine ⟨_, (pss_cons (ps_set (i := 2) scGO.nd rfl (Or.inl rfl) (pe_ix (ix_tupK (K := K) rfl) (pv 1) pe_int (fun _ _ => rfl)))
      (pss_cons (ps_set (i := 3) scGO.nd rfl (Or.inl rfl) (pe_lst (pa_cons (pe_callTy (call_lstK (K := K) rfl) (by rfl) T.list (by decide +kernel) (pa_cons (pv 1) pa_nil)) (pa_cons pe_non (pa_cons (pe_op (op_catTK (K := K) rfl) (pv 1) (pe_tup (pa_cons (pv 2) pa_nil))) (pa_cons (pe_tup (pa_cons pe_non pa_nil)) (pa_cons (pe_tup (pa_cons (pe_slice (sl_tupK (K := K) rfl) (pv 2) po_none (po_some pe_int)) pa_nil)) (pa_cons (pe_tup (pa_cons (pe_op (op_catTK (K := K) rfl) (pv 2) (pe_tup (pa_cons pe_int pa_nil))) pa_nil)) (pa_cons (pe_tup (pa_cons (pe_op (op_catTK (K := K) rfl) (pe_tup (pa_cons pe_int pa_nil)) (pe_slice (sl_tupK (K := K) rfl) (pv 2) (po_some pe_int) po_none)) pa_nil)) (pa_cons (pe_tup (pa_cons pe_dnewK pa_nil)) pa_nil))))))))))
      (pss_cons (ps_set (i := 3) scGO.nd rfl (Or.inl rfl) (pe_op op_cat (pv 3) (pe_lst (pa_cons (pe_tup (pa_cons (pe_op (op_catTK (K := K) rfl) (pe_tup (pa_cons pe_str pa_nil)) (pe_slice (sl_tupK (K := K) rfl) (pv 2) (po_some pe_int) po_none)) pa_nil)) (pa_cons (pe_tup (pa_cons (pe_op (op_catTK (K := K) rfl) (pe_tup (pa_cons (pe_ix (ix_tupK (K := K) rfl) (pv 2) pe_int (fun _ _ => rfl)) (pa_cons pe_str pa_nil))) (pe_slice (sl_tupK (K := K) rfl) (pv 2) (po_some pe_int) po_none)) pa_nil)) (pa_cons (pe_tup (pa_cons (pe_op (op_catTK (K := K) rfl) (pe_slice (sl_tupK (K := K) rfl) (pv 2) po_none (po_some pe_int)) (pe_tup (pa_cons pe_int (pa_cons (pe_ix (ix_tupK (K := K) rfl) (pv 2) pe_int (fun _ _ => rfl)) pa_nil)))) pa_nil)) pa_nil))))))
      (pss_cons (ps_set (i := 3) scGO.nd rfl (Or.inl rfl) (pe_op op_cat (pv 3) (pe_lst (pa_cons (pe_tup (pa_cons (pe_op (op_catTK (K := K) rfl) (pe_slice (sl_tupK (K := K) rfl) (pv 2) po_none (po_some pe_int)) (pe_tup (pa_cons (pe_disp (pps_cons pe_str pe_int pps_nil) (by rfl) (by rfl) (fun z => by cases z) (by decide)) pa_nil))) pa_nil)) (pa_cons (pe_tup (pa_cons (pe_op (op_catTK (K := K) rfl) (pe_slice (sl_tupK (K := K) rfl) (pv 2) po_none (po_some pe_int)) (pe_tup (pa_cons (pe_disp (pps_cons pe_int pe_str pps_nil) (by rfl) (by rfl) (fun z => by cases z) (by decide)) pa_nil))) pa_nil)) (pa_cons (pe_tup (pa_cons (pe_op (op_catTK (K := K) rfl) (pe_slice (sl_tupK (K := K) rfl) (pv 2) po_none (po_some pe_int)) (pe_tup (pa_cons (pe_lst pa_nil) pa_nil))) pa_nil)) (pa_cons (pe_tup (pa_cons (pe_op (op_catTK (K := K) rfl) (pe_tup (pa_cons (pe_ix (ix_tupK (K := K) rfl) (pv 2) pe_int (fun _ _ => rfl)) (pa_cons (pe_lst pa_nil) pa_nil))) (pe_slice (sl_tupK (K := K) rfl) (pv 2) (po_some pe_int) po_none)) pa_nil)) pa_nil)))))))
      (pss_one (ps_ret (pe_call GOn hr2 rfl gOn kOn bOn .nil pass0 (pa_cons (pv 0) (pa_cons (pe_op op_cat (pv 3) (pe_lst (pa_cons (pe_tup (pa_cons (pe_callTy (call_lstK (K := K) rfl) (by rfl) T.list (by decide +kernel) (pa_cons (pv 2) pa_nil)) pa_nil)) (pa_cons (pe_tup (pa_cons (pe_op (op_catTK (K := K) rfl) (pe_tup (pa_cons (pe_ix (ix_tupK (K := K) rfl) (pv 2) pe_int (fun _ _ => rfl)) (pa_cons pe_non pa_nil))) (pe_slice (sl_tupK (K := K) rfl) (pv 2) (po_some pe_int) po_none)) pa_nil)) (pa_cons (pe_tup (pa_cons (pe_op (op_catTK (K := K) rfl) (pe_tup (pa_cons (pe_ix (ix_tupK (K := K) rfl) (pv 2) pe_int (fun _ _ => rfl)) (pa_cons pe_str pa_nil))) (pe_slice (sl_tupK (K := K) rfl) (pv 2) (po_some pe_int) po_none)) pa_nil)) pa_nil))))) pa_nil))))))))), ?_⟩
  apply nd_def (h := h)
  case nd => (repeat' first
    | with_reducible exact nd_next | with_reducible exact nd_nil
    | with_reducible apply nd_ret | with_reducible apply nd_seq | with_reducible apply nd_ifS | (with_reducible apply nd_asg (ij := by decide))
    | ((with_reducible apply nd_pu); ((repeat' first
    | with_reducible exact pu_var _ | with_reducible exact pu_non | with_reducible exact pu_bl _ | with_reducible exact pu_int _ | with_reducible exact pu_nil | with_reducible exact pu_next | with_reducible exact pu_yes
    | with_reducible apply pu_seq | with_reducible apply pu_ifS | with_reducible apply pu_ret | with_reducible apply pu_asg
    | with_reducible apply pu_and | with_reducible apply pu_or | with_reducible apply pu_not | with_reducible apply pu_test | with_reducible apply pu_b
    | with_reducible apply pu_andV | with_reducible apply pu_orV | with_reducible apply pu_notV | with_reducible apply pu_if
    | with_reducible apply pu_isi hC | with_reducible apply pu_cb (hr := pu_len) | with_reducible apply pu_cb (hr := pu_all) | with_reducible apply pu_cb (hr := pu_any) | with_reducible apply pu_cb (hr := pu_tupOf) | with_reducible apply pu_cb (hr := pu_lstOf)
    | with_reducible exact pu_dnil
    | exact pu_d1 _ _ _ (rpS ⟨by decide +kernel, by decide +kernel⟩)
    | exact pu_d1 _ _ _ rpI
    | exact pu_d1i _ _ _ (rpS ⟨by decide +kernel, by decide +kernel⟩)
    | exact pu_d2 _ _ _ _ _ _ (by decide +kernel) (rpS ⟨by decide +kernel, by decide +kernel⟩) (rpS ⟨by decide +kernel, by decide +kernel⟩)
    | with_reducible apply pu_op (hr := pu_ixT) | with_reducible apply pu_op (hr := pu_ixL) | with_reducible apply pu_op (hr := pu_eqS) | with_reducible apply pu_op (hr := pu_neS) | with_reducible apply pu_op (hr := pu_in) | with_reducible apply pu_op (hr := pu_isNo) | with_reducible apply pu_op (hr := pu_notNo)
    | with_reducible apply pu_op (hr := pu_cm) | with_reducible apply pu_op (hr := pu_ar) | with_reducible apply pu_op (hr := pu_eqP) | with_reducible apply pu_op (hr := pu_neP) | with_reducible apply pu_op (hr := pu_catT) | with_reducible apply pu_op (hr := pu_catL)
    | with_reducible apply pu_chain pu_cm pu_cm | with_reducible apply pu_lcV | with_reducible apply pu_dcV | with_reducible apply pu_iTup | with_reducible apply pu_iLst
    | with_reducible apply pu_slT | with_reducible apply pu_slL | with_reducible exact pu_noPart | with_reducible exact pu_part _
    | exact pu_str _ ⟨by decide +kernel, by decide +kernel⟩ | with_reducible apply pu_call | with_reducible apply pu_tup | with_reducible apply pu_lst | with_reducible apply pu_cons | (with_reducible_and_instances rfl) | rfl)); done)
    | ((with_reducible apply nd_pt); ((repeat' first
    | with_reducible exact pu_var _ | with_reducible exact pu_non | with_reducible exact pu_bl _ | with_reducible exact pu_int _ | with_reducible exact pu_nil | with_reducible exact pu_next | with_reducible exact pu_yes
    | with_reducible apply pu_seq | with_reducible apply pu_ifS | with_reducible apply pu_ret | with_reducible apply pu_asg
    | with_reducible apply pu_and | with_reducible apply pu_or | with_reducible apply pu_not | with_reducible apply pu_test | with_reducible apply pu_b
    | with_reducible apply pu_andV | with_reducible apply pu_orV | with_reducible apply pu_notV | with_reducible apply pu_if
    | with_reducible apply pu_isi hC | with_reducible apply pu_cb (hr := pu_len) | with_reducible apply pu_cb (hr := pu_all) | with_reducible apply pu_cb (hr := pu_any) | with_reducible apply pu_cb (hr := pu_tupOf) | with_reducible apply pu_cb (hr := pu_lstOf)
    | with_reducible exact pu_dnil
    | exact pu_d1 _ _ _ (rpS ⟨by decide +kernel, by decide +kernel⟩)
    | exact pu_d1 _ _ _ rpI
    | exact pu_d1i _ _ _ (rpS ⟨by decide +kernel, by decide +kernel⟩)
    | exact pu_d2 _ _ _ _ _ _ (by decide +kernel) (rpS ⟨by decide +kernel, by decide +kernel⟩) (rpS ⟨by decide +kernel, by decide +kernel⟩)
    | with_reducible apply pu_op (hr := pu_ixT) | with_reducible apply pu_op (hr := pu_ixL) | with_reducible apply pu_op (hr := pu_eqS) | with_reducible apply pu_op (hr := pu_neS) | with_reducible apply pu_op (hr := pu_in) | with_reducible apply pu_op (hr := pu_isNo) | with_reducible apply pu_op (hr := pu_notNo)
    | with_reducible apply pu_op (hr := pu_cm) | with_reducible apply pu_op (hr := pu_ar) | with_reducible apply pu_op (hr := pu_eqP) | with_reducible apply pu_op (hr := pu_neP) | with_reducible apply pu_op (hr := pu_catT) | with_reducible apply pu_op (hr := pu_catL)
    | with_reducible apply pu_chain pu_cm pu_cm | with_reducible apply pu_lcV | with_reducible apply pu_dcV | with_reducible apply pu_iTup | with_reducible apply pu_iLst
    | with_reducible apply pu_slT | with_reducible apply pu_slL | with_reducible exact pu_noPart | with_reducible exact pu_part _
    | exact pu_str _ ⟨by decide +kernel, by decide +kernel⟩ | with_reducible apply pu_call | with_reducible apply pu_tup | with_reducible apply pu_lst | with_reducible apply pu_cons | (with_reducible_and_instances rfl) | rfl)); done)
    | with_reducible apply nd_if | with_reducible apply nd_test | with_reducible apply nd_call | with_reducible apply nd_cons
    | with_reducible apply nd_op (hr := pu_cm) | with_reducible apply nd_op (hr := pu_eqS) | with_reducible apply nd_tup | with_reducible apply nd_lst)
  case le => decide
  case hF =>
    intro ds Φ h
    unfold gOddN at h
    split at h
    case h_2 => cases h
    rename_i a b c d rest
    obtain ⟨hl, h⟩ := h
    match rest, hl, h with
    | [], _, h => exact ⟨_, rfl, _, rfl, _, rfl, _, rfl, _, rfl, (by decide : 0 < 18), h⟩
    | [x], _, h => exact ⟨_, rfl, _, rfl, _, rfl, _, rfl, _, rfl, (by decide : 0 < 18), h⟩
    | [x, y], _, h => exact ⟨_, rfl, _, rfl, _, rfl, _, rfl, _, rfl, (by decide : 0 < 18), h⟩
    | [x, y, z], _, h => exact ⟨_, rfl, _, rfl, _, rfl, _, rfl, _, rfl, (by decide : 0 < 18), h⟩
end
end K05

namespace K05
open PySem L2 XR VT ET
abbrev sMOdd : Stmt := top 32
def kR (r : E) : E := .tup [.str "k", r]
def kN (x : Str) : E := .tup [.str x, .tup [.str "mark"]]
def longs : List E := [kN "aa", kN "ab", kN "ac", kN "ad", kN "ae", kN "af", kN "ag", kN "ah"]
def tabRow : E → Bool
  | .tup [_, _, _, .non] => false
  | _ => true
def arRow (x : E) : E := .tup [.str "k", .tup [.str "around", frst x, .str "", .str ""]]
/-- what is put behind made -/
def mBad (a : E) : List E :=
  [kR (.tup [.str "id"]), .tup [a, .tup [.str "mark"]], kR (.tup [.str "around", .str "w", .str "", .str ""]), kR (.tup [.str "around", a, .str ""]), kR (.tup [.str "around", a, .str "", .int 5]), kR (.tup []), kR (.lst [.str "mark"]), kR (.tup [.str "marks"]), kN "K", .str "k", kN "k_k", kN "k-", kR .non, kR (.tup [.str "mark", .int 1])]
def mOther (m : E) (ms : List E) : List E := [.tup [], .lst (m :: ms), .non, .tup (kN "k" :: m :: ms), .tup (kN "id" :: ms), .tup (m :: longs)]
def mOddN : List E → (E → Prop) → Prop
  | [.tup rows, .tup (m :: ms)], Φ => ∃ a b c d rest, rows = .tup [a, b, c, d] :: rest ∧ rows.length ≤ 4 ∧ ms.length ≤ 3 ∧ (∀ x ∈ rows, ∃ a b c d, x = .tup [a, b, c, d]) ∧
      (∀ o ∈ mOther m ms, Φ o) ∧ Φ (.tup (m :: ms ++ [m])) ∧ (∀ x ∈ mBad a, Φ (.tup (m :: ms ++ [x]))) ∧ ∀ x ∈ rows, tabRow x = true → Φ (.tup (m :: ms ++ [arRow x]))
  | _, _ => False
theorem op_addSK {X : Cx} : OpR X (binaryOp .Add) rAddS := op_add_str
def chars : List Str := [⟨#[97]⟩, ⟨#[98]⟩, ⟨#[99]⟩, ⟨#[100]⟩, ⟨#[101]⟩, ⟨#[102]⟩, ⟨#[103]⟩, ⟨#[104]⟩]
theorem chr8 : chrF "abcdefgh" = some (chars.map E.str) := by
  unfold chrF
  rw [if_pos ⟨by decide +kernel, by decide +kernel⟩]
  unfold chrs
  rw [show ("abcdefgh" : Str).cps.toList = [97, 98, 99, 100, 101, 102, 103, 104] by decide +kernel]
  rfl
def gLong (x : E) : E := .tup [.str ("a" ++ (match x with | .str y => y | _ => "")), .tup [.str "mark"]]
theorem longs_eq : ((chars.map E.str).filter fun _ => true).map gLong = longs := by
  have e : ∀ (x y : Str), ("a" ++ x : Str) = y → gLong (.str x) = kN y := fun x y h => by
    show E.tup [.str ("a" ++ x), _] = _
    rw [h]
    rfl
  show [gLong (.str _), gLong (.str _), gLong (.str _), gLong (.str _), gLong (.str _), gLong (.str _), gLong (.str _), gLong (.str _)] = _
  rw [e _ "aa" (by decide +kernel), e _ "ab" (by decide +kernel), e _ "ac" (by decide +kernel), e _ "ad" (by decide +kernel), e _ "ae" (by decide +kernel), e _ "af" (by decide +kernel), e _ "ag" (by decide +kernel), e _ "ah" (by decide +kernel)]
  rfl
theorem add_chr {x : Str} (h : x ∈ chars) : addS (.str "a") (.str x) = some (.str ("a" ++ x)) := by
  have : txT ("a" ++ x) = true ∧ ("a" : Str).length + x.length ≤ 900 := by
    simp only [chars, List.mem_cons, List.not_mem_nil, or_false] at h
    rcases h with rfl | rfl | rfl | rfl | rfl | rfl | rfl | rfl <;> exact ⟨by decide +kernel, by decide +kernel⟩
  show (if _ then _ else _) = _
  rw [if_pos this]
theorem rep_ok {l : List E} (h : l.length ≤ 300) : repE (.lst l) (.int 3) = some (.lst (l ++ l ++ l)) := by
  show (if _ then _ else _) = _
  rw [if_pos ⟨by decide, by decide, by show l.length * 3 ≤ 900; omega⟩]
  show some (E.lst (l ++ (l ++ (l ++ [])))) = _
  rw [List.append_nil, List.append_assoc]
theorem cat_ok {l m : List E} (h : l.length + m.length ≤ 900) : catL (.lst l) (.lst m) = some (.lst (l ++ m)) := by
  show (if _ then _ else _) = _
  rw [if_pos h]
theorem allc {Φ : E → Prop} {a : E} {l : List E} (h : Φ a) (t : ∀ o ∈ l, Φ o) : ∀ o ∈ a :: l, Φ o := fun o ho => by
  rcases List.mem_cons.mp ho with rfl | ho
  · exact h
  · exact t o ho
theorem alln {Φ : E → Prop} : ∀ o ∈ ([] : List E), Φ o := fun o ho => nomatch ho
theorem alla {Φ : E → Prop} {l m : List E} (h : ∀ o ∈ l, Φ o) (t : ∀ o ∈ m, Φ o) : ∀ o ∈ l ++ m, Φ o := fun o ho => by
  rcases List.mem_append.mp ho with ho | ho
  · exact h o ho
  · exact t o ho
theorem mo {l : List E} {o : E} (i : Nat) (h : l[i]? = some o) : o ∈ l := List.mem_of_getElem? h
theorem tabRow_ft {r : E} (h : ∃ a b c d, r = .tup [a, b, c, d]) : (((some r).bind fun d => (some (E.int 3)).bind fun e => ixT d e).bind fun d => (some E.non).bind fun e => notNo d e).bind toB = some (tabRow r) := by
  obtain ⟨a, b, c, d, rfl⟩ := h
  cases d <;> rfl
section
variable {P : Program} {w : World} {K : PySem.W.Frag} {mg : Str → Option Value} {base : Heap}
variable {CS : List Addr}
theorem scMO : FnScope ["_law_well_here", "_law_given", "_law_made", "_law_name", "_law_odd", "_law_long", "_law_letter", "_law_row"] ["_law_well_here", "_law_given", "_law_made"] (defScope sMOdd) := ⟨rfl, rfl, rfl, by decide +kernel, rfl, by decide +kernel, by decide +kernel⟩
theorem ok_modd {f fOn : Addr} {fd dOn : FuncData} (F : Fun K "_law_made_odd" "_law_made_odd" sMOdd f fd) (T : Txt mg) (hC : ∀ C ∈ CS, CF K C)
    (GOn : FnOk P w K mg base CX0 2 fOn dOn ["_law_well_here", "_law_some"] (spN 1 oneN)) (gOn : mg "_law_one" = some (.ref fOn)) (kOn : PySem.W.keepIn K (.ref fOn) = true) (bOn : Binds K dOn ["_law_well_here", "_law_some"] []) : FnOk P w K mg base CX0 3 f fd ["_law_well_here", "_law_given", "_law_made"] (spN 10 mOddN) := by
  refine F.ok scMO (fun vs H Q E0 h => spN_len (m := 2) (fun ds Φ h => by unfold mOddN at h; split at h; rfl; cases h) h) (fun cdv A outer s H vs Q E0 hr h => ?_)
  have hr2 : Room 2 _ := hr
  refine ⟨_, (pss_cons (ps_set (i := 3) scMO.nd rfl (Or.inl rfl) (pe_ix (ix_tupK (K := K) rfl) (pe_ix (ix_tupK (K := K) rfl) (pv 1) pe_int (fun _ _ => rfl)) pe_int (fun _ _ => rfl)))
      (pss_cons (ps_set (i := 4) scMO.nd rfl (Or.inl rfl) (pe_lst (pa_cons (pe_tup pa_nil) (pa_cons (pe_callTy (call_lstK (K := K) rfl) (by rfl) T.list (by decide +kernel) (pa_cons (pv 2) pa_nil)) (pa_cons pe_non (pa_cons (pe_op (op_catTK (K := K) rfl) (pv 2) (pe_tup (pa_cons (pe_ix (ix_tupK (K := K) rfl) (pv 2) pe_int (fun _ _ => rfl)) pa_nil))) (pa_cons (pe_op (op_catTK (K := K) rfl) (pv 2) (pe_tup (pa_cons (pe_tup (pa_cons pe_str (pa_cons (pe_tup (pa_cons pe_str pa_nil)) pa_nil))) pa_nil))) (pa_cons (pe_op (op_catTK (K := K) rfl) (pv 2) (pe_tup (pa_cons (pe_tup (pa_cons (pv 3) (pa_cons (pe_tup (pa_cons pe_str pa_nil)) pa_nil))) pa_nil))) pa_nil))))))))
      (pss_cons (ps_set (i := 4) scMO.nd rfl (Or.inl rfl) (pe_op op_cat (pv 4) (pe_lst (pa_cons (pe_op (op_catTK (K := K) rfl) (pe_tup (pa_cons (pe_tup (pa_cons pe_str (pa_cons (pe_tup (pa_cons pe_str pa_nil)) pa_nil))) pa_nil)) (pv 2)) (pa_cons (pe_op (op_catTK (K := K) rfl) (pe_tup (pa_cons (pe_tup (pa_cons pe_str (pa_cons (pe_tup (pa_cons pe_str pa_nil)) pa_nil))) pa_nil)) (pe_slice (sl_tupK (K := K) rfl) (pv 2) (po_some pe_int) po_none)) (pa_cons (pe_op (op_catTK (K := K) rfl) (pv 2) (pe_tup (pa_cons (pe_tup (pa_cons pe_str (pa_cons (pe_tup (pa_cons pe_str (pa_cons pe_str (pa_cons pe_str (pa_cons pe_str pa_nil))))) pa_nil))) pa_nil))) pa_nil))))))
      (pss_cons (ps_set (i := 4) scMO.nd rfl (Or.inl rfl) (pe_op op_cat (pv 4) (pe_lst (pa_cons (pe_op (op_catTK (K := K) rfl) (pv 2) (pe_tup (pa_cons (pe_tup (pa_cons pe_str (pa_cons (pe_tup (pa_cons pe_str (pa_cons (pv 3) (pa_cons pe_str pa_nil)))) pa_nil))) pa_nil))) (pa_cons (pe_op (op_catTK (K := K) rfl) (pv 2) (pe_tup (pa_cons (pe_tup (pa_cons pe_str (pa_cons (pe_tup (pa_cons pe_str (pa_cons (pv 3) (pa_cons pe_str (pa_cons pe_int pa_nil))))) pa_nil))) pa_nil))) (pa_cons (pe_op (op_catTK (K := K) rfl) (pv 2) (pe_tup (pa_cons (pe_tup (pa_cons pe_str (pa_cons (pe_tup pa_nil) pa_nil))) pa_nil))) pa_nil))))))
      (pss_cons (ps_set (i := 4) scMO.nd rfl (Or.inl rfl) (pe_op op_cat (pv 4) (pe_lst (pa_cons (pe_op (op_catTK (K := K) rfl) (pv 2) (pe_tup (pa_cons (pe_tup (pa_cons pe_str (pa_cons (pe_lst (pa_cons pe_str pa_nil)) pa_nil))) pa_nil))) (pa_cons (pe_op (op_catTK (K := K) rfl) (pv 2) (pe_tup (pa_cons (pe_tup (pa_cons pe_str (pa_cons (pe_tup (pa_cons pe_str pa_nil)) pa_nil))) pa_nil))) (pa_cons (pe_op (op_catTK (K := K) rfl) (pv 2) (pe_tup (pa_cons (pe_tup (pa_cons pe_str (pa_cons (pe_tup (pa_cons pe_str pa_nil)) pa_nil))) pa_nil))) (pa_cons (pe_op (op_catTK (K := K) rfl) (pv 2) (pe_tup (pa_cons pe_str pa_nil))) pa_nil)))))))
      (pss_cons (ps_set (i := 4) scMO.nd rfl (Or.inl rfl) (pe_op op_cat (pv 4) (pe_lst (pa_cons (pe_op (op_catTK (K := K) rfl) (pv 2) (pe_tup (pa_cons (pe_tup (pa_cons pe_str (pa_cons (pe_tup (pa_cons pe_str pa_nil)) pa_nil))) pa_nil))) (pa_cons (pe_op (op_catTK (K := K) rfl) (pv 2) (pe_tup (pa_cons (pe_tup (pa_cons pe_str (pa_cons (pe_tup (pa_cons pe_str pa_nil)) pa_nil))) pa_nil))) pa_nil)))))
      (pss_cons (ps_set (i := 5) scMO.nd rfl (Or.inl rfl) (pe_callTy (call_tupK (K := K) rfl) (by rfl) T.tuple (by decide +kernel) (pa_cons (pe_lc (own := [("_law_letter", 6)]) (g := gName 6) (tt := tYes) rfl scMO.nd (pi_str pe_str) (blkOk_by (own := [("_law_letter", 6)]) (N := ["_law_well_here", "_law_given", "_law_made", "_law_name", "_law_odd", "_law_long", "_law_letter", "_law_row"]) (sc := (defScope sMOdd)) (by decide +kernel)) (fun _ _ _ _ _ => pg_name (i := 6) scMO.nd rfl (Or.inl rfl)) (fun _ _ _ _ _ => pts_nil) (fun _ _ _ _ _ => (pe_tup (pa_cons (pe_op op_addSK pe_str (pv 6)) (pa_cons (pe_tup (pa_cons pe_str pa_nil)) pa_nil))))) pa_nil)))
      (pss_cons (ps_set (i := 4) scMO.nd rfl (Or.inl rfl) (pe_op op_cat (pv 4) (pe_op op_rep (pe_lc (own := [("_law_row", 7)]) (g := gName 7) rfl scMO.nd (pi_tupK (K := K) rfl (pv 1)) (blkOk_by (own := [("_law_row", 7)]) (N := ["_law_well_here", "_law_given", "_law_made", "_law_name", "_law_odd", "_law_long", "_law_letter", "_law_row"]) (sc := (defScope sMOdd)) (by decide +kernel)) (fun _ _ _ _ _ => pg_name (i := 7) scMO.nd rfl (Or.inl rfl)) (fun _ _ _ _ _ => pts_one (pt_cmpR op_notNo (pe_ix (ix_tupK (K := K) rfl) (pv 7) pe_int (fun _ _ => rfl)) pe_non (nomark _))) (fun _ _ _ _ _ => (pe_op (op_catTK (K := K) rfl) (pv 2) (pe_tup (pa_cons (pe_tup (pa_cons pe_str (pa_cons (pe_tup (pa_cons pe_str (pa_cons (pe_ix (ix_tupK (K := K) rfl) (pv 7) pe_int (fun _ _ => rfl)) (pa_cons pe_str (pa_cons pe_str pa_nil))))) pa_nil))) pa_nil))))) pe_int)))
      (pss_one (ps_ret (pe_call GOn hr2 rfl gOn kOn bOn .nil pass0 (pa_cons (pv 0) (pa_cons (pe_op op_cat (pv 4) (pe_lst (pa_cons (pe_op (op_catTK (K := K) rfl) (pe_slice (sl_tupAK (K := K) rfl) (pv 2) po_none (po_some pe_int)) (pv 5)) (pa_cons (pe_op (op_catTK (K := K) rfl) (pv 2) (pe_tup (pa_cons (pe_tup (pa_cons pe_str (pa_cons pe_non pa_nil))) pa_nil))) (pa_cons (pe_op (op_catTK (K := K) rfl) (pv 2) (pe_tup (pa_cons (pe_tup (pa_cons pe_str (pa_cons (pe_tup (pa_cons pe_str (pa_cons pe_int pa_nil))) pa_nil))) pa_nil))) pa_nil))))) pa_nil))))))))))))), ?_⟩
  apply nd_def (h := h)
  case nd => (repeat' first
    | with_reducible exact nd_next | with_reducible exact nd_nil
    | with_reducible apply nd_ret | with_reducible apply nd_seq | with_reducible apply nd_ifS | (with_reducible apply nd_asg (ij := by decide))
    | ((with_reducible apply nd_pu); ((repeat' first
    | with_reducible exact pu_var _ | with_reducible exact pu_non | with_reducible exact pu_bl _ | with_reducible exact pu_int _ | with_reducible exact pu_nil | with_reducible exact pu_next | with_reducible exact pu_yes
    | with_reducible apply pu_seq | with_reducible apply pu_ifS | with_reducible apply pu_ret | with_reducible apply pu_asg
    | with_reducible apply pu_and | with_reducible apply pu_or | with_reducible apply pu_not | with_reducible apply pu_test | with_reducible apply pu_b
    | with_reducible apply pu_andV | with_reducible apply pu_orV | with_reducible apply pu_notV | with_reducible apply pu_if
    | with_reducible apply pu_isi hC | with_reducible apply pu_cb (hr := pu_len) | with_reducible apply pu_cb (hr := pu_all) | with_reducible apply pu_cb (hr := pu_any) | with_reducible apply pu_cb (hr := pu_tupOf) | with_reducible apply pu_cb (hr := pu_lstOf)
    | with_reducible exact pu_dnil
    | exact pu_d1 _ _ _ (rpS ⟨by decide +kernel, by decide +kernel⟩)
    | exact pu_d1 _ _ _ rpI
    | exact pu_d1i _ _ _ (rpS ⟨by decide +kernel, by decide +kernel⟩)
    | exact pu_d2 _ _ _ _ _ _ (by decide +kernel) (rpS ⟨by decide +kernel, by decide +kernel⟩) (rpS ⟨by decide +kernel, by decide +kernel⟩)
    | with_reducible apply pu_slA
    | with_reducible apply pu_op (hr := pu_addS)
    | with_reducible apply pu_op (hr := pu_rep)
    | with_reducible apply pu_iStr
    | with_reducible apply pu_op (hr := pu_ixT) | with_reducible apply pu_op (hr := pu_ixL) | with_reducible apply pu_op (hr := pu_eqS) | with_reducible apply pu_op (hr := pu_neS) | with_reducible apply pu_op (hr := pu_in) | with_reducible apply pu_op (hr := pu_isNo) | with_reducible apply pu_op (hr := pu_notNo)
    | with_reducible apply pu_op (hr := pu_cm) | with_reducible apply pu_op (hr := pu_ar) | with_reducible apply pu_op (hr := pu_eqP) | with_reducible apply pu_op (hr := pu_neP) | with_reducible apply pu_op (hr := pu_catT) | with_reducible apply pu_op (hr := pu_catL)
    | with_reducible apply pu_chain pu_cm pu_cm | with_reducible apply pu_lcV | with_reducible apply pu_dcV | with_reducible apply pu_iTup | with_reducible apply pu_iLst
    | with_reducible apply pu_slT | with_reducible apply pu_slL | with_reducible exact pu_noPart | with_reducible exact pu_part _
    | exact pu_str _ ⟨by decide +kernel, by decide +kernel⟩ | with_reducible apply pu_call | with_reducible apply pu_tup | with_reducible apply pu_lst | with_reducible apply pu_cons | (with_reducible_and_instances rfl) | rfl)); done)
    | ((with_reducible apply nd_pt); ((repeat' first
    | with_reducible exact pu_var _ | with_reducible exact pu_non | with_reducible exact pu_bl _ | with_reducible exact pu_int _ | with_reducible exact pu_nil | with_reducible exact pu_next | with_reducible exact pu_yes
    | with_reducible apply pu_seq | with_reducible apply pu_ifS | with_reducible apply pu_ret | with_reducible apply pu_asg
    | with_reducible apply pu_and | with_reducible apply pu_or | with_reducible apply pu_not | with_reducible apply pu_test | with_reducible apply pu_b
    | with_reducible apply pu_andV | with_reducible apply pu_orV | with_reducible apply pu_notV | with_reducible apply pu_if
    | with_reducible apply pu_isi hC | with_reducible apply pu_cb (hr := pu_len) | with_reducible apply pu_cb (hr := pu_all) | with_reducible apply pu_cb (hr := pu_any) | with_reducible apply pu_cb (hr := pu_tupOf) | with_reducible apply pu_cb (hr := pu_lstOf)
    | with_reducible exact pu_dnil
    | exact pu_d1 _ _ _ (rpS ⟨by decide +kernel, by decide +kernel⟩)
    | exact pu_d1 _ _ _ rpI
    | exact pu_d1i _ _ _ (rpS ⟨by decide +kernel, by decide +kernel⟩)
    | exact pu_d2 _ _ _ _ _ _ (by decide +kernel) (rpS ⟨by decide +kernel, by decide +kernel⟩) (rpS ⟨by decide +kernel, by decide +kernel⟩)
    | with_reducible apply pu_slA
    | with_reducible apply pu_op (hr := pu_addS)
    | with_reducible apply pu_op (hr := pu_rep)
    | with_reducible apply pu_iStr
    | with_reducible apply pu_op (hr := pu_ixT) | with_reducible apply pu_op (hr := pu_ixL) | with_reducible apply pu_op (hr := pu_eqS) | with_reducible apply pu_op (hr := pu_neS) | with_reducible apply pu_op (hr := pu_in) | with_reducible apply pu_op (hr := pu_isNo) | with_reducible apply pu_op (hr := pu_notNo)
    | with_reducible apply pu_op (hr := pu_cm) | with_reducible apply pu_op (hr := pu_ar) | with_reducible apply pu_op (hr := pu_eqP) | with_reducible apply pu_op (hr := pu_neP) | with_reducible apply pu_op (hr := pu_catT) | with_reducible apply pu_op (hr := pu_catL)
    | with_reducible apply pu_chain pu_cm pu_cm | with_reducible apply pu_lcV | with_reducible apply pu_dcV | with_reducible apply pu_iTup | with_reducible apply pu_iLst
    | with_reducible apply pu_slT | with_reducible apply pu_slL | with_reducible exact pu_noPart | with_reducible exact pu_part _
    | exact pu_str _ ⟨by decide +kernel, by decide +kernel⟩ | with_reducible apply pu_call | with_reducible apply pu_tup | with_reducible apply pu_lst | with_reducible apply pu_cons | (with_reducible_and_instances rfl) | rfl)); done)
    | with_reducible apply nd_if | with_reducible apply nd_test | with_reducible apply nd_call | with_reducible apply nd_cons
    | with_reducible apply nd_op (hr := pu_cm) | with_reducible apply nd_op (hr := pu_eqS) | with_reducible apply nd_tup | with_reducible apply nd_lst)
  case le => decide
  case hF =>
    intro ds Φ h
    unfold mOddN at h
    split at h
    case h_2 => cases h
    rename_i rows m ms
    obtain ⟨a, b, c, d, rest, hrow, hl, hm, h4, h1, h2, h3, h5⟩ := h
    subst hrow
    have r4 : rest.length ≤ 3 := by simpa using hl
    match rest, ms, r4, hm, h4, h5, h1, h2, h3 with
    | [], [], _, _, h4, h5, h1, h2, h3 =>
      refine ⟨_, rfl, _, rfl, _, rfl, _, rfl, _, rfl, _, rfl, _, bnd [.lst longs] (bnd (.lst longs) (bnd _ chr8 ?l1) rfl) rfl, ?_⟩
      case l1 =>
        rw [← longs_eq]
        refine mp _ (lcE_filter (fun _ => true) gLong _ (fun _ _ => rfl) fun x hx _ => ?_)
        obtain ⟨c, hc, rfl⟩ := List.mem_map.mp hx
        exact bnd [.str ("a" ++ c), .tup [.str "mark"]] (bnd _ (bnd _ rfl (bnd _ rfl (add_chr hc))) rfl) rfl
      have hR : ∀ rs : List E, rs.length ≤ 4 → ((rs.filter tabRow).map fun x => E.tup ((m :: []) ++ [arRow x])).length ≤ 4 := fun rs z => by
        rw [List.length_map]
        exact Nat.le_trans (List.length_filter_le _ _) z
      have hA : ∀ o ∈ ((E.tup [a, b, c, d] :: []).filter tabRow).map fun x => E.tup ((m :: []) ++ [arRow x]), Φ o := fun o ho => by
        obtain ⟨x, hx, rfl⟩ := List.mem_map.mp ho
        obtain ⟨hx1, hx2⟩ := List.mem_filter.mp hx
        exact h5 x hx1 hx2
      have hL := hR (E.tup [a, b, c, d] :: []) (by simp)
      generalize eR : ((E.tup [a, b, c, d] :: []).filter tabRow).map (fun x => E.tup ((m :: []) ++ [arRow x])) = R at hA hL
      refine ⟨_, bnd _ rfl (bnd (.lst (R ++ R ++ R)) (bnd (.lst R) (bnd (E.tup [a, b, c, d] :: []) rfl (eR ▸ mp _ (lcE_filter tabRow (fun x => E.tup ((m :: []) ++ [arRow x])) _ (fun x hx => tabRow_ft (h4 x hx)) fun x hx _ => ?l2))) (bnd _ rfl (rep_ok (by omega)))) (cat_ok ?l3)), ?_⟩
      case l2 =>
        obtain ⟨a', b', c', d', rfl⟩ := h4 x hx
        rfl
      case l3 => simp; omega
      refine ⟨_, bnd _ rfl (bnd _ rfl (cat_ok ?l4)), ?_, ?_⟩
      case l4 => simp; omega
      · simp
      · exact alla (alla (alla (alla (alla (alla (allc (h1 _ (mo 0 rfl)) (allc (h1 _ (mo 1 rfl)) (allc (h1 _ (mo 2 rfl)) (allc h2 (allc (h3 _ (mo 0 rfl)) (allc (h3 _ (mo 1 rfl)) alln)))))) (allc (h1 _ (mo 3 rfl)) (allc (h1 _ (mo 4 rfl)) (allc (h3 _ (mo 2 rfl)) alln)))) (allc (h3 _ (mo 3 rfl)) (allc (h3 _ (mo 4 rfl)) (allc (h3 _ (mo 5 rfl)) alln)))) (allc (h3 _ (mo 6 rfl)) (allc (h3 _ (mo 7 rfl)) (allc (h3 _ (mo 8 rfl)) (allc (h3 _ (mo 9 rfl)) alln))))) (allc (h3 _ (mo 10 rfl)) (allc (h3 _ (mo 11 rfl)) alln))) (alla (alla hA hA) hA)) (allc (h1 _ (mo 5 rfl)) (allc (h3 _ (mo 12 rfl)) (allc (h3 _ (mo 13 rfl)) alln)))
    | [], [v0], _, _, h4, h5, h1, h2, h3 =>
      refine ⟨_, rfl, _, rfl, _, rfl, _, rfl, _, rfl, _, rfl, _, bnd [.lst longs] (bnd (.lst longs) (bnd _ chr8 ?l1) rfl) rfl, ?_⟩
      case l1 =>
        rw [← longs_eq]
        refine mp _ (lcE_filter (fun _ => true) gLong _ (fun _ _ => rfl) fun x hx _ => ?_)
        obtain ⟨c, hc, rfl⟩ := List.mem_map.mp hx
        exact bnd [.str ("a" ++ c), .tup [.str "mark"]] (bnd _ (bnd _ rfl (bnd _ rfl (add_chr hc))) rfl) rfl
      have hR : ∀ rs : List E, rs.length ≤ 4 → ((rs.filter tabRow).map fun x => E.tup ((m :: [v0]) ++ [arRow x])).length ≤ 4 := fun rs z => by
        rw [List.length_map]
        exact Nat.le_trans (List.length_filter_le _ _) z
      have hA : ∀ o ∈ ((E.tup [a, b, c, d] :: []).filter tabRow).map fun x => E.tup ((m :: [v0]) ++ [arRow x]), Φ o := fun o ho => by
        obtain ⟨x, hx, rfl⟩ := List.mem_map.mp ho
        obtain ⟨hx1, hx2⟩ := List.mem_filter.mp hx
        exact h5 x hx1 hx2
      have hL := hR (E.tup [a, b, c, d] :: []) (by simp)
      generalize eR : ((E.tup [a, b, c, d] :: []).filter tabRow).map (fun x => E.tup ((m :: [v0]) ++ [arRow x])) = R at hA hL
      refine ⟨_, bnd _ rfl (bnd (.lst (R ++ R ++ R)) (bnd (.lst R) (bnd (E.tup [a, b, c, d] :: []) rfl (eR ▸ mp _ (lcE_filter tabRow (fun x => E.tup ((m :: [v0]) ++ [arRow x])) _ (fun x hx => tabRow_ft (h4 x hx)) fun x hx _ => ?l2))) (bnd _ rfl (rep_ok (by omega)))) (cat_ok ?l3)), ?_⟩
      case l2 =>
        obtain ⟨a', b', c', d', rfl⟩ := h4 x hx
        rfl
      case l3 => simp; omega
      refine ⟨_, bnd _ rfl (bnd _ rfl (cat_ok ?l4)), ?_, ?_⟩
      case l4 => simp; omega
      · simp
      · exact alla (alla (alla (alla (alla (alla (allc (h1 _ (mo 0 rfl)) (allc (h1 _ (mo 1 rfl)) (allc (h1 _ (mo 2 rfl)) (allc h2 (allc (h3 _ (mo 0 rfl)) (allc (h3 _ (mo 1 rfl)) alln)))))) (allc (h1 _ (mo 3 rfl)) (allc (h1 _ (mo 4 rfl)) (allc (h3 _ (mo 2 rfl)) alln)))) (allc (h3 _ (mo 3 rfl)) (allc (h3 _ (mo 4 rfl)) (allc (h3 _ (mo 5 rfl)) alln)))) (allc (h3 _ (mo 6 rfl)) (allc (h3 _ (mo 7 rfl)) (allc (h3 _ (mo 8 rfl)) (allc (h3 _ (mo 9 rfl)) alln))))) (allc (h3 _ (mo 10 rfl)) (allc (h3 _ (mo 11 rfl)) alln))) (alla (alla hA hA) hA)) (allc (h1 _ (mo 5 rfl)) (allc (h3 _ (mo 12 rfl)) (allc (h3 _ (mo 13 rfl)) alln)))
    | [], [v0, v1], _, _, h4, h5, h1, h2, h3 =>
      refine ⟨_, rfl, _, rfl, _, rfl, _, rfl, _, rfl, _, rfl, _, bnd [.lst longs] (bnd (.lst longs) (bnd _ chr8 ?l1) rfl) rfl, ?_⟩
      case l1 =>
        rw [← longs_eq]
        refine mp _ (lcE_filter (fun _ => true) gLong _ (fun _ _ => rfl) fun x hx _ => ?_)
        obtain ⟨c, hc, rfl⟩ := List.mem_map.mp hx
        exact bnd [.str ("a" ++ c), .tup [.str "mark"]] (bnd _ (bnd _ rfl (bnd _ rfl (add_chr hc))) rfl) rfl
      have hR : ∀ rs : List E, rs.length ≤ 4 → ((rs.filter tabRow).map fun x => E.tup ((m :: [v0, v1]) ++ [arRow x])).length ≤ 4 := fun rs z => by
        rw [List.length_map]
        exact Nat.le_trans (List.length_filter_le _ _) z
      have hA : ∀ o ∈ ((E.tup [a, b, c, d] :: []).filter tabRow).map fun x => E.tup ((m :: [v0, v1]) ++ [arRow x]), Φ o := fun o ho => by
        obtain ⟨x, hx, rfl⟩ := List.mem_map.mp ho
        obtain ⟨hx1, hx2⟩ := List.mem_filter.mp hx
        exact h5 x hx1 hx2
      have hL := hR (E.tup [a, b, c, d] :: []) (by simp)
      generalize eR : ((E.tup [a, b, c, d] :: []).filter tabRow).map (fun x => E.tup ((m :: [v0, v1]) ++ [arRow x])) = R at hA hL
      refine ⟨_, bnd _ rfl (bnd (.lst (R ++ R ++ R)) (bnd (.lst R) (bnd (E.tup [a, b, c, d] :: []) rfl (eR ▸ mp _ (lcE_filter tabRow (fun x => E.tup ((m :: [v0, v1]) ++ [arRow x])) _ (fun x hx => tabRow_ft (h4 x hx)) fun x hx _ => ?l2))) (bnd _ rfl (rep_ok (by omega)))) (cat_ok ?l3)), ?_⟩
      case l2 =>
        obtain ⟨a', b', c', d', rfl⟩ := h4 x hx
        rfl
      case l3 => simp; omega
      refine ⟨_, bnd _ rfl (bnd _ rfl (cat_ok ?l4)), ?_, ?_⟩
      case l4 => simp; omega
      · simp
      · exact alla (alla (alla (alla (alla (alla (allc (h1 _ (mo 0 rfl)) (allc (h1 _ (mo 1 rfl)) (allc (h1 _ (mo 2 rfl)) (allc h2 (allc (h3 _ (mo 0 rfl)) (allc (h3 _ (mo 1 rfl)) alln)))))) (allc (h1 _ (mo 3 rfl)) (allc (h1 _ (mo 4 rfl)) (allc (h3 _ (mo 2 rfl)) alln)))) (allc (h3 _ (mo 3 rfl)) (allc (h3 _ (mo 4 rfl)) (allc (h3 _ (mo 5 rfl)) alln)))) (allc (h3 _ (mo 6 rfl)) (allc (h3 _ (mo 7 rfl)) (allc (h3 _ (mo 8 rfl)) (allc (h3 _ (mo 9 rfl)) alln))))) (allc (h3 _ (mo 10 rfl)) (allc (h3 _ (mo 11 rfl)) alln))) (alla (alla hA hA) hA)) (allc (h1 _ (mo 5 rfl)) (allc (h3 _ (mo 12 rfl)) (allc (h3 _ (mo 13 rfl)) alln)))
    | [], [v0, v1, v2], _, _, h4, h5, h1, h2, h3 =>
      refine ⟨_, rfl, _, rfl, _, rfl, _, rfl, _, rfl, _, rfl, _, bnd [.lst longs] (bnd (.lst longs) (bnd _ chr8 ?l1) rfl) rfl, ?_⟩
      case l1 =>
        rw [← longs_eq]
        refine mp _ (lcE_filter (fun _ => true) gLong _ (fun _ _ => rfl) fun x hx _ => ?_)
        obtain ⟨c, hc, rfl⟩ := List.mem_map.mp hx
        exact bnd [.str ("a" ++ c), .tup [.str "mark"]] (bnd _ (bnd _ rfl (bnd _ rfl (add_chr hc))) rfl) rfl
      have hR : ∀ rs : List E, rs.length ≤ 4 → ((rs.filter tabRow).map fun x => E.tup ((m :: [v0, v1, v2]) ++ [arRow x])).length ≤ 4 := fun rs z => by
        rw [List.length_map]
        exact Nat.le_trans (List.length_filter_le _ _) z
      have hA : ∀ o ∈ ((E.tup [a, b, c, d] :: []).filter tabRow).map fun x => E.tup ((m :: [v0, v1, v2]) ++ [arRow x]), Φ o := fun o ho => by
        obtain ⟨x, hx, rfl⟩ := List.mem_map.mp ho
        obtain ⟨hx1, hx2⟩ := List.mem_filter.mp hx
        exact h5 x hx1 hx2
      have hL := hR (E.tup [a, b, c, d] :: []) (by simp)
      generalize eR : ((E.tup [a, b, c, d] :: []).filter tabRow).map (fun x => E.tup ((m :: [v0, v1, v2]) ++ [arRow x])) = R at hA hL
      refine ⟨_, bnd _ rfl (bnd (.lst (R ++ R ++ R)) (bnd (.lst R) (bnd (E.tup [a, b, c, d] :: []) rfl (eR ▸ mp _ (lcE_filter tabRow (fun x => E.tup ((m :: [v0, v1, v2]) ++ [arRow x])) _ (fun x hx => tabRow_ft (h4 x hx)) fun x hx _ => ?l2))) (bnd _ rfl (rep_ok (by omega)))) (cat_ok ?l3)), ?_⟩
      case l2 =>
        obtain ⟨a', b', c', d', rfl⟩ := h4 x hx
        rfl
      case l3 => simp; omega
      refine ⟨_, bnd _ rfl (bnd _ rfl (cat_ok ?l4)), ?_, ?_⟩
      case l4 => simp; omega
      · simp
      · exact alla (alla (alla (alla (alla (alla (allc (h1 _ (mo 0 rfl)) (allc (h1 _ (mo 1 rfl)) (allc (h1 _ (mo 2 rfl)) (allc h2 (allc (h3 _ (mo 0 rfl)) (allc (h3 _ (mo 1 rfl)) alln)))))) (allc (h1 _ (mo 3 rfl)) (allc (h1 _ (mo 4 rfl)) (allc (h3 _ (mo 2 rfl)) alln)))) (allc (h3 _ (mo 3 rfl)) (allc (h3 _ (mo 4 rfl)) (allc (h3 _ (mo 5 rfl)) alln)))) (allc (h3 _ (mo 6 rfl)) (allc (h3 _ (mo 7 rfl)) (allc (h3 _ (mo 8 rfl)) (allc (h3 _ (mo 9 rfl)) alln))))) (allc (h3 _ (mo 10 rfl)) (allc (h3 _ (mo 11 rfl)) alln))) (alla (alla hA hA) hA)) (allc (h1 _ (mo 5 rfl)) (allc (h3 _ (mo 12 rfl)) (allc (h3 _ (mo 13 rfl)) alln)))
    | [u0], [], _, _, h4, h5, h1, h2, h3 =>
      refine ⟨_, rfl, _, rfl, _, rfl, _, rfl, _, rfl, _, rfl, _, bnd [.lst longs] (bnd (.lst longs) (bnd _ chr8 ?l1) rfl) rfl, ?_⟩
      case l1 =>
        rw [← longs_eq]
        refine mp _ (lcE_filter (fun _ => true) gLong _ (fun _ _ => rfl) fun x hx _ => ?_)
        obtain ⟨c, hc, rfl⟩ := List.mem_map.mp hx
        exact bnd [.str ("a" ++ c), .tup [.str "mark"]] (bnd _ (bnd _ rfl (bnd _ rfl (add_chr hc))) rfl) rfl
      have hR : ∀ rs : List E, rs.length ≤ 4 → ((rs.filter tabRow).map fun x => E.tup ((m :: []) ++ [arRow x])).length ≤ 4 := fun rs z => by
        rw [List.length_map]
        exact Nat.le_trans (List.length_filter_le _ _) z
      have hA : ∀ o ∈ ((E.tup [a, b, c, d] :: [u0]).filter tabRow).map fun x => E.tup ((m :: []) ++ [arRow x]), Φ o := fun o ho => by
        obtain ⟨x, hx, rfl⟩ := List.mem_map.mp ho
        obtain ⟨hx1, hx2⟩ := List.mem_filter.mp hx
        exact h5 x hx1 hx2
      have hL := hR (E.tup [a, b, c, d] :: [u0]) (by simp)
      generalize eR : ((E.tup [a, b, c, d] :: [u0]).filter tabRow).map (fun x => E.tup ((m :: []) ++ [arRow x])) = R at hA hL
      refine ⟨_, bnd _ rfl (bnd (.lst (R ++ R ++ R)) (bnd (.lst R) (bnd (E.tup [a, b, c, d] :: [u0]) rfl (eR ▸ mp _ (lcE_filter tabRow (fun x => E.tup ((m :: []) ++ [arRow x])) _ (fun x hx => tabRow_ft (h4 x hx)) fun x hx _ => ?l2))) (bnd _ rfl (rep_ok (by omega)))) (cat_ok ?l3)), ?_⟩
      case l2 =>
        obtain ⟨a', b', c', d', rfl⟩ := h4 x hx
        rfl
      case l3 => simp; omega
      refine ⟨_, bnd _ rfl (bnd _ rfl (cat_ok ?l4)), ?_, ?_⟩
      case l4 => simp; omega
      · simp
      · exact alla (alla (alla (alla (alla (alla (allc (h1 _ (mo 0 rfl)) (allc (h1 _ (mo 1 rfl)) (allc (h1 _ (mo 2 rfl)) (allc h2 (allc (h3 _ (mo 0 rfl)) (allc (h3 _ (mo 1 rfl)) alln)))))) (allc (h1 _ (mo 3 rfl)) (allc (h1 _ (mo 4 rfl)) (allc (h3 _ (mo 2 rfl)) alln)))) (allc (h3 _ (mo 3 rfl)) (allc (h3 _ (mo 4 rfl)) (allc (h3 _ (mo 5 rfl)) alln)))) (allc (h3 _ (mo 6 rfl)) (allc (h3 _ (mo 7 rfl)) (allc (h3 _ (mo 8 rfl)) (allc (h3 _ (mo 9 rfl)) alln))))) (allc (h3 _ (mo 10 rfl)) (allc (h3 _ (mo 11 rfl)) alln))) (alla (alla hA hA) hA)) (allc (h1 _ (mo 5 rfl)) (allc (h3 _ (mo 12 rfl)) (allc (h3 _ (mo 13 rfl)) alln)))
    | [u0], [v0], _, _, h4, h5, h1, h2, h3 =>
      refine ⟨_, rfl, _, rfl, _, rfl, _, rfl, _, rfl, _, rfl, _, bnd [.lst longs] (bnd (.lst longs) (bnd _ chr8 ?l1) rfl) rfl, ?_⟩
      case l1 =>
        rw [← longs_eq]
        refine mp _ (lcE_filter (fun _ => true) gLong _ (fun _ _ => rfl) fun x hx _ => ?_)
        obtain ⟨c, hc, rfl⟩ := List.mem_map.mp hx
        exact bnd [.str ("a" ++ c), .tup [.str "mark"]] (bnd _ (bnd _ rfl (bnd _ rfl (add_chr hc))) rfl) rfl
      have hR : ∀ rs : List E, rs.length ≤ 4 → ((rs.filter tabRow).map fun x => E.tup ((m :: [v0]) ++ [arRow x])).length ≤ 4 := fun rs z => by
        rw [List.length_map]
        exact Nat.le_trans (List.length_filter_le _ _) z
      have hA : ∀ o ∈ ((E.tup [a, b, c, d] :: [u0]).filter tabRow).map fun x => E.tup ((m :: [v0]) ++ [arRow x]), Φ o := fun o ho => by
        obtain ⟨x, hx, rfl⟩ := List.mem_map.mp ho
        obtain ⟨hx1, hx2⟩ := List.mem_filter.mp hx
        exact h5 x hx1 hx2
      have hL := hR (E.tup [a, b, c, d] :: [u0]) (by simp)
      generalize eR : ((E.tup [a, b, c, d] :: [u0]).filter tabRow).map (fun x => E.tup ((m :: [v0]) ++ [arRow x])) = R at hA hL
      refine ⟨_, bnd _ rfl (bnd (.lst (R ++ R ++ R)) (bnd (.lst R) (bnd (E.tup [a, b, c, d] :: [u0]) rfl (eR ▸ mp _ (lcE_filter tabRow (fun x => E.tup ((m :: [v0]) ++ [arRow x])) _ (fun x hx => tabRow_ft (h4 x hx)) fun x hx _ => ?l2))) (bnd _ rfl (rep_ok (by omega)))) (cat_ok ?l3)), ?_⟩
      case l2 =>
        obtain ⟨a', b', c', d', rfl⟩ := h4 x hx
        rfl
      case l3 => simp; omega
      refine ⟨_, bnd _ rfl (bnd _ rfl (cat_ok ?l4)), ?_, ?_⟩
      case l4 => simp; omega
      · simp
      · exact alla (alla (alla (alla (alla (alla (allc (h1 _ (mo 0 rfl)) (allc (h1 _ (mo 1 rfl)) (allc (h1 _ (mo 2 rfl)) (allc h2 (allc (h3 _ (mo 0 rfl)) (allc (h3 _ (mo 1 rfl)) alln)))))) (allc (h1 _ (mo 3 rfl)) (allc (h1 _ (mo 4 rfl)) (allc (h3 _ (mo 2 rfl)) alln)))) (allc (h3 _ (mo 3 rfl)) (allc (h3 _ (mo 4 rfl)) (allc (h3 _ (mo 5 rfl)) alln)))) (allc (h3 _ (mo 6 rfl)) (allc (h3 _ (mo 7 rfl)) (allc (h3 _ (mo 8 rfl)) (allc (h3 _ (mo 9 rfl)) alln))))) (allc (h3 _ (mo 10 rfl)) (allc (h3 _ (mo 11 rfl)) alln))) (alla (alla hA hA) hA)) (allc (h1 _ (mo 5 rfl)) (allc (h3 _ (mo 12 rfl)) (allc (h3 _ (mo 13 rfl)) alln)))
    | [u0], [v0, v1], _, _, h4, h5, h1, h2, h3 =>
      refine ⟨_, rfl, _, rfl, _, rfl, _, rfl, _, rfl, _, rfl, _, bnd [.lst longs] (bnd (.lst longs) (bnd _ chr8 ?l1) rfl) rfl, ?_⟩
      case l1 =>
        rw [← longs_eq]
        refine mp _ (lcE_filter (fun _ => true) gLong _ (fun _ _ => rfl) fun x hx _ => ?_)
        obtain ⟨c, hc, rfl⟩ := List.mem_map.mp hx
        exact bnd [.str ("a" ++ c), .tup [.str "mark"]] (bnd _ (bnd _ rfl (bnd _ rfl (add_chr hc))) rfl) rfl
      have hR : ∀ rs : List E, rs.length ≤ 4 → ((rs.filter tabRow).map fun x => E.tup ((m :: [v0, v1]) ++ [arRow x])).length ≤ 4 := fun rs z => by
        rw [List.length_map]
        exact Nat.le_trans (List.length_filter_le _ _) z
      have hA : ∀ o ∈ ((E.tup [a, b, c, d] :: [u0]).filter tabRow).map fun x => E.tup ((m :: [v0, v1]) ++ [arRow x]), Φ o := fun o ho => by
        obtain ⟨x, hx, rfl⟩ := List.mem_map.mp ho
        obtain ⟨hx1, hx2⟩ := List.mem_filter.mp hx
        exact h5 x hx1 hx2
      have hL := hR (E.tup [a, b, c, d] :: [u0]) (by simp)
      generalize eR : ((E.tup [a, b, c, d] :: [u0]).filter tabRow).map (fun x => E.tup ((m :: [v0, v1]) ++ [arRow x])) = R at hA hL
      refine ⟨_, bnd _ rfl (bnd (.lst (R ++ R ++ R)) (bnd (.lst R) (bnd (E.tup [a, b, c, d] :: [u0]) rfl (eR ▸ mp _ (lcE_filter tabRow (fun x => E.tup ((m :: [v0, v1]) ++ [arRow x])) _ (fun x hx => tabRow_ft (h4 x hx)) fun x hx _ => ?l2))) (bnd _ rfl (rep_ok (by omega)))) (cat_ok ?l3)), ?_⟩
      case l2 =>
        obtain ⟨a', b', c', d', rfl⟩ := h4 x hx
        rfl
      case l3 => simp; omega
      refine ⟨_, bnd _ rfl (bnd _ rfl (cat_ok ?l4)), ?_, ?_⟩
      case l4 => simp; omega
      · simp
      · exact alla (alla (alla (alla (alla (alla (allc (h1 _ (mo 0 rfl)) (allc (h1 _ (mo 1 rfl)) (allc (h1 _ (mo 2 rfl)) (allc h2 (allc (h3 _ (mo 0 rfl)) (allc (h3 _ (mo 1 rfl)) alln)))))) (allc (h1 _ (mo 3 rfl)) (allc (h1 _ (mo 4 rfl)) (allc (h3 _ (mo 2 rfl)) alln)))) (allc (h3 _ (mo 3 rfl)) (allc (h3 _ (mo 4 rfl)) (allc (h3 _ (mo 5 rfl)) alln)))) (allc (h3 _ (mo 6 rfl)) (allc (h3 _ (mo 7 rfl)) (allc (h3 _ (mo 8 rfl)) (allc (h3 _ (mo 9 rfl)) alln))))) (allc (h3 _ (mo 10 rfl)) (allc (h3 _ (mo 11 rfl)) alln))) (alla (alla hA hA) hA)) (allc (h1 _ (mo 5 rfl)) (allc (h3 _ (mo 12 rfl)) (allc (h3 _ (mo 13 rfl)) alln)))
    | [u0], [v0, v1, v2], _, _, h4, h5, h1, h2, h3 =>
      refine ⟨_, rfl, _, rfl, _, rfl, _, rfl, _, rfl, _, rfl, _, bnd [.lst longs] (bnd (.lst longs) (bnd _ chr8 ?l1) rfl) rfl, ?_⟩
      case l1 =>
        rw [← longs_eq]
        refine mp _ (lcE_filter (fun _ => true) gLong _ (fun _ _ => rfl) fun x hx _ => ?_)
        obtain ⟨c, hc, rfl⟩ := List.mem_map.mp hx
        exact bnd [.str ("a" ++ c), .tup [.str "mark"]] (bnd _ (bnd _ rfl (bnd _ rfl (add_chr hc))) rfl) rfl
      have hR : ∀ rs : List E, rs.length ≤ 4 → ((rs.filter tabRow).map fun x => E.tup ((m :: [v0, v1, v2]) ++ [arRow x])).length ≤ 4 := fun rs z => by
        rw [List.length_map]
        exact Nat.le_trans (List.length_filter_le _ _) z
      have hA : ∀ o ∈ ((E.tup [a, b, c, d] :: [u0]).filter tabRow).map fun x => E.tup ((m :: [v0, v1, v2]) ++ [arRow x]), Φ o := fun o ho => by
        obtain ⟨x, hx, rfl⟩ := List.mem_map.mp ho
        obtain ⟨hx1, hx2⟩ := List.mem_filter.mp hx
        exact h5 x hx1 hx2
      have hL := hR (E.tup [a, b, c, d] :: [u0]) (by simp)
      generalize eR : ((E.tup [a, b, c, d] :: [u0]).filter tabRow).map (fun x => E.tup ((m :: [v0, v1, v2]) ++ [arRow x])) = R at hA hL
      refine ⟨_, bnd _ rfl (bnd (.lst (R ++ R ++ R)) (bnd (.lst R) (bnd (E.tup [a, b, c, d] :: [u0]) rfl (eR ▸ mp _ (lcE_filter tabRow (fun x => E.tup ((m :: [v0, v1, v2]) ++ [arRow x])) _ (fun x hx => tabRow_ft (h4 x hx)) fun x hx _ => ?l2))) (bnd _ rfl (rep_ok (by omega)))) (cat_ok ?l3)), ?_⟩
      case l2 =>
        obtain ⟨a', b', c', d', rfl⟩ := h4 x hx
        rfl
      case l3 => simp; omega
      refine ⟨_, bnd _ rfl (bnd _ rfl (cat_ok ?l4)), ?_, ?_⟩
      case l4 => simp; omega
      · simp
      · exact alla (alla (alla (alla (alla (alla (allc (h1 _ (mo 0 rfl)) (allc (h1 _ (mo 1 rfl)) (allc (h1 _ (mo 2 rfl)) (allc h2 (allc (h3 _ (mo 0 rfl)) (allc (h3 _ (mo 1 rfl)) alln)))))) (allc (h1 _ (mo 3 rfl)) (allc (h1 _ (mo 4 rfl)) (allc (h3 _ (mo 2 rfl)) alln)))) (allc (h3 _ (mo 3 rfl)) (allc (h3 _ (mo 4 rfl)) (allc (h3 _ (mo 5 rfl)) alln)))) (allc (h3 _ (mo 6 rfl)) (allc (h3 _ (mo 7 rfl)) (allc (h3 _ (mo 8 rfl)) (allc (h3 _ (mo 9 rfl)) alln))))) (allc (h3 _ (mo 10 rfl)) (allc (h3 _ (mo 11 rfl)) alln))) (alla (alla hA hA) hA)) (allc (h1 _ (mo 5 rfl)) (allc (h3 _ (mo 12 rfl)) (allc (h3 _ (mo 13 rfl)) alln)))
    | [u0, u1], [], _, _, h4, h5, h1, h2, h3 =>
      refine ⟨_, rfl, _, rfl, _, rfl, _, rfl, _, rfl, _, rfl, _, bnd [.lst longs] (bnd (.lst longs) (bnd _ chr8 ?l1) rfl) rfl, ?_⟩
      case l1 =>
        rw [← longs_eq]
        refine mp _ (lcE_filter (fun _ => true) gLong _ (fun _ _ => rfl) fun x hx _ => ?_)
        obtain ⟨c, hc, rfl⟩ := List.mem_map.mp hx
        exact bnd [.str ("a" ++ c), .tup [.str "mark"]] (bnd _ (bnd _ rfl (bnd _ rfl (add_chr hc))) rfl) rfl
      have hR : ∀ rs : List E, rs.length ≤ 4 → ((rs.filter tabRow).map fun x => E.tup ((m :: []) ++ [arRow x])).length ≤ 4 := fun rs z => by
        rw [List.length_map]
        exact Nat.le_trans (List.length_filter_le _ _) z
      have hA : ∀ o ∈ ((E.tup [a, b, c, d] :: [u0, u1]).filter tabRow).map fun x => E.tup ((m :: []) ++ [arRow x]), Φ o := fun o ho => by
        obtain ⟨x, hx, rfl⟩ := List.mem_map.mp ho
        obtain ⟨hx1, hx2⟩ := List.mem_filter.mp hx
        exact h5 x hx1 hx2
      have hL := hR (E.tup [a, b, c, d] :: [u0, u1]) (by simp)
      generalize eR : ((E.tup [a, b, c, d] :: [u0, u1]).filter tabRow).map (fun x => E.tup ((m :: []) ++ [arRow x])) = R at hA hL
      refine ⟨_, bnd _ rfl (bnd (.lst (R ++ R ++ R)) (bnd (.lst R) (bnd (E.tup [a, b, c, d] :: [u0, u1]) rfl (eR ▸ mp _ (lcE_filter tabRow (fun x => E.tup ((m :: []) ++ [arRow x])) _ (fun x hx => tabRow_ft (h4 x hx)) fun x hx _ => ?l2))) (bnd _ rfl (rep_ok (by omega)))) (cat_ok ?l3)), ?_⟩
      case l2 =>
        obtain ⟨a', b', c', d', rfl⟩ := h4 x hx
        rfl
      case l3 => simp; omega
      refine ⟨_, bnd _ rfl (bnd _ rfl (cat_ok ?l4)), ?_, ?_⟩
      case l4 => simp; omega
      · simp
      · exact alla (alla (alla (alla (alla (alla (allc (h1 _ (mo 0 rfl)) (allc (h1 _ (mo 1 rfl)) (allc (h1 _ (mo 2 rfl)) (allc h2 (allc (h3 _ (mo 0 rfl)) (allc (h3 _ (mo 1 rfl)) alln)))))) (allc (h1 _ (mo 3 rfl)) (allc (h1 _ (mo 4 rfl)) (allc (h3 _ (mo 2 rfl)) alln)))) (allc (h3 _ (mo 3 rfl)) (allc (h3 _ (mo 4 rfl)) (allc (h3 _ (mo 5 rfl)) alln)))) (allc (h3 _ (mo 6 rfl)) (allc (h3 _ (mo 7 rfl)) (allc (h3 _ (mo 8 rfl)) (allc (h3 _ (mo 9 rfl)) alln))))) (allc (h3 _ (mo 10 rfl)) (allc (h3 _ (mo 11 rfl)) alln))) (alla (alla hA hA) hA)) (allc (h1 _ (mo 5 rfl)) (allc (h3 _ (mo 12 rfl)) (allc (h3 _ (mo 13 rfl)) alln)))
    | [u0, u1], [v0], _, _, h4, h5, h1, h2, h3 =>
      refine ⟨_, rfl, _, rfl, _, rfl, _, rfl, _, rfl, _, rfl, _, bnd [.lst longs] (bnd (.lst longs) (bnd _ chr8 ?l1) rfl) rfl, ?_⟩
      case l1 =>
        rw [← longs_eq]
        refine mp _ (lcE_filter (fun _ => true) gLong _ (fun _ _ => rfl) fun x hx _ => ?_)
        obtain ⟨c, hc, rfl⟩ := List.mem_map.mp hx
        exact bnd [.str ("a" ++ c), .tup [.str "mark"]] (bnd _ (bnd _ rfl (bnd _ rfl (add_chr hc))) rfl) rfl
      have hR : ∀ rs : List E, rs.length ≤ 4 → ((rs.filter tabRow).map fun x => E.tup ((m :: [v0]) ++ [arRow x])).length ≤ 4 := fun rs z => by
        rw [List.length_map]
        exact Nat.le_trans (List.length_filter_le _ _) z
      have hA : ∀ o ∈ ((E.tup [a, b, c, d] :: [u0, u1]).filter tabRow).map fun x => E.tup ((m :: [v0]) ++ [arRow x]), Φ o := fun o ho => by
        obtain ⟨x, hx, rfl⟩ := List.mem_map.mp ho
        obtain ⟨hx1, hx2⟩ := List.mem_filter.mp hx
        exact h5 x hx1 hx2
      have hL := hR (E.tup [a, b, c, d] :: [u0, u1]) (by simp)
      generalize eR : ((E.tup [a, b, c, d] :: [u0, u1]).filter tabRow).map (fun x => E.tup ((m :: [v0]) ++ [arRow x])) = R at hA hL
      refine ⟨_, bnd _ rfl (bnd (.lst (R ++ R ++ R)) (bnd (.lst R) (bnd (E.tup [a, b, c, d] :: [u0, u1]) rfl (eR ▸ mp _ (lcE_filter tabRow (fun x => E.tup ((m :: [v0]) ++ [arRow x])) _ (fun x hx => tabRow_ft (h4 x hx)) fun x hx _ => ?l2))) (bnd _ rfl (rep_ok (by omega)))) (cat_ok ?l3)), ?_⟩
      case l2 =>
        obtain ⟨a', b', c', d', rfl⟩ := h4 x hx
        rfl
      case l3 => simp; omega
      refine ⟨_, bnd _ rfl (bnd _ rfl (cat_ok ?l4)), ?_, ?_⟩
      case l4 => simp; omega
      · simp
      · exact alla (alla (alla (alla (alla (alla (allc (h1 _ (mo 0 rfl)) (allc (h1 _ (mo 1 rfl)) (allc (h1 _ (mo 2 rfl)) (allc h2 (allc (h3 _ (mo 0 rfl)) (allc (h3 _ (mo 1 rfl)) alln)))))) (allc (h1 _ (mo 3 rfl)) (allc (h1 _ (mo 4 rfl)) (allc (h3 _ (mo 2 rfl)) alln)))) (allc (h3 _ (mo 3 rfl)) (allc (h3 _ (mo 4 rfl)) (allc (h3 _ (mo 5 rfl)) alln)))) (allc (h3 _ (mo 6 rfl)) (allc (h3 _ (mo 7 rfl)) (allc (h3 _ (mo 8 rfl)) (allc (h3 _ (mo 9 rfl)) alln))))) (allc (h3 _ (mo 10 rfl)) (allc (h3 _ (mo 11 rfl)) alln))) (alla (alla hA hA) hA)) (allc (h1 _ (mo 5 rfl)) (allc (h3 _ (mo 12 rfl)) (allc (h3 _ (mo 13 rfl)) alln)))
    | [u0, u1], [v0, v1], _, _, h4, h5, h1, h2, h3 =>
      refine ⟨_, rfl, _, rfl, _, rfl, _, rfl, _, rfl, _, rfl, _, bnd [.lst longs] (bnd (.lst longs) (bnd _ chr8 ?l1) rfl) rfl, ?_⟩
      case l1 =>
        rw [← longs_eq]
        refine mp _ (lcE_filter (fun _ => true) gLong _ (fun _ _ => rfl) fun x hx _ => ?_)
        obtain ⟨c, hc, rfl⟩ := List.mem_map.mp hx
        exact bnd [.str ("a" ++ c), .tup [.str "mark"]] (bnd _ (bnd _ rfl (bnd _ rfl (add_chr hc))) rfl) rfl
      have hR : ∀ rs : List E, rs.length ≤ 4 → ((rs.filter tabRow).map fun x => E.tup ((m :: [v0, v1]) ++ [arRow x])).length ≤ 4 := fun rs z => by
        rw [List.length_map]
        exact Nat.le_trans (List.length_filter_le _ _) z
      have hA : ∀ o ∈ ((E.tup [a, b, c, d] :: [u0, u1]).filter tabRow).map fun x => E.tup ((m :: [v0, v1]) ++ [arRow x]), Φ o := fun o ho => by
        obtain ⟨x, hx, rfl⟩ := List.mem_map.mp ho
        obtain ⟨hx1, hx2⟩ := List.mem_filter.mp hx
        exact h5 x hx1 hx2
      have hL := hR (E.tup [a, b, c, d] :: [u0, u1]) (by simp)
      generalize eR : ((E.tup [a, b, c, d] :: [u0, u1]).filter tabRow).map (fun x => E.tup ((m :: [v0, v1]) ++ [arRow x])) = R at hA hL
      refine ⟨_, bnd _ rfl (bnd (.lst (R ++ R ++ R)) (bnd (.lst R) (bnd (E.tup [a, b, c, d] :: [u0, u1]) rfl (eR ▸ mp _ (lcE_filter tabRow (fun x => E.tup ((m :: [v0, v1]) ++ [arRow x])) _ (fun x hx => tabRow_ft (h4 x hx)) fun x hx _ => ?l2))) (bnd _ rfl (rep_ok (by omega)))) (cat_ok ?l3)), ?_⟩
      case l2 =>
        obtain ⟨a', b', c', d', rfl⟩ := h4 x hx
        rfl
      case l3 => simp; omega
      refine ⟨_, bnd _ rfl (bnd _ rfl (cat_ok ?l4)), ?_, ?_⟩
      case l4 => simp; omega
      · simp
      · exact alla (alla (alla (alla (alla (alla (allc (h1 _ (mo 0 rfl)) (allc (h1 _ (mo 1 rfl)) (allc (h1 _ (mo 2 rfl)) (allc h2 (allc (h3 _ (mo 0 rfl)) (allc (h3 _ (mo 1 rfl)) alln)))))) (allc (h1 _ (mo 3 rfl)) (allc (h1 _ (mo 4 rfl)) (allc (h3 _ (mo 2 rfl)) alln)))) (allc (h3 _ (mo 3 rfl)) (allc (h3 _ (mo 4 rfl)) (allc (h3 _ (mo 5 rfl)) alln)))) (allc (h3 _ (mo 6 rfl)) (allc (h3 _ (mo 7 rfl)) (allc (h3 _ (mo 8 rfl)) (allc (h3 _ (mo 9 rfl)) alln))))) (allc (h3 _ (mo 10 rfl)) (allc (h3 _ (mo 11 rfl)) alln))) (alla (alla hA hA) hA)) (allc (h1 _ (mo 5 rfl)) (allc (h3 _ (mo 12 rfl)) (allc (h3 _ (mo 13 rfl)) alln)))
    | [u0, u1], [v0, v1, v2], _, _, h4, h5, h1, h2, h3 =>
      refine ⟨_, rfl, _, rfl, _, rfl, _, rfl, _, rfl, _, rfl, _, bnd [.lst longs] (bnd (.lst longs) (bnd _ chr8 ?l1) rfl) rfl, ?_⟩
      case l1 =>
        rw [← longs_eq]
        refine mp _ (lcE_filter (fun _ => true) gLong _ (fun _ _ => rfl) fun x hx _ => ?_)
        obtain ⟨c, hc, rfl⟩ := List.mem_map.mp hx
        exact bnd [.str ("a" ++ c), .tup [.str "mark"]] (bnd _ (bnd _ rfl (bnd _ rfl (add_chr hc))) rfl) rfl
      have hR : ∀ rs : List E, rs.length ≤ 4 → ((rs.filter tabRow).map fun x => E.tup ((m :: [v0, v1, v2]) ++ [arRow x])).length ≤ 4 := fun rs z => by
        rw [List.length_map]
        exact Nat.le_trans (List.length_filter_le _ _) z
      have hA : ∀ o ∈ ((E.tup [a, b, c, d] :: [u0, u1]).filter tabRow).map fun x => E.tup ((m :: [v0, v1, v2]) ++ [arRow x]), Φ o := fun o ho => by
        obtain ⟨x, hx, rfl⟩ := List.mem_map.mp ho
        obtain ⟨hx1, hx2⟩ := List.mem_filter.mp hx
        exact h5 x hx1 hx2
      have hL := hR (E.tup [a, b, c, d] :: [u0, u1]) (by simp)
      generalize eR : ((E.tup [a, b, c, d] :: [u0, u1]).filter tabRow).map (fun x => E.tup ((m :: [v0, v1, v2]) ++ [arRow x])) = R at hA hL
      refine ⟨_, bnd _ rfl (bnd (.lst (R ++ R ++ R)) (bnd (.lst R) (bnd (E.tup [a, b, c, d] :: [u0, u1]) rfl (eR ▸ mp _ (lcE_filter tabRow (fun x => E.tup ((m :: [v0, v1, v2]) ++ [arRow x])) _ (fun x hx => tabRow_ft (h4 x hx)) fun x hx _ => ?l2))) (bnd _ rfl (rep_ok (by omega)))) (cat_ok ?l3)), ?_⟩
      case l2 =>
        obtain ⟨a', b', c', d', rfl⟩ := h4 x hx
        rfl
      case l3 => simp; omega
      refine ⟨_, bnd _ rfl (bnd _ rfl (cat_ok ?l4)), ?_, ?_⟩
      case l4 => simp; omega
      · simp
      · exact alla (alla (alla (alla (alla (alla (allc (h1 _ (mo 0 rfl)) (allc (h1 _ (mo 1 rfl)) (allc (h1 _ (mo 2 rfl)) (allc h2 (allc (h3 _ (mo 0 rfl)) (allc (h3 _ (mo 1 rfl)) alln)))))) (allc (h1 _ (mo 3 rfl)) (allc (h1 _ (mo 4 rfl)) (allc (h3 _ (mo 2 rfl)) alln)))) (allc (h3 _ (mo 3 rfl)) (allc (h3 _ (mo 4 rfl)) (allc (h3 _ (mo 5 rfl)) alln)))) (allc (h3 _ (mo 6 rfl)) (allc (h3 _ (mo 7 rfl)) (allc (h3 _ (mo 8 rfl)) (allc (h3 _ (mo 9 rfl)) alln))))) (allc (h3 _ (mo 10 rfl)) (allc (h3 _ (mo 11 rfl)) alln))) (alla (alla hA hA) hA)) (allc (h1 _ (mo 5 rfl)) (allc (h3 _ (mo 12 rfl)) (allc (h3 _ (mo 13 rfl)) alln)))
    | [u0, u1, u2], [], _, _, h4, h5, h1, h2, h3 =>
      refine ⟨_, rfl, _, rfl, _, rfl, _, rfl, _, rfl, _, rfl, _, bnd [.lst longs] (bnd (.lst longs) (bnd _ chr8 ?l1) rfl) rfl, ?_⟩
      case l1 =>
        rw [← longs_eq]
        refine mp _ (lcE_filter (fun _ => true) gLong _ (fun _ _ => rfl) fun x hx _ => ?_)
        obtain ⟨c, hc, rfl⟩ := List.mem_map.mp hx
        exact bnd [.str ("a" ++ c), .tup [.str "mark"]] (bnd _ (bnd _ rfl (bnd _ rfl (add_chr hc))) rfl) rfl
      have hR : ∀ rs : List E, rs.length ≤ 4 → ((rs.filter tabRow).map fun x => E.tup ((m :: []) ++ [arRow x])).length ≤ 4 := fun rs z => by
        rw [List.length_map]
        exact Nat.le_trans (List.length_filter_le _ _) z
      have hA : ∀ o ∈ ((E.tup [a, b, c, d] :: [u0, u1, u2]).filter tabRow).map fun x => E.tup ((m :: []) ++ [arRow x]), Φ o := fun o ho => by
        obtain ⟨x, hx, rfl⟩ := List.mem_map.mp ho
        obtain ⟨hx1, hx2⟩ := List.mem_filter.mp hx
        exact h5 x hx1 hx2
      have hL := hR (E.tup [a, b, c, d] :: [u0, u1, u2]) (by simp)
      generalize eR : ((E.tup [a, b, c, d] :: [u0, u1, u2]).filter tabRow).map (fun x => E.tup ((m :: []) ++ [arRow x])) = R at hA hL
      refine ⟨_, bnd _ rfl (bnd (.lst (R ++ R ++ R)) (bnd (.lst R) (bnd (E.tup [a, b, c, d] :: [u0, u1, u2]) rfl (eR ▸ mp _ (lcE_filter tabRow (fun x => E.tup ((m :: []) ++ [arRow x])) _ (fun x hx => tabRow_ft (h4 x hx)) fun x hx _ => ?l2))) (bnd _ rfl (rep_ok (by omega)))) (cat_ok ?l3)), ?_⟩
      case l2 =>
        obtain ⟨a', b', c', d', rfl⟩ := h4 x hx
        rfl
      case l3 => simp; omega
      refine ⟨_, bnd _ rfl (bnd _ rfl (cat_ok ?l4)), ?_, ?_⟩
      case l4 => simp; omega
      · simp
      · exact alla (alla (alla (alla (alla (alla (allc (h1 _ (mo 0 rfl)) (allc (h1 _ (mo 1 rfl)) (allc (h1 _ (mo 2 rfl)) (allc h2 (allc (h3 _ (mo 0 rfl)) (allc (h3 _ (mo 1 rfl)) alln)))))) (allc (h1 _ (mo 3 rfl)) (allc (h1 _ (mo 4 rfl)) (allc (h3 _ (mo 2 rfl)) alln)))) (allc (h3 _ (mo 3 rfl)) (allc (h3 _ (mo 4 rfl)) (allc (h3 _ (mo 5 rfl)) alln)))) (allc (h3 _ (mo 6 rfl)) (allc (h3 _ (mo 7 rfl)) (allc (h3 _ (mo 8 rfl)) (allc (h3 _ (mo 9 rfl)) alln))))) (allc (h3 _ (mo 10 rfl)) (allc (h3 _ (mo 11 rfl)) alln))) (alla (alla hA hA) hA)) (allc (h1 _ (mo 5 rfl)) (allc (h3 _ (mo 12 rfl)) (allc (h3 _ (mo 13 rfl)) alln)))
    | [u0, u1, u2], [v0], _, _, h4, h5, h1, h2, h3 =>
      refine ⟨_, rfl, _, rfl, _, rfl, _, rfl, _, rfl, _, rfl, _, bnd [.lst longs] (bnd (.lst longs) (bnd _ chr8 ?l1) rfl) rfl, ?_⟩
      case l1 =>
        rw [← longs_eq]
        refine mp _ (lcE_filter (fun _ => true) gLong _ (fun _ _ => rfl) fun x hx _ => ?_)
        obtain ⟨c, hc, rfl⟩ := List.mem_map.mp hx
        exact bnd [.str ("a" ++ c), .tup [.str "mark"]] (bnd _ (bnd _ rfl (bnd _ rfl (add_chr hc))) rfl) rfl
      have hR : ∀ rs : List E, rs.length ≤ 4 → ((rs.filter tabRow).map fun x => E.tup ((m :: [v0]) ++ [arRow x])).length ≤ 4 := fun rs z => by
        rw [List.length_map]
        exact Nat.le_trans (List.length_filter_le _ _) z
      have hA : ∀ o ∈ ((E.tup [a, b, c, d] :: [u0, u1, u2]).filter tabRow).map fun x => E.tup ((m :: [v0]) ++ [arRow x]), Φ o := fun o ho => by
        obtain ⟨x, hx, rfl⟩ := List.mem_map.mp ho
        obtain ⟨hx1, hx2⟩ := List.mem_filter.mp hx
        exact h5 x hx1 hx2
      have hL := hR (E.tup [a, b, c, d] :: [u0, u1, u2]) (by simp)
      generalize eR : ((E.tup [a, b, c, d] :: [u0, u1, u2]).filter tabRow).map (fun x => E.tup ((m :: [v0]) ++ [arRow x])) = R at hA hL
      refine ⟨_, bnd _ rfl (bnd (.lst (R ++ R ++ R)) (bnd (.lst R) (bnd (E.tup [a, b, c, d] :: [u0, u1, u2]) rfl (eR ▸ mp _ (lcE_filter tabRow (fun x => E.tup ((m :: [v0]) ++ [arRow x])) _ (fun x hx => tabRow_ft (h4 x hx)) fun x hx _ => ?l2))) (bnd _ rfl (rep_ok (by omega)))) (cat_ok ?l3)), ?_⟩
      case l2 =>
        obtain ⟨a', b', c', d', rfl⟩ := h4 x hx
        rfl
      case l3 => simp; omega
      refine ⟨_, bnd _ rfl (bnd _ rfl (cat_ok ?l4)), ?_, ?_⟩
      case l4 => simp; omega
      · simp
      · exact alla (alla (alla (alla (alla (alla (allc (h1 _ (mo 0 rfl)) (allc (h1 _ (mo 1 rfl)) (allc (h1 _ (mo 2 rfl)) (allc h2 (allc (h3 _ (mo 0 rfl)) (allc (h3 _ (mo 1 rfl)) alln)))))) (allc (h1 _ (mo 3 rfl)) (allc (h1 _ (mo 4 rfl)) (allc (h3 _ (mo 2 rfl)) alln)))) (allc (h3 _ (mo 3 rfl)) (allc (h3 _ (mo 4 rfl)) (allc (h3 _ (mo 5 rfl)) alln)))) (allc (h3 _ (mo 6 rfl)) (allc (h3 _ (mo 7 rfl)) (allc (h3 _ (mo 8 rfl)) (allc (h3 _ (mo 9 rfl)) alln))))) (allc (h3 _ (mo 10 rfl)) (allc (h3 _ (mo 11 rfl)) alln))) (alla (alla hA hA) hA)) (allc (h1 _ (mo 5 rfl)) (allc (h3 _ (mo 12 rfl)) (allc (h3 _ (mo 13 rfl)) alln)))
    | [u0, u1, u2], [v0, v1], _, _, h4, h5, h1, h2, h3 =>
      refine ⟨_, rfl, _, rfl, _, rfl, _, rfl, _, rfl, _, rfl, _, bnd [.lst longs] (bnd (.lst longs) (bnd _ chr8 ?l1) rfl) rfl, ?_⟩
      case l1 =>
        rw [← longs_eq]
        refine mp _ (lcE_filter (fun _ => true) gLong _ (fun _ _ => rfl) fun x hx _ => ?_)
        obtain ⟨c, hc, rfl⟩ := List.mem_map.mp hx
        exact bnd [.str ("a" ++ c), .tup [.str "mark"]] (bnd _ (bnd _ rfl (bnd _ rfl (add_chr hc))) rfl) rfl
      have hR : ∀ rs : List E, rs.length ≤ 4 → ((rs.filter tabRow).map fun x => E.tup ((m :: [v0, v1]) ++ [arRow x])).length ≤ 4 := fun rs z => by
        rw [List.length_map]
        exact Nat.le_trans (List.length_filter_le _ _) z
      have hA : ∀ o ∈ ((E.tup [a, b, c, d] :: [u0, u1, u2]).filter tabRow).map fun x => E.tup ((m :: [v0, v1]) ++ [arRow x]), Φ o := fun o ho => by
        obtain ⟨x, hx, rfl⟩ := List.mem_map.mp ho
        obtain ⟨hx1, hx2⟩ := List.mem_filter.mp hx
        exact h5 x hx1 hx2
      have hL := hR (E.tup [a, b, c, d] :: [u0, u1, u2]) (by simp)
      generalize eR : ((E.tup [a, b, c, d] :: [u0, u1, u2]).filter tabRow).map (fun x => E.tup ((m :: [v0, v1]) ++ [arRow x])) = R at hA hL
      refine ⟨_, bnd _ rfl (bnd (.lst (R ++ R ++ R)) (bnd (.lst R) (bnd (E.tup [a, b, c, d] :: [u0, u1, u2]) rfl (eR ▸ mp _ (lcE_filter tabRow (fun x => E.tup ((m :: [v0, v1]) ++ [arRow x])) _ (fun x hx => tabRow_ft (h4 x hx)) fun x hx _ => ?l2))) (bnd _ rfl (rep_ok (by omega)))) (cat_ok ?l3)), ?_⟩
      case l2 =>
        obtain ⟨a', b', c', d', rfl⟩ := h4 x hx
        rfl
      case l3 => simp; omega
      refine ⟨_, bnd _ rfl (bnd _ rfl (cat_ok ?l4)), ?_, ?_⟩
      case l4 => simp; omega
      · simp
      · exact alla (alla (alla (alla (alla (alla (allc (h1 _ (mo 0 rfl)) (allc (h1 _ (mo 1 rfl)) (allc (h1 _ (mo 2 rfl)) (allc h2 (allc (h3 _ (mo 0 rfl)) (allc (h3 _ (mo 1 rfl)) alln)))))) (allc (h1 _ (mo 3 rfl)) (allc (h1 _ (mo 4 rfl)) (allc (h3 _ (mo 2 rfl)) alln)))) (allc (h3 _ (mo 3 rfl)) (allc (h3 _ (mo 4 rfl)) (allc (h3 _ (mo 5 rfl)) alln)))) (allc (h3 _ (mo 6 rfl)) (allc (h3 _ (mo 7 rfl)) (allc (h3 _ (mo 8 rfl)) (allc (h3 _ (mo 9 rfl)) alln))))) (allc (h3 _ (mo 10 rfl)) (allc (h3 _ (mo 11 rfl)) alln))) (alla (alla hA hA) hA)) (allc (h1 _ (mo 5 rfl)) (allc (h3 _ (mo 12 rfl)) (allc (h3 _ (mo 13 rfl)) alln)))
    | [u0, u1, u2], [v0, v1, v2], _, _, h4, h5, h1, h2, h3 =>
      refine ⟨_, rfl, _, rfl, _, rfl, _, rfl, _, rfl, _, rfl, _, bnd [.lst longs] (bnd (.lst longs) (bnd _ chr8 ?l1) rfl) rfl, ?_⟩
      case l1 =>
        rw [← longs_eq]
        refine mp _ (lcE_filter (fun _ => true) gLong _ (fun _ _ => rfl) fun x hx _ => ?_)
        obtain ⟨c, hc, rfl⟩ := List.mem_map.mp hx
        exact bnd [.str ("a" ++ c), .tup [.str "mark"]] (bnd _ (bnd _ rfl (bnd _ rfl (add_chr hc))) rfl) rfl
      have hR : ∀ rs : List E, rs.length ≤ 4 → ((rs.filter tabRow).map fun x => E.tup ((m :: [v0, v1, v2]) ++ [arRow x])).length ≤ 4 := fun rs z => by
        rw [List.length_map]
        exact Nat.le_trans (List.length_filter_le _ _) z
      have hA : ∀ o ∈ ((E.tup [a, b, c, d] :: [u0, u1, u2]).filter tabRow).map fun x => E.tup ((m :: [v0, v1, v2]) ++ [arRow x]), Φ o := fun o ho => by
        obtain ⟨x, hx, rfl⟩ := List.mem_map.mp ho
        obtain ⟨hx1, hx2⟩ := List.mem_filter.mp hx
        exact h5 x hx1 hx2
      have hL := hR (E.tup [a, b, c, d] :: [u0, u1, u2]) (by simp)
      generalize eR : ((E.tup [a, b, c, d] :: [u0, u1, u2]).filter tabRow).map (fun x => E.tup ((m :: [v0, v1, v2]) ++ [arRow x])) = R at hA hL
      refine ⟨_, bnd _ rfl (bnd (.lst (R ++ R ++ R)) (bnd (.lst R) (bnd (E.tup [a, b, c, d] :: [u0, u1, u2]) rfl (eR ▸ mp _ (lcE_filter tabRow (fun x => E.tup ((m :: [v0, v1, v2]) ++ [arRow x])) _ (fun x hx => tabRow_ft (h4 x hx)) fun x hx _ => ?l2))) (bnd _ rfl (rep_ok (by omega)))) (cat_ok ?l3)), ?_⟩
      case l2 =>
        obtain ⟨a', b', c', d', rfl⟩ := h4 x hx
        rfl
      case l3 => simp; omega
      refine ⟨_, bnd _ rfl (bnd _ rfl (cat_ok ?l4)), ?_, ?_⟩
      case l4 => simp; omega
      · simp
      · exact alla (alla (alla (alla (alla (alla (allc (h1 _ (mo 0 rfl)) (allc (h1 _ (mo 1 rfl)) (allc (h1 _ (mo 2 rfl)) (allc h2 (allc (h3 _ (mo 0 rfl)) (allc (h3 _ (mo 1 rfl)) alln)))))) (allc (h1 _ (mo 3 rfl)) (allc (h1 _ (mo 4 rfl)) (allc (h3 _ (mo 2 rfl)) alln)))) (allc (h3 _ (mo 3 rfl)) (allc (h3 _ (mo 4 rfl)) (allc (h3 _ (mo 5 rfl)) alln)))) (allc (h3 _ (mo 6 rfl)) (allc (h3 _ (mo 7 rfl)) (allc (h3 _ (mo 8 rfl)) (allc (h3 _ (mo 9 rfl)) alln))))) (allc (h3 _ (mo 10 rfl)) (allc (h3 _ (mo 11 rfl)) alln))) (alla (alla hA hA) hA)) (allc (h1 _ (mo 5 rfl)) (allc (h3 _ (mo 12 rfl)) (allc (h3 _ (mo 13 rfl)) alln)))

end
end K05

/-! the kinds that are drawn: which of them are right, what is refused of spoilt ones (no program here) -/
namespace K05
open PySem L2 XR VT ET
inductive All2 (R : Str → E → Prop) : List Str → List E → Prop
  | nil : All2 R [] []
  | cons {x : Str} {r : E} {xs : List Str} {rs : List E} (h : R x r) (t : All2 R xs rs) : All2 R (x :: xs) (r :: rs)
theorem All2.snoc {R : Str → E → Prop} {xs : List Str} {rs : List E} {x : Str} {r : E} (t : All2 R xs rs) (h : R x r) : All2 R (xs ++ [x]) (rs ++ [r]) := by
  induction t with
  | nil => exact .cons h .nil
  | cons h' t ih => exact .cons h' ih
theorem All2.len {R : Str → E → Prop} {xs : List Str} {rs : List E} (t : All2 R xs rs) : xs.length = rs.length := by
  induction t with
  | nil => rfl
  | cons h t ih => rw [List.length_cons, List.length_cons, ih]
def n4 : List Str := ["x", "y", "z", "size"]
def prefs : List (List Str) := [["x"], ["x", "y"], ["x", "y", "z"], ["x", "y", "z", "size"]]
def mprefs : List (List Str) := [[], ["m"], ["m", "n"], ["m", "n", "o"]]
def rowR (x : Str) (r : E) : Prop := ∃ s b t, r = .tup [.str x, .str s, .bl b, t] ∧ s ∈ sorts ∧ (t = .non ∨ t ∈ tabs)
def ruleR (ps : List E) (q : E) : Prop := q = .tup [.str "mark"] ∨ ∃ x ∈ ps, q = .tup [.str "around", x, .str "<", .str ">"]
def mrowR (ps : List E) (x : Str) (r : E) : Prop := ∃ q, r = .tup [.str x, q] ∧ ruleR ps q
theorem any_mem {l : List E} {y : Str} (h : E.str y ∈ l) : anyIn l (.str y) = true := List.any_eq_true.mpr ⟨_, h, by show (y == y) = true; exact beq_self_eq_true y⟩
theorem any_not {l : List E} {y : Str} (h : ∀ e ∈ l, ∃ z, e = .str z ∧ z ≠ y) : anyIn l (.str y) = false := by
  cases e : anyIn l (.str y) with
  | false => rfl
  | true =>
    obtain ⟨x, hx, hq⟩ := List.any_eq_true.mp e
    obtain ⟨z, rfl, hz⟩ := h x hx
    exact absurd (eq_of_beq (show (z == y) = true from hq)) hz
theorem tab_ok {t : E} (h : t = .non ∨ t ∈ tabs) : tableE t = true ∧ tblD t = true ∧ pl t = true ∧ qd t = true ∧ dep t ≤ 1 := by
  rcases h with rfl | h
  · exact ⟨rfl, rfl, rfl, rfl, Nat.zero_le _⟩
  · simp only [tabs, List.mem_cons, List.not_mem_nil, or_false] at h
    rcases h with rfl | rfl | rfl <;> exact ⟨by decide +kernel, by decide +kernel, by decide +kernel, by decide +kernel, by decide +kernel⟩
theorem sort_ok {s : Str} (h : s ∈ sorts) : sortsE (.str s) = true := any_mem (List.mem_map.mpr ⟨s, h, rfl⟩)
theorem n4_name {x : Str} (h : x ∈ n4) : isName x = true := by
  simp only [n4, List.mem_cons, List.not_mem_nil, or_false] at h
  rcases h with rfl | rfl | rfl | rfl <;> decide +kernel
theorem row_ok {x : Str} {r : E} (hx : x ∈ n4) (h : rowR x r) : givenE r = true ∧ givD r = true ∧ pl r = true ∧ qd r = true ∧ dep r ≤ 2 ∧ frst r = .str x := by
  obtain ⟨s, b, t, rfl, hs, ht⟩ := h
  obtain ⟨t1, t2, t3, t4, t5⟩ := tab_ok ht
  refine ⟨?_, ?_, ?_, ?_, ?_, rfl⟩
  · show (isName x && (sortsE (.str s) && (true && tableE t))) = true
    rw [n4_name hx, sort_ok hs, t1]
    rfl
  · show (true && true && true && tblD t) = true
    rw [t2]
    rfl
  · show (true && (true && (true && (pl t && true)))) = true
    rw [t3]
    rfl
  · show (true && (true && (true && (qd t && true)))) = true
    rw [t4]
    rfl
  · show max 0 (max 0 (max 0 (max (dep t) 0))) + 1 ≤ 2
    omega
theorem rows_ok {names : List Str} {rows : List E} (a : All2 rowR names rows) (hn : ∀ x ∈ names, x ∈ n4) : (∀ r ∈ rows, givenE r = true ∧ givD r = true ∧ pl r = true ∧ qd r = true ∧ dep r ≤ 2) ∧ rows.map frst = names.map E.str ∧ (rows.map fun x => sx (frst x)) = names := by
  induction a with
  | nil => exact ⟨fun r h => (nomatch h), rfl, rfl⟩
  | @cons x r xs rs h t ih =>
    obtain ⟨i1, i2, i3⟩ := ih fun y hy => hn y (List.mem_cons_of_mem _ hy)
    obtain ⟨r1, r2, r3, r4, r5, r6⟩ := row_ok (hn x List.mem_cons_self) h
    refine ⟨fun q hq => ?_, by rw [List.map_cons, List.map_cons, i2, r6], by rw [List.map_cons, i3, r6]; rfl⟩
    rcases List.mem_cons.mp hq with rfl | hq
    · exact ⟨r1, r2, r3, r4, r5⟩
    · exact i1 q hq
theorem pref_n4 {names : List Str} (h : names ∈ prefs) : (∀ x ∈ names, x ∈ n4) ∧ names.Nodup ∧ names.length ≤ 4 ∧ ∃ r, names = ("x" : Str) :: r := by
  simp only [prefs, List.mem_cons, List.not_mem_nil, or_false] at h
  rcases h with rfl | rfl | rfl | rfl <;> exact ⟨by decide +kernel, by decide +kernel, by decide +kernel, _, rfl⟩
/-- the rows given -/
structure GvR (names : List Str) (rows : List E) : Prop where
  n : names ∈ prefs
  a : All2 rowR names rows
theorem GvR.good {names : List Str} {rows : List E} (h : GvR names rows) : gvsE (.tup rows) = true ∧ gvsD (.tup rows) = true ∧ pl (.tup rows) = true ∧ qd (.tup rows) = true ∧ dep (.tup rows) ≤ 3 ∧ rows.length = names.length ∧ nmsE (.tup rows) = names.map E.str := by
  obtain ⟨p1, p2, p3, p4⟩ := pref_n4 h.n
  obtain ⟨r1, r2, r3⟩ := rows_ok h.a p1
  refine ⟨?_, ?_, plL_of fun d hd => (r1 d hd).2.2.1, ?_, Nat.succ_le_succ (depL_le fun d hd => (r1 d hd).2.2.2.2), h.a.len.symm, r2⟩
  · show (rows.all givenE && decide ((rows.map fun x => sx (frst x)).Nodup)) = true
    rw [r3, decide_eq_true p2, List.all_eq_true.mpr fun r hr => (r1 r hr).1]
    rfl
  · show (rows.all givD && decide (rows.length ≤ 900)) = true
    rw [List.all_eq_true.mpr fun r hr => (r1 r hr).2.1, decide_eq_true (by rw [← h.a.len]; omega)]
    rfl
  · show qdL rows = true
    have q : ∀ {l : List E}, (∀ r ∈ l, qd r = true) → qdL l = true := by
      intro l
      induction l with
      | nil => intro _; rfl
      | cons a l ih => intro hh; exact Bool.and_eq_true_iff.mpr ⟨hh a List.mem_cons_self, ih fun r hr => hh r (List.mem_cons_of_mem _ hr)⟩
    exact q fun r hr => (r1 r hr).2.2.2.1
theorem qdL_of : ∀ {l : List E}, (∀ r ∈ l, qd r = true) → qdL l = true
  | [], _ => rfl
  | a :: l, hh => Bool.and_eq_true_iff.mpr ⟨hh a List.mem_cons_self, qdL_of fun r hr => hh r (List.mem_cons_of_mem _ hr)⟩
theorem pls_in {names : List Str} {rows : List E} (h : GvR names rows) : ∀ e ∈ plsE (.tup rows), ∃ y ∈ names, e = .str y := fun e he => by
  obtain ⟨r, hr, rfl⟩ := List.mem_map.mp he
  have hr' := (List.mem_filter.mp hr).1
  have hf : frst r ∈ rows.map frst := List.mem_map.mpr ⟨r, hr', rfl⟩
  have := h.good.2.2.2.2.2.2
  rw [show rows.map frst = names.map E.str from this] at hf
  obtain ⟨y, hy, e⟩ := List.mem_map.mp hf
  exact ⟨y, hy, e.symm⟩
theorem tab_not {names : List Str} {rows : List E} (a : All2 rowR names rows) (nd : names.Nodup) : ∀ r ∈ rows, plnE r = false → frst r ∉ (rows.filter plnE).map frst := by
  induction a with
  | nil => intro r h; cases h
  | @cons x r0 xs rs h0 t ih =>
    obtain ⟨nx, nd'⟩ := List.nodup_cons.mp nd
    have nm : ∀ {xs rs}, All2 rowR xs rs → ∀ r ∈ rs, ∃ y ∈ xs, frst r = .str y := by
      intro xs rs a
      induction a with
      | nil => intro r h; cases h
      | @cons x r0 xs rs h t ih =>
        intro r hr
        rcases List.mem_cons.mp hr with rfl | hr
        · obtain ⟨s, b, t, rfl, _⟩ := h
          exact ⟨x, List.mem_cons_self, rfl⟩
        · obtain ⟨y, hy, e⟩ := ih r hr
          exact ⟨y, List.mem_cons_of_mem _ hy, e⟩
    have f0 : frst r0 = .str x := by
      obtain ⟨s, b, t, rfl, _⟩ := h0
      rfl
    intro r hr hp hm
    obtain ⟨q, hq, eq⟩ := List.mem_map.mp hm
    obtain ⟨hq1, hq2⟩ := List.mem_filter.mp hq
    rcases List.mem_cons.mp hr with rfl | hr2
    · rcases List.mem_cons.mp hq1 with rfl | hq1
      · rw [hp] at hq2; cases hq2
      · obtain ⟨y, hy, e⟩ := nm t q hq1
        rw [eq, f0] at e
        cases e
        exact nx hy
    · rcases List.mem_cons.mp hq1 with rfl | hq1
      · obtain ⟨y, hy, e⟩ := nm t r hr2
        rw [← eq, f0] at e
        cases e
        exact nx hy
      · exact ih nd' r hr2 hp (List.mem_map.mpr ⟨q, List.mem_filter.mpr ⟨hq1, hq2⟩, eq⟩)
/-! the rows made -/
theorem rule_ok {ps : List E} {q : E} (hps : ∀ e ∈ ps, ∃ y, e = .str y) (h : ruleR ps q) : ruleE (ps.map sx) q = true ∧ pl q = true ∧ qd q = true ∧ dep q ≤ 1 := by
  rcases h with rfl | ⟨x, hx, rfl⟩
  · exact ⟨rfl, rfl, rfl, by decide⟩
  · obtain ⟨y, rfl⟩ := hps x hx
    refine ⟨?_, rfl, rfl, Nat.le_refl 1⟩
    show (if ("around" : Str) = "mark" then ([E.str y, .str "<", .str ">"] : List E).isEmpty else decide (("around" : Str) = "around") && decide (([E.str y, .str "<", .str ">"] : List E).length = 3) && ([E.str y, .str "<", .str ">"] : List E).all strE && hdIn (ps.map sx) [E.str y, .str "<", .str ">"]) = true
    rw [if_neg (by decide), decide_eq_true rfl, decide_eq_true (by rfl)]
    show (true && true && true && anyIn ((ps.map sx).map E.str) (.str y)) = true
    rw [any_mem (List.mem_map.mpr ⟨y, List.mem_map.mpr ⟨_, hx, rfl⟩, rfl⟩)]
    rfl
theorem mrows_ok {names mx : List Str} {ps ms : List E} (a : All2 (mrowR ps) mx ms) (hps : ∀ e ∈ ps, ∃ y, e = .str y) (hm : ∀ x ∈ mx, isName x = true ∧ x ∉ names) :
    (∀ r ∈ ms, twoE r = true ∧ nmE (names.map E.str) r = true ∧ ruleE (ps.map sx) (scnd r) = true ∧ pl r = true ∧ qd r = true ∧ dep r ≤ 2) ∧ (ms.map fun x => sx (frst x)) = mx := by
  induction a with
  | nil => exact ⟨fun r h => (nomatch h), rfl⟩
  | @cons x r xs rs h t ih =>
    obtain ⟨i1, i2⟩ := ih fun y hy => hm y (List.mem_cons_of_mem _ hy)
    obtain ⟨q, rfl, hq⟩ := h
    obtain ⟨q1, q2, q3, q4⟩ := rule_ok hps hq
    obtain ⟨n1, n2⟩ := hm x List.mem_cons_self
    refine ⟨fun u hu => ?_, by rw [List.map_cons, i2]; rfl⟩
    rcases List.mem_cons.mp hu with rfl | hu
    · refine ⟨rfl, ?_, q1, ?_, ?_, ?_⟩
      · show (isName x && !(anyIn (names.map E.str) (.str x))) = true
        rw [n1, any_not fun e he => ?_]
        · rfl
        · obtain ⟨z, hz, rfl⟩ := List.mem_map.mp he
          exact ⟨z, rfl, fun w => n2 (w ▸ hz)⟩
      · show (true && (pl q && true)) = true
        rw [q2]; rfl
      · show (true && (qd q && true)) = true
        rw [q3]; rfl
      · show max 0 (max (dep q) 0) + 1 ≤ 2
        omega
    · exact i1 u hu
theorem mpref_ok {mx : List Str} (h : mx ∈ mprefs) : (∀ x ∈ mx, isName x = true ∧ x ∉ n4) ∧ (("id" : Str) :: mx).Nodup ∧ mx.length ≤ 3 := by
  simp only [mprefs, List.mem_cons, List.not_mem_nil, or_false] at h
  rcases h with rfl | rfl | rfl | rfl <;> exact ⟨by decide +kernel, by decide +kernel, by decide +kernel⟩
structure MdR (names mx : List Str) (rows ms : List E) : Prop where
  n : mx ∈ mprefs
  a : All2 (mrowR (plsE (.tup rows))) mx ms
theorem MdR.good {names mx : List Str} {rows ms : List E} (g : GvR names rows) (h : MdR names mx rows ms) : madeE (names.map E.str) (plsE (.tup rows)) (.tup (idT :: ms)) = true ∧ (∀ r ∈ ms, pl r = true ∧ qd r = true ∧ dep r ≤ 2) ∧ ms.length ≤ 3 := by
  obtain ⟨p1, p2, p3, p4⟩ := pref_n4 g.n
  obtain ⟨m1, m2, m3⟩ := mpref_ok h.n
  obtain ⟨r1, r2⟩ := mrows_ok (names := names) h.a (fun e he => let ⟨y, _, e⟩ := pls_in g e he; ⟨y, e⟩) fun x hx => ⟨(m1 x hx).1, fun z => (m1 x hx).2 (p1 x z)⟩
  refine ⟨?_, fun r hr => (r1 r hr).2.2.2, by rw [← h.a.len]; exact m3⟩
  show ((idT :: ms).all twoE && ((idT :: ms).all (nmE (names.map E.str)) && decide (((idT :: ms).map fun x => sx (frst x)).Nodup)) && (idE idT && ms.all fun x => ruleE ((plsE (.tup rows)).map sx) (scnd x))) = true
  have i1 : nmE (names.map E.str) idT = true := by
    show (isName "id" && !(anyIn (names.map E.str) (.str "id"))) = true
    rw [show isName "id" = true by decide +kernel, any_not fun e he => ?_]
    · rfl
    · obtain ⟨z, hz, rfl⟩ := List.mem_map.mp he
      exact ⟨z, rfl, fun w => absurd (w ▸ p1 z hz) (by decide +kernel)⟩
  rw [List.all_cons, List.all_cons, List.map_cons, r2, i1, List.all_eq_true.mpr fun r hr => (r1 r hr).1, List.all_eq_true.mpr fun r hr => (r1 r hr).2.1, List.all_eq_true.mpr fun r hr => (r1 r hr).2.2.1, show sx (frst idT) = "id" from rfl, decide_eq_true m2]
  rfl
/-! the kind -/
def knames : List Str := ["web", "a", "abcdefghijkl", "net"]
structure KindR (names mx : List Str) (rows ms : List E) (n g m s h : E) : Prop where
  n : ∃ x ∈ knames, n = .str x
  g : g = .tup rows
  gr : GvR names rows
  m : m = .tup (idT :: ms)
  mr : MdR names mx rows ms
  s : s = .non ∨ ∃ x ∈ names, s = .str x
  h : ∃ hs : List Str, h = .tup (hs.map E.str) ∧ hs.Sublist names
theorem kname_ok {x : Str} (h : x ∈ knames) : isName x = true := by
  simp only [knames, List.mem_cons, List.not_mem_nil, or_false] at h
  rcases h with rfl | rfl | rfl | rfl <;> decide +kernel
theorem hd_id (ms : List E) : hdD (.tup (idT :: ms)) = true := by
  show hdL [idT] = true
  decide +kernel
theorem str_map : ∀ hs : List Str, (∀ d ∈ hs.map E.str, pl d = true ∧ qd d = true ∧ dep d = 0) := fun hs d hd => by
  obtain ⟨x, _, rfl⟩ := List.mem_map.mp hd
  exact ⟨rfl, rfl, rfl⟩
theorem sx_map : ∀ hs : List Str, (hs.map E.str).map sx = hs
  | [] => rfl
  | x :: hs => by rw [List.map_cons, List.map_cons, sx_map hs]; rfl
structure Fine (n g m s h : E) : Prop where
  k : kindE [n, g, m, s, h] = none
  d : kindD [n, g, m, s, h] = true
  q : ∀ e ∈ [n, g, m, s, h], qd e = true ∧ dep e ≤ 3
structure Good (names : List Str) (rows ms : List E) (n g m s h : E) : Prop where
  n1 : nameE n = true
  nD : pl n = true
  g1 : gvsE g = true
  gD : gvsD g = true
  nm : nmsE g = names.map E.str
  m1 : (madeE (nmsE g) (plsE g) m && decide ((itm g).length + (itm m).length ≤ 8)) = true
  mD : (pl m && szE m && hdD m) = true
  s1 : sngE (nmsE g) s = true
  sD : pl s = true
  h1 : heldE (nmsE g) h = true
  hD : (pl h && szE h) = true
variable {names mx : List Str} {rows ms : List E} {n g m s h : E}
theorem KindR.good (k : KindR names mx rows ms n g m s h) : Good names rows ms n g m s h ∧ ∀ e ∈ [n, g, m, s, h], qd e = true ∧ dep e ≤ 3 := by
  obtain ⟨⟨x, hx, rfl⟩, rfl, gr, rfl, mr, hs, ⟨hl, rfl, hsub⟩⟩ := k
  obtain ⟨g1, g2, g3, g4, g5, g6, g7⟩ := gr.good
  obtain ⟨m1, m2, m3⟩ := mr.good gr
  obtain ⟨p1, p2, p3, p4⟩ := pref_n4 gr.n
  have sp : pl s = true ∧ qd s = true ∧ dep s = 0 ∧ sngE (nmsE (.tup rows)) s = true := by
    rcases hs with rfl | ⟨y, hy, rfl⟩
    · exact ⟨rfl, rfl, rfl, rfl⟩
    · refine ⟨rfl, rfl, rfl, ?_⟩
      rw [g7]
      exact any_mem (List.mem_map.mpr ⟨y, hy, rfl⟩)
  refine ⟨⟨kname_ok hx, rfl, g1, g2, g7, ?_, ?_, sp.2.2.2, sp.1, ?_, ?_⟩, ?_⟩
  · rw [g7, m1]
    exact decide_eq_true (by show rows.length + (ms.length + 1) ≤ 8; omega)
  · rw [hd_id, show pl (.tup (idT :: ms)) = true from plL_of fun d hd => ?_, show szE (.tup (idT :: ms)) = true from decide_eq_true (by show ms.length + 1 ≤ 900; omega)]
    · rfl
    · rcases List.mem_cons.mp hd with rfl | hd
      · rfl
      · exact (m2 d hd).1
  · rw [g7]
    show ((hl.map E.str).all (fun x => strE x && anyIn (names.map E.str) x) && decide (((hl.map E.str).map sx).Nodup)) = true
    rw [sx_map, decide_eq_true (hsub.nodup p2), List.all_eq_true.mpr fun e he => ?_]
    · rfl
    · obtain ⟨y, hy, rfl⟩ := List.mem_map.mp he
      show (true && anyIn (names.map E.str) (.str y)) = true
      rw [any_mem (List.mem_map.mpr ⟨y, hsub.subset hy, rfl⟩)]
      rfl
  · rw [show pl (.tup (hl.map E.str)) = true from plL_of fun d hd => (str_map hl d hd).1, show szE (.tup (hl.map E.str)) = true from decide_eq_true (by rw [List.length_map]; have := hsub.length_le; omega)]
    rfl
  · intro e he
    simp only [List.mem_cons, List.not_mem_nil, or_false] at he
    rcases he with rfl | rfl | rfl | rfl | rfl
    · exact ⟨rfl, Nat.zero_le _⟩
    · exact ⟨g4, g5⟩
    · refine ⟨qdL_of fun d hd => ?_, Nat.succ_le_succ (depL_le fun d hd => ?_)⟩
      · rcases List.mem_cons.mp hd with rfl | hd
        · rfl
        · exact (m2 d hd).2.1
      · rcases List.mem_cons.mp hd with rfl | hd
        · decide +kernel
        · exact (m2 d hd).2.2
    · exact ⟨sp.2.1, by omega⟩
    · exact ⟨qdL_of fun d hd => (str_map hl d hd).2.1, Nat.succ_le_succ (depL_le fun d hd => by rw [(str_map hl d hd).2.2]; omega)⟩
theorem kind_none (h1 : nameE n = true) (h2 : gvsE g = true) (h3 : (madeE (nmsE g) (plsE g) m && decide ((itm g).length + (itm m).length ≤ 8)) = true) (h4 : sngE (nmsE g) s = true) (h5 : heldE (nmsE g) h = true) : kindE [n, g, m, s, h] = none := by
  show (if _ = false then _ else _) = _
  rw [h1, if_neg (by decide), h2, if_neg (by decide), h3, if_neg (by decide), h4, if_neg (by decide), h5, if_neg (by decide)]
theorem kind0 (h1 : nameE n = false) : kindE [n, g, m, s, h] = some ("name" : Str) := by
  show (if _ = false then _ else _) = _
  rw [h1, if_pos rfl]
theorem kind1 (h1 : nameE n = true) (h2 : gvsE g = false) : kindE [n, g, m, s, h] = some ("given" : Str) := by
  show (if _ = false then _ else _) = _
  rw [h1, if_neg (by decide), h2, if_pos rfl]
theorem kind2 (h1 : nameE n = true) (h2 : gvsE g = true) (h3 : (madeE (nmsE g) (plsE g) m && decide ((itm g).length + (itm m).length ≤ 8)) = false) : kindE [n, g, m, s, h] = some ("made" : Str) := by
  show (if _ = false then _ else _) = _
  rw [h1, if_neg (by decide), h2, if_neg (by decide), h3, if_pos rfl]
theorem kind3 (h1 : nameE n = true) (h2 : gvsE g = true) (h3 : (madeE (nmsE g) (plsE g) m && decide ((itm g).length + (itm m).length ≤ 8)) = true) (h4 : sngE (nmsE g) s = false) : kindE [n, g, m, s, h] = some ("single" : Str) := by
  show (if _ = false then _ else _) = _
  rw [h1, if_neg (by decide), h2, if_neg (by decide), h3, if_neg (by decide), h4, if_pos rfl]
theorem kind4 (h1 : nameE n = true) (h2 : gvsE g = true) (h3 : (madeE (nmsE g) (plsE g) m && decide ((itm g).length + (itm m).length ≤ 8)) = true) (h4 : sngE (nmsE g) s = true) (h5 : heldE (nmsE g) h = false) : kindE [n, g, m, s, h] = some ("holds" : Str) := by
  show (if _ = false then _ else _) = _
  rw [h1, if_neg (by decide), h2, if_neg (by decide), h3, if_neg (by decide), h4, if_neg (by decide), h5, if_pos rfl]
theorem kindD_of (h1 : pl n = true) (h2 : gvsD g = true) (h3 : (pl m && szE m && hdD m) = true) (h4 : pl s = true) (h5 : (pl h && szE h) = true) : kindD [n, g, m, s, h] = true := by
  show (pl n && gvsD g && (pl m && szE m && hdD m) && pl s && (pl h && szE h)) = true
  rw [h1, h2, h3, h4, h5]
  rfl
/-! the odd parts -/
def nOdds : List E := [.str "", .str "Web", .str "web1", .str "abcdefghijklm", .non, .int 5, .tup [.str "web"], .lst [], .bl true, .str "w_b"]
def sOdds (x : E) : List E := [.str "id", .str "w", .str "", .int 5, .tup [], .lst [], .tup [x], .bl false]
def hOdds (x : E) : List E := [.non, x, .lst [x], .tup [.str "id"], .tup [x, x], .tup [.int 5], .tup [.lst []], .map [] []]
theorem odd0 : ∀ o ∈ nOdds, nameE o = false ∧ pl o = true := by
  intro o ho
  simp only [nOdds, List.mem_cons, List.not_mem_nil, or_false] at ho
  rcases ho with rfl | rfl | rfl | rfl | rfl | rfl | rfl | rfl | rfl | rfl <;> exact ⟨by decide +kernel, by decide +kernel⟩
theorem odd3 (hn : names ∈ prefs) : ∀ o ∈ sOdds (.str "x"), sngE (names.map E.str) o = false ∧ pl o = true := by
  intro o ho
  simp only [prefs, List.mem_cons, List.not_mem_nil, or_false] at hn
  simp only [sOdds, List.mem_cons, List.not_mem_nil, or_false] at ho
  rcases hn with rfl | rfl | rfl | rfl <;> rcases ho with rfl | rfl | rfl | rfl | rfl | rfl | rfl | rfl <;> exact ⟨by decide +kernel, by decide +kernel⟩
theorem odd4 (hn : names ∈ prefs) : ∀ o ∈ hOdds (.str "x"), heldE (names.map E.str) o = false ∧ (pl o && szE o) = true := by
  intro o ho
  simp only [prefs, List.mem_cons, List.not_mem_nil, or_false] at hn
  simp only [hOdds, List.mem_cons, List.not_mem_nil, or_false] at ho
  rcases hn with rfl | rfl | rfl | rfl <;> rcases ho with rfl | rfl | rfl | rfl | rfl | rfl | rfl | rfl <;> exact ⟨by decide +kernel, by decide +kernel⟩
theorem made_bad {l ps : List E} {m x : E} {ms : List E} (h : (twoE x && nmE l x && ruleE (ps.map sx) (scnd x)) = false) : madeE l ps (.tup (m :: ms ++ [x])) = false := by
  cases e : madeE l ps (.tup (m :: ms ++ [x])) with
  | false => rfl
  | true =>
    obtain ⟨e1, e2⟩ := Bool.and_eq_true_iff.mp (show ((m :: ms ++ [x]).all twoE && ((m :: ms ++ [x]).all (nmE l) && decide (((m :: ms ++ [x]).map fun x => sx (frst x)).Nodup)) && (idE m && (ms ++ [x]).all fun x => ruleE (ps.map sx) (scnd x))) = true from e)
    obtain ⟨e3, e4⟩ := Bool.and_eq_true_iff.mp e1
    obtain ⟨e5, e6⟩ := Bool.and_eq_true_iff.mp e4
    obtain ⟨e7, e8⟩ := Bool.and_eq_true_iff.mp e2
    have hx : x ∈ m :: ms ++ [x] := List.mem_append_right _ List.mem_cons_self
    have hx' : x ∈ ms ++ [x] := List.mem_append_right _ List.mem_cons_self
    rw [List.all_eq_true.mp e3 x hx, List.all_eq_true.mp e5 x hx, List.all_eq_true.mp e8 x hx'] at h
    cases h
theorem made_dup {l ps : List E} {m : E} {ms : List E} : madeE l ps (.tup (m :: ms ++ [m])) = false := by
  cases e : madeE l ps (.tup (m :: ms ++ [m])) with
  | false => rfl
  | true =>
    obtain ⟨e1, e2⟩ := Bool.and_eq_true_iff.mp (show ((m :: ms ++ [m]).all twoE && ((m :: ms ++ [m]).all (nmE l) && decide (((m :: ms ++ [m]).map fun x => sx (frst x)).Nodup)) && (idE m && (ms ++ [m]).all fun x => ruleE (ps.map sx) (scnd x))) = true from e)
    obtain ⟨e3, e4⟩ := Bool.and_eq_true_iff.mp e1
    obtain ⟨e5, e6⟩ := Bool.and_eq_true_iff.mp e4
    have nd := of_decide_eq_true e6
    rw [show m :: ms ++ [m] = m :: (ms ++ [m]) from rfl, List.map_cons, List.map_append] at nd
    exact absurd (List.mem_append_right _ (List.mem_cons_self)) (List.nodup_cons.mp nd).1
theorem rule_no {ps : List Str} {w : Str} {r : List E} (h1 : w ≠ "mark" ∨ r.isEmpty = false) (h2 : w ≠ "around" ∨ r.length ≠ 3 ∨ r.all strE = false ∨ hdIn ps r = false) : ruleE ps (.tup (.str w :: r)) = false := by
  show (if w = "mark" then _ else _) = false
  split
  · rename_i hw
    rcases h1 with h1 | h1
    · exact absurd hw h1
    · exact h1
  · rcases h2 with h2 | h2 | h2 | h2
    · rw [decide_eq_false h2]; rfl
    · rw [decide_eq_false h2, Bool.and_false]; rfl
    · rw [h2, Bool.and_false]; rfl
    · rw [h2, Bool.and_false]
theorem and_l {a b : Bool} (h : a = false) : (a && b) = false := by rw [h]; rfl
theorem and_r {a b : Bool} (h : b = false) : (a && b) = false := by rw [h, Bool.and_false]
theorem gE {a b c d : E} (h : (nameE a && (sortsE b && (blE c && tableE d))) = false) : givenE (.tup [a, b, c, d]) = false := h
theorem tl {ps : List E} {m : E} {r : List E} (h : idE m = false) : tailE ps (m :: r) = false := by
  show (idE m && _) = false
  rw [h]; rfl
theorem mnil {l ps : List E} : madeE l ps (.tup []) = false := by
  show (([] : List E).all twoE && (([] : List E).all (nmE l) && decide ((([] : List E).map fun x => sx (frst x)).Nodup)) && false) = false
  exact Bool.and_false _
theorem odd2_bad (gr : GvR names rows) : ∀ x ∈ mBad (.str "x"), (twoE x && nmE (names.map E.str) x && ruleE ((plsE (.tup rows)).map sx) (scnd x)) = false ∧ pl x = true := by
  obtain ⟨p1, p2, p3, r, p4⟩ := pref_n4 gr.n
  intro x hx
  simp only [mBad, List.mem_cons, List.not_mem_nil, or_false] at hx
  rcases hx with rfl | rfl | rfl | rfl | rfl | rfl | rfl | rfl | rfl | rfl | rfl | rfl | rfl | rfl
  · exact ⟨and_r (rule_no (.inl (by decide)) (.inl (by decide))), rfl⟩
  · refine ⟨and_l (and_r ?_), rfl⟩
    show (isName "x" && !(anyIn (names.map E.str) (.str "x"))) = false
    rw [any_mem (List.mem_map.mpr ⟨("x" : Str), by rw [p4]; exact List.mem_cons_self, rfl⟩)]
    exact Bool.and_false _
  · refine ⟨and_r (rule_no (.inl (by decide)) (.inr (.inr (.inr ?_)))), rfl⟩
    show anyIn (((plsE (.tup rows)).map sx).map E.str) (.str "w") = false
    refine any_not fun e he => ?_
    obtain ⟨y, hy, rfl⟩ := List.mem_map.mp he
    obtain ⟨u, hu, rfl⟩ := List.mem_map.mp hy
    obtain ⟨z, hz, rfl⟩ := pls_in gr u hu
    exact ⟨z, rfl, fun w => absurd (w ▸ p1 z hz) (by decide +kernel)⟩
  · exact ⟨and_r (rule_no (.inl (by decide)) (.inr (.inl (by decide)))), rfl⟩
  · exact ⟨and_r (rule_no (.inl (by decide)) (.inr (.inr (.inl (by decide))))), rfl⟩
  · exact ⟨and_r rfl, rfl⟩
  · exact ⟨and_r rfl, rfl⟩
  · exact ⟨and_r (rule_no (.inl (by decide)) (.inl (by decide))), rfl⟩
  · exact ⟨and_l (and_r (and_l (by decide +kernel))), rfl⟩
  · exact ⟨rfl, rfl⟩
  · exact ⟨and_l (and_r (and_l (by decide +kernel))), rfl⟩
  · exact ⟨and_l (and_r (and_l (by decide +kernel))), rfl⟩
  · exact ⟨and_r rfl, rfl⟩
  · exact ⟨and_r (rule_no (.inr rfl) (.inl (by decide))), rfl⟩
def mAll (a m : E) (ms rows : List E) (o : E) : Prop := o ∈ mOther m ms ∨ o = .tup (m :: ms ++ [m]) ∨ (∃ x ∈ mBad a, o = .tup (m :: ms ++ [x])) ∨ ∃ x ∈ rows, tabRow x = true ∧ o = .tup (m :: ms ++ [arRow x])
theorem odd2 (gr : GvR names rows) (mr : MdR names mx rows ms) {o : E} (ho : mAll (.str "x") idT ms rows o) : (madeE (names.map E.str) (plsE (.tup rows)) o && decide (rows.length + (itm o).length ≤ 8)) = false ∧ (pl o && szE o && hdD o) = true := by
  obtain ⟨p1, p2, p3, r, p4⟩ := pref_n4 gr.n
  obtain ⟨m1, m2, m3⟩ := mr.good gr
  have rl := gr.a.len
  have D : ∀ t : List E, (∀ d ∈ t, pl d = true) → t.length ≤ 900 → hdL t = true → (pl (.tup t) && szE (.tup t) && hdD (.tup t)) = true := fun t h1 h2 h3 => by
    rw [show pl (.tup t) = true from plL_of h1, show szE (.tup t) = true from decide_eq_true h2, show hdD (.tup t) = true from h3]
    rfl
  have DA : ∀ x, pl x = true → (pl (.tup (idT :: ms ++ [x])) && szE (.tup (idT :: ms ++ [x])) && hdD (.tup (idT :: ms ++ [x]))) = true := fun x hx => by
    refine D (idT :: ms ++ [x]) (fun d hd => ?_) ?_ (hd_id (ms ++ [x]))
    · rcases List.mem_append.mp hd with hd | hd
      · rcases List.mem_cons.mp hd with rfl | hd
        · rfl
        · exact (m2 d hd).1
      · rcases List.mem_cons.mp hd with rfl | hd
        · exact hx
        · cases hd
    · rw [List.length_append, List.length_cons]
      simp
      omega
  rcases ho with ho | rfl | ⟨x, hx, rfl⟩ | ⟨x, hx, ht, rfl⟩
  · simp only [mOther, List.mem_cons, List.not_mem_nil, or_false] at ho
    rcases ho with rfl | rfl | rfl | rfl | rfl | rfl
    · exact ⟨and_l mnil, rfl⟩
    · refine ⟨and_l rfl, ?_⟩
      show (plL (idT :: ms) && true && true) = true
      rw [plL_of fun d hd => ?_]
      · rfl
      · rcases List.mem_cons.mp hd with rfl | hd
        · rfl
        · exact (m2 d hd).1
    · exact ⟨and_l rfl, rfl⟩
    · refine ⟨and_l (and_r (tl (by decide +kernel))), D _ (fun d hd => ?_) ?_ (show hdL [kN "k"] = true by decide +kernel)⟩
      · rcases List.mem_cons.mp hd with rfl | hd
        · rfl
        rcases List.mem_cons.mp hd with rfl | hd
        · rfl
        · exact (m2 d hd).1
      · rw [List.length_cons, List.length_cons]
        omega
    · refine ⟨and_l (and_r (tl (by decide +kernel))), D _ (fun d hd => ?_) ?_ (show hdL [kN "id"] = true by decide +kernel)⟩
      · rcases List.mem_cons.mp hd with rfl | hd
        · rfl
        · exact (m2 d hd).1
      · rw [List.length_cons]
        omega
    · refine ⟨and_r (decide_eq_false ?_), by decide +kernel⟩
      show ¬ (rows.length + 9 ≤ 8)
      omega
  · exact ⟨and_l made_dup, DA _ rfl⟩
  · obtain ⟨b1, b2⟩ := odd2_bad gr x hx
    exact ⟨and_l (made_bad b1), DA _ b2⟩
  · obtain ⟨y, hy⟩ : ∃ y, frst x = .str y := by
      have hf : frst x ∈ rows.map frst := List.mem_map.mpr ⟨x, hx, rfl⟩
      rw [show rows.map frst = names.map E.str from gr.good.2.2.2.2.2.2] at hf
      obtain ⟨y, _, e⟩ := List.mem_map.mp hf
      exact ⟨y, e.symm⟩
    have hp : plnE x = false := by
      unfold plnE
      split
      · cases ht
      · rfl
    have hno := tab_not gr.a p2 x hx hp
    refine ⟨and_l (made_bad (and_r ?_)), DA _ ?_⟩
    · show ruleE _ (.tup (.str "around" :: [frst x, .str "", .str ""])) = false
      refine rule_no (.inl (by decide)) (.inr (.inr (.inr ?_)))
      rw [hy]
      show anyIn (((plsE (.tup rows)).map sx).map E.str) (.str y) = false
      refine any_not fun e he => ?_
      obtain ⟨z, hz, rfl⟩ := List.mem_map.mp he
      obtain ⟨u, hu, rfl⟩ := List.mem_map.mp hz
      refine ⟨_, rfl, fun w => hno ?_⟩
      rw [hy]
      obtain ⟨v, _, rfl⟩ := pls_in gr u hu
      rw [← w]
      exact hu
    · show plL [.str "k", .tup [.str "around", frst x, .str "", .str ""]] = true
      rw [hy]
      rfl
theorem odd1 {a b c d : E} {rest : List E} (gr : GvR names (.tup [a, b, c, d] :: rest)) : ∀ o ∈ gOdds a b c d rest, gvsE o = false ∧ gvsD o = true := by
  obtain ⟨p1, p2, p3, r, p4⟩ := pref_n4 gr.n
  obtain ⟨g1, g2, g3, g4, g5, g6, g7⟩ := gr.good
  have ga := gr.a
  rw [p4] at ga
  cases ga with
  | cons h0 t =>
  have hr0 := row_ok (by decide +kernel) h0
  obtain ⟨s, b', t', e0, hs, ht⟩ := h0
  cases e0
  obtain ⟨t1, t2, t3, t4, t5⟩ := tab_ok ht
  intro o ho
  simp only [gOdds, List.mem_cons, List.not_mem_nil, or_false] at ho
  have one : ∀ x : E, givenE x = false → givD x = true → gvsE (.tup [x]) = false ∧ gvsD (.tup [x]) = true := fun x h1 h2 => by
    refine ⟨and_l ?_, ?_⟩
    · show (givenE x && true) = false
      rw [h1]; rfl
    · show ((givD x && true) && decide (1 ≤ 900)) = true
      rw [h2]; rfl
  rcases ho with rfl | rfl | rfl | rfl | rfl | rfl | rfl | rfl | rfl | rfl | rfl | rfl | rfl | rfl | rfl | rfl | rfl | rfl
  · exact ⟨rfl, rfl⟩
  · exact ⟨rfl, rfl⟩
  · refine ⟨and_r (decide_eq_false fun nd => ?_), ?_⟩
    · rw [List.cons_append, List.map_cons, List.map_append] at nd
      exact absurd (List.mem_append_right _ (List.mem_cons_self)) (List.nodup_cons.mp nd).1
    · obtain ⟨q1, q2⟩ := Bool.and_eq_true_iff.mp (show (_ && decide _) = true from g2)
      show ((E.tup _ :: rest ++ [_]).all givD && decide ((E.tup _ :: rest ++ [_]).length ≤ 900)) = true
      rw [List.all_append, q1, decide_eq_true (by have := t.len; rw [List.length_append, List.length_cons]; have : names.length = r.length + 1 := by rw [p4]; rfl
                                                  simp; omega)]
      show (true && (givD _ && true) && true) = true
      rw [hr0.2.1]
      rfl
  · exact one _ rfl rfl
  · exact one _ rfl rfl
  · exact one _ rfl rfl
  · exact one _ rfl (by show (true && true && true && tblD d) = true; rw [t2]; rfl)
  · exact one _ rfl rfl
  · exact one _ (gE (and_l (by decide +kernel))) (by show (true && true && true && tblD d) = true; rw [t2]; rfl)
  · exact one _ (gE (and_r (and_l (by decide +kernel)))) (by show (true && true && true && tblD d) = true; rw [t2]; rfl)
  · exact one _ (gE (and_r (and_r (and_l rfl)))) (by show (true && true && true && tblD d) = true; rw [t2]; rfl)
  · exact one _ (gE (and_r (and_r (and_r (by decide +kernel))))) rfl
  · exact one _ (gE (and_r (and_r (and_r (by decide +kernel))))) rfl
  · exact one _ (gE (and_r (and_r (and_r rfl)))) rfl
  · exact one _ (gE (and_r (and_l rfl))) (by show (true && true && true && tblD d) = true; rw [t2]; rfl)
  · exact one _ rfl rfl
  · exact one _ (gE (and_r (and_l rfl))) (by show (true && true && true && tblD d) = true; rw [t2]; rfl)
  · exact one _ (gE (and_r (and_l (by decide +kernel)))) (by show (true && true && true && tblD d) = true; rw [t2]; rfl)
end K05

/-! kinds are equal to themselves, and to no other ones (no program here) -/
namespace K05
open PySem L2 XR VT ET
mutual
def ndE : E → Bool
  | .tup l => ndL l
  | .map ks ds => decide ks.Nodup && decide (ks.length = ds.length)
  | _ => true
def ndL : List E → Bool
  | [] => true
  | d :: l => ndE d && ndL l
end
theorem ndL_mem : ∀ {l : List E} {d : E}, ndL l = true → d ∈ l → ndE d = true
  | x :: l, d, h, hd => by
    obtain ⟨h1, h2⟩ := Bool.and_eq_true_iff.mp (show (ndE x && ndL l) = true from h)
    rcases List.mem_cons.mp hd with rfl | hd
    · exact h1
    · exact ndL_mem h2 hd
theorem ndL_of : ∀ {l : List E}, (∀ r ∈ l, ndE r = true) → ndL l = true
  | [], _ => rfl
  | a :: l, hh => Bool.and_eq_true_iff.mpr ⟨hh a List.mem_cons_self, ndL_of fun r hr => hh r (List.mem_cons_of_mem _ hr)⟩
theorem zip_self : ∀ {l : List E} {p : E × E}, p ∈ l.zip l → p.1 = p.2 ∧ p.1 ∈ l
  | x :: l, p, h => by
    rcases List.mem_cons.mp h with rfl | h
    · exact ⟨rfl, List.mem_cons_self⟩
    · obtain ⟨a, b⟩ := zip_self h
      exact ⟨a, List.mem_cons_of_mem _ b⟩
theorem get_at : ∀ {ks : List L2.Key} {ds : List E} {p : L2.Key × E}, ks.Nodup → p ∈ ks.zip ds → getE ks ds p.1 = p.2
  | k :: ks, d :: ds, p, nd, h => by
    obtain ⟨nk, nd'⟩ := List.nodup_cons.mp nd
    rcases List.mem_cons.mp h with rfl | h
    · unfold getE
      rw [show (k :: ks).zip (d :: ds) = (k, d) :: ks.zip ds from rfl, List.find?_cons_of_pos (by simp)]
    · have hk : p.1 ∈ ks := (List.of_mem_zip h).1
      have ne : k ≠ p.1 := fun z => nk (z ▸ hk)
      unfold getE
      rw [show (k :: ks).zip (d :: ds) = (k, d) :: ks.zip ds from rfl, List.find?_cons_of_neg (by simpa using ne)]
      exact get_at nd' h
  | [], _, _, _, h => by cases h
  | _ :: _, [], _, _, h => by cases h
theorem flat_eq {n : Nat} {d : E} (h : flatE d = true) : eqE (n + 1) d d = true := by
  show (decide (sortE d = sortE d) && eqC (eqE n) d d) = true
  rw [decide_eq_true rfl]
  cases d <;> first | (cases h; done) | rfl | (show (true && decide (_ = _)) = true; rw [decide_eq_true rfl]; rfl)
theorem eqE_refl : ∀ (n : Nat) (d : E), qd d = true → ndE d = true → dep d < n → eqE n d d = true
  | n + 1, d, hq, hn, hd => by
    show (decide (sortE d = sortE d) && eqC (eqE n) d d) = true
    rw [decide_eq_true rfl]
    cases d with
    | tup l =>
      show (true && (decide (l.length = l.length) && (l.zip l).all fun p => eqE n p.1 p.2)) = true
      rw [decide_eq_true rfl, List.all_eq_true.mpr fun p hp => ?_]
      · rfl
      · obtain ⟨e, m⟩ := zip_self hp
        rw [← e]
        exact eqE_refl n p.1 (qdL_mem hq m) (ndL_mem hn m) (by have := dep_mem m; have : depL l + 1 < n + 1 := hd; omega)
    | map ks ds =>
      obtain ⟨h1, h2⟩ := Bool.and_eq_true_iff.mp (show (decide ks.Nodup && decide (ks.length = ds.length)) = true from hn)
      obtain ⟨g1, g2⟩ := Bool.and_eq_true_iff.mp (show (ks.all keyB && ds.all flatE) = true from hq)
      show (true && (decide (ds.length = ds.length) && (ks.all (hasK ks) && (ks.zip ds).all fun p => eqE n p.2 (getE ks ds p.1)))) = true
      rw [decide_eq_true rfl, List.all_eq_true.mpr fun k hk => hasK_iff.mpr hk, List.all_eq_true.mpr fun p hp => ?_]
      · rfl
      · rw [get_at (of_decide_eq_true h1) hp]
        have : depL ds + 1 < n + 1 := hd
        match n, this with
        | n + 1, _ => exact flat_eq (List.all_eq_true.mp g2 p.2 (List.of_mem_zip hp).2)
    | lst l => cases hq
    | ins _ _ _ => cases hq
    | non => rfl
    | bl b => show (true && decide (b = b)) = true; rw [decide_eq_true rfl]; rfl
    | int b => show (true && decide (b = b)) = true; rw [decide_eq_true rfl]; rfl
    | str b => show (true && decide (b = b)) = true; rw [decide_eq_true rfl]; rfl
theorem tup_ne {n : Nat} {l m : List E} (i : Nat) {x y : E} (hl : l[i]? = some x) (hm : m[i]? = some y) (h : eqE n x y = false) : eqE (n + 1) (.tup l) (.tup m) = false := by
  show (decide _ && (decide (l.length = m.length) && (l.zip m).all fun p => eqE n p.1 p.2)) = false
  refine and_r (and_r ?_)
  cases e : (l.zip m).all fun p => eqE n p.1 p.2 with
  | false => rfl
  | true =>
    have hz : (l.zip m)[i]? = some (x, y) := by rw [List.getElem?_zip_eq_some]; exact ⟨hl, hm⟩
    have := List.all_eq_true.mp e _ (List.mem_of_getElem? hz)
    rw [show eqE n (x, y).1 (x, y).2 = eqE n x y from rfl, h] at this
    cases this
theorem len_ne {n : Nat} {l m : List E} (h : l.length ≠ m.length) : eqE (n + 1) (.tup l) (.tup m) = false := and_r (and_l (decide_eq_false h))
theorem str_ne {n : Nat} {x y : Str} (h : x ≠ y) : eqE (n + 1) (.str x) (.str y) = false := and_r (decide_eq_false h)
theorem bl_ne {n : Nat} {x y : Bool} (h : x ≠ y) : eqE (n + 1) (.bl x) (.bl y) = false := and_r (decide_eq_false h)
theorem sort_ne {n : Nat} {d e : E} (h : sortE d ≠ sortE e) : eqE (n + 1) d e = false := and_l (decide_eq_false h)
variable {names mx : List Str} {rows ms : List E} {n g m s h : E}
theorem tab_nd {t : E} (h : t = .non ∨ t ∈ tabs) : ndE t = true := by
  rcases h with rfl | h
  · rfl
  · simp only [tabs, List.mem_cons, List.not_mem_nil, or_false] at h
    rcases h with rfl | rfl | rfl <;> decide +kernel
theorem KindR.nd (k : KindR names mx rows ms n g m s h) : ∀ e ∈ [n, g, m, s, h], ndE e = true := by
  obtain ⟨⟨x, hx, rfl⟩, rfl, gr, rfl, mr, hs, ⟨hl, rfl, hsub⟩⟩ := k
  intro e he
  simp only [List.mem_cons, List.not_mem_nil, or_false] at he
  rcases he with rfl | rfl | rfl | rfl | rfl
  · rfl
  · refine ndL_of fun r hr => ?_
    have : ∀ {xs rs}, All2 rowR xs rs → ∀ r ∈ rs, ndE r = true := by
      intro xs rs a
      induction a with
      | nil => intro r h; cases h
      | @cons x r0 xs rs h t ih =>
        intro r hr
        rcases List.mem_cons.mp hr with rfl | hr
        · obtain ⟨s, b, t, rfl, hs, ht⟩ := h
          show (true && (true && (true && (ndE t && true)))) = true
          rw [tab_nd ht]; rfl
        · exact ih r hr
    exact this gr.a r hr
  · refine ndL_of fun r hr => ?_
    rcases List.mem_cons.mp hr with rfl | hr
    · rfl
    · have : ∀ {xs rs}, All2 (mrowR (plsE (.tup rows))) xs rs → ∀ r ∈ rs, ndE r = true := by
        intro xs rs a
        induction a with
        | nil => intro r h; cases h
        | @cons x r0 xs rs h t ih =>
          intro r hr
          rcases List.mem_cons.mp hr with rfl | hr
          · obtain ⟨q, rfl, hq⟩ := h
            rcases hq with rfl | ⟨x, hx, rfl⟩
            · rfl
            · obtain ⟨y, _, rfl⟩ := pls_in gr x hx
              rfl
          · exact ih r hr
      exact this mr.a r hr
  · rcases hs with rfl | ⟨y, hy, rfl⟩ <;> rfl
  · refine ndL_of fun r hr => ?_
    obtain ⟨y, _, rfl⟩ := List.mem_map.mp hr
    rfl
/-- what the law wants of a right kind -/
structure Fit (n g m s h : E) : Prop where
  k : kindE [n, g, m, s, h] = none
  d : kindD [n, g, m, s, h] = true
  q : qd (.tup [n, g, m, s, h]) = true
  dp : dep (.tup [n, g, m, s, h]) < 5
theorem KindR.fit (k : KindR names mx rows ms n g m s h) : Fit n g m s h := by
  obtain ⟨G, q⟩ := k.good
  refine ⟨kind_none G.n1 G.g1 G.m1 G.s1 G.h1, kindD_of G.nD G.gD G.mD G.sD G.hD, qdL_of fun e he => (q e he).1, Nat.succ_le_succ (Nat.succ_le_succ (depL_le fun e he => (q e he).2))⟩
theorem KindR.refl (k : KindR names mx rows ms n g m s h) : eqE 5 (.tup [n, g, m, s, h]) (.tup [n, g, m, s, h]) = true := eqE_refl _ _ k.fit.q (ndL_of k.nd) k.fit.dp
theorem flip_row {x : Str} {r : E} (hr : rowR x r) : ∃ s b t, r = .tup [.str x, .str s, .bl b, t] ∧ rowR x (.tup [.str x, .str s, .bl (!b), t]) := by
  obtain ⟨s, b, t, rfl, hs, ht⟩ := hr
  exact ⟨s, b, t, rfl, s, !b, t, rfl, hs, ht⟩
/-- the first row with the other bool -/
theorem KindR.flip (k : KindR names mx rows ms n g m s h) : ∃ a b c t rest, rows = .tup [a, b, .bl c, t] :: rest ∧ KindR names mx (.tup [a, b, .bl (!c), t] :: rest) ms n (.tup (.tup [a, b, .bl (!c), t] :: rest)) m s h ∧ eqE 5 (.tup [n, .tup (.tup [a, b, .bl (!c), t] :: rest), m, s, h]) (.tup [n, g, m, s, h]) = false := by
  obtain ⟨p1, p2, p3, r, p4⟩ := pref_n4 k.gr.n
  obtain ⟨kn, rfl, ⟨gn, ga⟩, km, ⟨mn, ma⟩, ks, kh⟩ := k
  subst p4
  cases ga with
  | @cons x r0 xs rs h0 t0 =>
  obtain ⟨s1, b1, t1, rfl, h1⟩ := flip_row h0
  have ep : plsE (.tup (.tup [.str "x", .str s1, .bl (!b1), t1] :: rs)) = plsE (.tup (.tup [.str "x", .str s1, .bl b1, t1] :: rs)) := by
    unfold plsE itm
    cases t1 <;> rfl
  refine ⟨_, _, _, _, _, rfl, ⟨kn, rfl, ⟨gn, .cons h1 t0⟩, km, ⟨mn, by rw [ep]; exact ma⟩, ks, kh⟩, ?_⟩
  exact tup_ne 1 rfl rfl (tup_ne 0 rfl rfl (tup_ne 2 rfl rfl (bl_ne (by cases b1 <;> simp))))
theorem KindR.net (k : KindR names mx rows ms n g m s h) (hn : ∃ x ∈ (["web", "a", "abcdefghijkl"] : List Str), n = .str x) : KindR names mx rows ms (.str "net") g m s h ∧ eqE 5 (.tup [.str "net", g, m, s, h]) (.tup [n, g, m, s, h]) = false := by
  obtain ⟨kn, rfl, gr, km, mr, ks, kh⟩ := k
  refine ⟨⟨⟨_, by decide +kernel, rfl⟩, rfl, gr, km, mr, ks, kh⟩, tup_ne 0 rfl rfl ?_⟩
  obtain ⟨x, hx, rfl⟩ := hn
  refine str_ne fun z => ?_
  subst z
  exact absurd hx (by decide +kernel)
theorem KindR.single (k : KindR names mx rows ms n g m s h) {y : Str} (hy : y ∈ names) {s' : E} (hs : (s = .non ∧ s' = .str y) ∨ (s ≠ .non ∧ s' = .non)) : KindR names mx rows ms n g m s' h ∧ eqE 5 (.tup [n, g, m, s', h]) (.tup [n, g, m, s, h]) = false := by
  obtain ⟨kn, rfl, gr, km, mr, ks, kh⟩ := k
  rcases hs with ⟨rfl, rfl⟩ | ⟨h1, rfl⟩
  · exact ⟨⟨kn, rfl, gr, km, mr, .inr ⟨_, hy, rfl⟩, kh⟩, tup_ne 3 rfl rfl (sort_ne (show ("text" : Str) ≠ "none" by decide))⟩
  · refine ⟨⟨kn, rfl, gr, km, mr, .inl rfl, kh⟩, tup_ne 3 rfl rfl ?_⟩
    rcases ks with rfl | ⟨z, hz, rfl⟩
    · exact absurd rfl h1
    · exact sort_ne (show ("none" : Str) ≠ "text" by decide)
theorem KindR.held (k : KindR names mx rows ms n g m s h) {h' : E} (hh : (h = .tup [] ∧ h' = .tup (names.map E.str)) ∨ (h ≠ .tup [] ∧ h' = .tup [])) : KindR names mx rows ms n g m s h' ∧ eqE 5 (.tup [n, g, m, s, h']) (.tup [n, g, m, s, h]) = false := by
  obtain ⟨kn, rfl, gr, km, mr, ks, kh⟩ := k
  obtain ⟨p1, p2, p3, r, p4⟩ := pref_n4 gr.n
  rcases hh with ⟨rfl, rfl⟩ | ⟨h1, rfl⟩
  · refine ⟨⟨kn, rfl, gr, km, mr, ks, _, rfl, List.Sublist.refl _⟩, tup_ne 4 rfl rfl (len_ne ?_)⟩
    rw [p4]
    exact fun z => by cases z
  · refine ⟨⟨kn, rfl, gr, km, mr, ks, [], rfl, List.nil_sublist _⟩, tup_ne 4 rfl rfl ?_⟩
    obtain ⟨hs, rfl, _⟩ := kh
    cases hs with
    | nil => exact absurd rfl h1
    | cons a l => exact len_ne fun z => by cases z
/-- one attribute too many -/
theorem KindR.extra (k : KindR names mx rows ms n g m s h) {ex : List E} (he : ∀ e ∈ ex, pl e = true) (hl : rows.length + (ms.length + 1) + ex.length = 9) : kindE [n, g, .tup (idT :: ms ++ ex), s, h] = some "made" ∧ kindD [n, g, .tup (idT :: ms ++ ex), s, h] = true := by
  obtain ⟨G, q⟩ := k.good
  have kg := k.g
  have m2 := (k.mr.good k.gr).2.1
  refine ⟨kind2 G.n1 G.g1 (and_r (decide_eq_false ?_)), kindD_of G.nD G.gD ?_ G.sD G.hD⟩
  · rw [kg]
    show ¬ (rows.length + (idT :: ms ++ ex).length ≤ 8)
    rw [List.length_append, List.length_cons]
    omega
  · rw [show pl (.tup (idT :: ms ++ ex)) = true from plL_of fun d hd => ?_, show szE (.tup (idT :: ms ++ ex)) = true from decide_eq_true (by rw [List.length_append, List.length_cons]; omega), show hdD (.tup (idT :: ms ++ ex)) = true from hd_id _]
    · rfl
    · rcases List.mem_append.mp hd with hd | hd
      · rcases List.mem_cons.mp hd with rfl | hd
        · rfl
        · exact (m2 d hd).1
      · exact he d hd
end K05

/-! lists that are being filled beside a well; comprehensions that draw -/
namespace K05
open PySem L2 XR VT ET
theorem nd_go {w : Addr} {i q m : Nat} {P : Addr → Prop} {σ : L2.St} {H : Hp} {env : List (Option E)} {te : TE} {f : NE} {Q : VK} {Φ : E → Prop} (hE : NdE i q te f) (nd : Nd w i m P σ H env) (hm : q ≤ m) (hf : f env Φ) (k : ∀ v d H', But w H H' → Wl H' w (m - q) → Rp (keepH P H') v d → Φ d → Q v H') : te σ H Q :=
  hE w (m - q) P σ H env Q Φ (nd.le (by omega)) hf k
theorem nd_goA {w : Addr} {i q m : Nat} {P : Addr → Prop} {σ : L2.St} {H : Hp} {env : List (Option E)} {te : TA} {f : NA} {Q : List V → Hp → Prop} {Φ : List E → Prop} (hE : NdA i q te f) (nd : Nd w i m P σ H env) (hm : q ≤ m) (hf : f env Φ) (k : ∀ v d H', But w H H' → Wl H' w (m - q) → RpL (keepH P H') v d → Φ d → Q v H') : te σ H Q :=
  hE w (m - q) P σ H env Q Φ (nd.le (by omega)) hf k
/-- beside what is kept: a list at L, in slot j, that is being filled -/
structure NdO (w L : Addr) (i j n : Nat) (P : Addr → Prop) (σ : L2.St) (H : Hp) (env : List (Option E)) (ds : List E) : Prop where
  nd : Nd w i n P σ H env
  at_ : σ[j]? = some (some (.ref L))
  nL : ¬ P L
  ne : L ≠ w
  vs : ∃ vs, H L = some (.lst vs) ∧ RpL (keepH P H) vs ds
section
variable {w L : Addr} {i j k n n' : Nat} {P : Addr → Prop} {σ : L2.St} {H H' : Hp} {env : List (Option E)} {ds : List E} {v : V} {d : E} {vs : List V}
theorem NdO.next (h : NdO w L i j n P σ H env ds) (B : But w H H') (W : Wl H' w n') : NdO w L i j n' P σ H' env ds := by
  obtain ⟨vs, h1, h2⟩ := h.vs
  exact ⟨h.nd.next B W, h.at_, h.nL, h.ne, vs, B _ _ h1 h.ne, h2.but h.nd.nw B⟩
theorem NdO.le (h : NdO w L i j n P σ H env ds) (l : n' ≤ n) : NdO w L i j n' P σ H env ds := ⟨h.nd.le l, h.at_, h.nL, h.ne, h.vs⟩
theorem NdO.set (h : NdO w L i j n P σ H env ds) (ki : k ≠ i) (kj : k ≠ j) (r : Rp (keepH P H) v d) : NdO w L i j n P (σ.set k (some v)) H (env.set k (some d)) ds :=
  ⟨h.nd.set ki r, by rw [List.getElem?_set_ne kj]; exact h.at_, h.nL, h.ne, h.vs⟩
theorem keep_out {o : HO} (nL : ¬ P L) : ∀ a u, keepH P H a = some u → keepH P (L2.upd H L o) a = some u := fun a u e => by
  obtain ⟨p, e'⟩ := keep_some e
  rw [keep_at p, upd_ne (show a ≠ L from fun z => nL (by rw [← z]; exact p))]
  exact e'
theorem Wl.upd {o : HO} (h : Wl H w n) (ne : L ≠ w) : Wl (L2.upd H L o) w n := by
  obtain ⟨a, b, c, W, hc⟩ := h
  exact ⟨a, b, c, ⟨by rw [upd_ne (fun z => ne z.symm)]; exact W.at_, W.b0, W.b1, W.c0, W.c1⟩, hc⟩
theorem NdO.put (h : NdO w L i j n P σ H env ds) (r : RpL (keepH P H) vs ds') : NdO w L i j n P σ (L2.upd H L (.lst vs)) env ds' := by
  obtain ⟨vs0, h1, h2⟩ := h.vs
  refine ⟨⟨h.nd.en.mono (keep_out h.nL), fun b hb => ?_, h.nd.nw, h.nd.wl.upd h.ne, h.nd.at_⟩, h.at_, h.nL, h.ne, vs, upd_same, r.mono (keep_out h.nL)⟩
  by_cases hq : b = L
  · rw [hq, upd_same] at hb
    cases hb
  · rw [upd_ne hq] at hb
    exact h.nd.fr b hb
theorem Nd.own (h : Nd w i n P σ H env) (ji : j ≠ i) (hj : j < env.length) (hL : H L = none) (r : RpL (keepH P H) vs ds) : NdO w L i j n (fun b => P b ∧ b ≠ L) (σ.set j (some (.ref L))) (L2.upd H L (.lst vs)) (env.set j none) ds := by
  have ne : L ≠ w := fun z => by
    obtain ⟨o, ho⟩ := h.wl.there
    rw [z, ho] at hL
    cases hL
  have mk : ∀ a u, keepH P H a = some u → keepH (fun b => P b ∧ b ≠ L) (L2.upd H L (.lst vs)) a = some u := keep_off hL fun b o e => by rw [upd_ne (ne_of_none e hL)]; exact e
  refine ⟨⟨?_, fun b hb => ?_, fun z => h.nw z.1, h.wl.upd ne, by rw [List.getElem?_set_ne ji]; exact h.at_⟩, ?_, fun z => z.2 rfl, ne, vs, upd_same, r.mono mk⟩
  · refine ⟨by rw [List.length_set, List.length_set]; exact h.en.1, fun a d e => ?_⟩
    by_cases ha : j = a
    · subst ha
      have hl : j < env.length := by
        have := (List.getElem?_eq_some_iff.mp e).1
        rwa [List.length_set] at this
      rw [List.getElem?_set_self hl] at e
      cases e
    · rw [List.getElem?_set_ne ha] at e ⊢
      obtain ⟨v, h1, h2⟩ := h.en.2 a d e
      exact ⟨v, h1, h2.mono mk⟩
  · have nb : b ≠ L := fun z => by rw [z, upd_same] at hb; cases hb
    rw [upd_ne nb] at hb
    exact ⟨h.fr b hb, nb⟩
  · rw [List.getElem?_set_self (by rw [h.en.1]; exact hj)]
theorem NdO.free (h : NdO w L i j n (fun b => P b ∧ b ≠ L) σ H env ds) (hz : ds.length ≤ 900) (fr : ∀ b, H b = none → P b) (pL : P L) (nw : ¬ P w) (ne : env[j]? = some none) : Nd w i n P σ H (env.set j (some (.lst ds))) := by
  obtain ⟨vs, h1, h2⟩ := h.vs
  have up : ∀ a u, keepH (fun b => P b ∧ b ≠ L) H a = some u → keepH P H a = some u := fun a u e => by
    obtain ⟨p, e'⟩ := keep_some e
    rw [keep_at p.1]
    exact e'
  have r2 := h2.mono up
  refine ⟨⟨by rw [List.length_set]; exact h.nd.en.1, fun a d e => ?_⟩, fr, nw, h.nd.wl, h.nd.at_⟩
  by_cases ha : j = a
  · subst ha
    rw [List.getElem?_set_self (List.getElem?_eq_some_iff.mp ne).1] at e
    cases e
    exact ⟨_, h.at_, .lst (by rw [keep_at pL]; exact h1) r2.length hz r2.get⟩
  · rw [List.getElem?_set_ne ha] at e
    obtain ⟨v, g1, g2⟩ := h.nd.en.2 a d e
    exact ⟨v, g1, g2.mono up⟩
theorem NdO.fresh {o : HO} {H0 : Hp} (B : But w H0 H) (hL : H0 L = none) : But w H0 (L2.upd H L o) := fun b u e nb => by
  rw [upd_ne (ne_of_none e hL)]
  exact B b u e nb
end
def lcN (ft : NT) (fe : NE) (env : List (Option E)) (j : Nat) : List E → (List E → Prop) → Prop
  | [], Φ => Φ []
  | x :: l, Φ => ft (env.set j (some x)) fun b => if b = true then fe (env.set j (some x)) fun d => lcN ft fe env j l fun r => Φ (d :: r) else lcN ft fe env j l Φ
section
variable {K : PySem.W.Frag} {i j q1 q2 q M : Nat} {ta te : TE} {fa : FE} {tt : TT} {ft : NT} {fe : NE}
theorem nd_lcL (ji : j ≠ i) (hM : M ≤ 900) (ha : PuE ta fa) (ht : NdT i q1 tt ft) (hE : NdE i q2 te fe) : NdE i (M * (q1 + q2)) (tLc (iList K ta) (gName j) tt te [j]) (fun env Φ => ∃ l, fa env = some (.lst l) ∧ l.length ≤ M ∧ lcN ft fe env j l fun r => Φ (.lst r)) := by
  intro w n P σ H env Q Φ nd ⟨l, e1, hM', hf⟩ k
  refine ha P σ H env _ _ nd.en nd.fr e1 fun v H1 m1 r1 => ?_
  have nd1 := nd.next (But.of m1) (nd.wl.same m1)
  cases r1 with
  | @lst a xs _ h hl hz hs =>
  obtain ⟨pa, hx⟩ := keep_some h
  refine ⟨a, rfl, ⟨xs, SqL.of hx⟩, fun D hD => ?_⟩
  have nDw : D ≠ w := fun z => by
    obtain ⟨o, ho⟩ := nd1.wl.there
    rw [z, ho] at hD
    cases hD
  have naw : a ≠ w := fun z => nd.nw (z ▸ pa)
  refine lc_it (walk_list (K := K) (a := a) (xs := xs)) (fun k' H' => But w H1 H' ∧ Wl H' w (n + (l.length - k') * (q1 + q2)) ∧ ∃ acc ds', H' D = some (.lst acc) ∧ RpL (keepH (fun b => P b ∧ b ≠ D) H') acc ds' ∧ ds'.length ≤ k' ∧ lcN ft fe env j (l.drop k') fun r => Φ (.lst (ds' ++ r)))
    ⟨But.new hD, ?_, [], [], upd_same, .nil, Nat.le_refl _, by rw [List.drop_zero]; exact hf⟩ (fun k' H' _ q => SqL.of (q.1 _ _ hx naw)) ?_ ?_
  · refine (nd1.wl.upd nDw).le ?_
    rw [Nat.sub_zero]
    exact Nat.add_le_add_left (Nat.mul_le_mul_right _ hM') n
  · rintro k' x H2 H3 hk ⟨B2, W2, acc, ds', hDa, hR, hdl, hL⟩ hy
    obtain ⟨rfl, hx'⟩ := hy
    have hkl : k' < l.length := hl ▸ hk
    have hlk : l[k']? = some l[k'] := List.getElem?_eq_getElem hkl
    have rx := hs k' x _ hx' hlk
    have hB : ∀ b o, keepH P H1 b = some o → keepH (fun b => P b ∧ b ≠ D) H3 b = some o := fun b o e => by
      obtain ⟨p, e'⟩ := keep_some e
      rw [keep_at ⟨p, ne_of_none e' hD⟩]
      exact B2 _ _ e' fun z => nd.nw (z ▸ p)
    have en : En (keepH (fun b => P b ∧ b ≠ D) H3) ((wipe σ [j]).set j (some x)) (env.set j (some l[k'])) := by
      have q := ((nd1.en.mono hB).wipe [j]).set (i := j) (rx.mono hB)
      have z : ([j].foldr (fun v e => e.set v none) env).set j (some l[k']) = env.set j (some l[k']) := by
        show (env.set j none).set j (some l[k']) = _
        rw [List.set_set]
      rw [z] at q
      exact q
    have fr : Fr (fun b => P b ∧ b ≠ D) H3 := fun b hb => by
      have nb : b ≠ D := fun z => by rw [z, hDa] at hb; cases hb
      refine ⟨?_, nb⟩
      refine nd1.fr b ?_
      cases hq : H1 b with
      | none => rfl
      | some o =>
        have nbw : b ≠ w := fun z => by
          obtain ⟨o', ho⟩ := W2.there
          rw [z, ho] at hb
          cases hb
        rw [B2 _ _ hq nbw] at hb
        cases hb
    have hmul : (l.length - k') * (q1 + q2) = (l.length - (k' + 1)) * (q1 + q2) + (q1 + q2) := by
      rw [show l.length - k' = (l.length - (k' + 1)) + 1 by omega, Nat.succ_mul]
    have nd3 : Nd w i (n + (l.length - (k' + 1)) * (q1 + q2) + q2 + q1) (fun b => P b ∧ b ≠ D) ((wipe σ [j]).set j (some x)) H3 (env.set j (some l[k'])) := by
      refine ⟨en, fr, fun z => nd.nw z.1, W2.le (by omega), ?_⟩
      show (((σ.set j none).set j (some x)))[i]? = _
      rw [List.getElem?_set_ne ji, List.getElem?_set_ne ji]
      exact nd.at_
    rw [List.drop_eq_getElem_cons hkl] at hL
    refine ⟨?_, ht w _ _ _ H3 _ _ _ nd3 hL fun b H4 B4 W4 h4 => ?_⟩
    · show ((σ.set j none).set j (some x)).set j none = σ.set j none
      rw [List.set_set, List.set_set]
    · have hD4 : H4 D = some (.lst acc) := B4 _ _ hDa nDw
      cases b with
      | true =>
        refine iteT (hE w _ _ _ H4 _ _ _ (nd3.next B4 W4) h4 fun y d H5 B5 W5 r5 h5 => ⟨acc, B5 _ _ hD4 nDw, ?_, ?_, W5.upd nDw, acc ++ [y], ds' ++ [d], upd_same, ?_, ?_, ?_⟩)
        · rw [hR.length, sizeLine_eq]
          omega
        · intro b o e nb
          rw [upd_ne (ne_of_none e hD)]
          exact B5 _ _ (B4 _ _ (B2 _ _ e nb) nb) nb
        · exact (((hR.but (fun z => nd.nw z.1) B4).but (fun z => nd.nw z.1) B5).snoc r5).mono keep_updD
        · rw [List.length_append]
          simp
          omega
        · have e : (fun r => Φ (.lst (ds' ++ [d] ++ r))) = fun r => Φ (.lst (ds' ++ d :: r)) := by
            funext r
            rw [List.append_assoc]
            rfl
          rw [e]
          exact h5
      | false => exact iteF ⟨B2.trans B4, W4.le (by omega), acc, ds', hD4, hR.but (fun z => nd.nw z.1) B4, by omega, h4⟩
  · rintro H' ⟨B2, W2, acc, ds', hDa, hR, hdl, hL⟩
    rw [hl, List.drop_length] at hL
    have hL' : Φ (.lst (ds' ++ [])) := hL
    rw [List.append_nil] at hL'
    have pD : P D := nd1.fr D hD
    refine k (.ref D) (.lst ds') H' ((But.of m1).trans B2) (W2.le (by omega)) ?_ hL'
    have r2 : RpL (keepH P H') acc ds' := hR.mono fun b o e => by
      obtain ⟨p, e'⟩ := keep_some e
      rw [keep_at p.1]
      exact e'
    exact .lst (by rw [keep_at pD]; exact hDa) r2.length (by omega) r2.get
end
end K05

namespace K05
open PySem L2 XR VT ET
abbrev sLKind : Stmt := top 29
/-! steps -/
section
variable {w L : Addr} {i j q m : Nat} {Pr : Addr → Prop} {σ : L2.St} {H : Hp} {env : List (Option E)} {ds : List E} {te : TE} {tl : TA} {f : NE} {fl : NA} {D : Ends} {rest tb : TS} {Φ : E → Prop} {Ψ : List E → Prop} {K : PySem.W.Frag}
theorem st_set (hE : NdE i q te f) (nd : Nd w i m Pr σ H env) (hm : q ≤ m) (hf : f env Φ) (ji : j ≠ i) (k : ∀ v d H1, But w H H1 → Nd w i (m - q) Pr (σ.set j (some v)) H1 (env.set j (some d)) → Φ d → rest D (σ.set j (some v)) H1) : tSeq (tAsg te (gName j)) rest D σ H :=
  nd_go hE nd hm hf fun v d H1 B W r hd => k v d H1 B ((nd.next B W).set ji r) hd
theorem st_setO {l : Nat} {D0 : List E} (hE : NdE i q te f) (nO : NdO w L i l m Pr σ H env D0) (hm : q ≤ m) (hf : f env Φ) (ji : j ≠ i) (jl : j ≠ l) (k : ∀ v d H1, But w H H1 → NdO w L i l (m - q) Pr (σ.set j (some v)) H1 (env.set j (some d)) D0 → Φ d → rest D (σ.set j (some v)) H1) : tSeq (tAsg te (gName j)) rest D σ H :=
  nd_go hE nO.nd hm hf fun v d H1 B W r hd => k v d H1 B ((nO.next B W).set ji jl r) hd
theorem st_own (hA : NdA i q tl fl) (nd : Nd w i m Pr σ H env) (hm : q ≤ m) (hf : fl env Ψ) (ji : j ≠ i) (hj : j < env.length) (hl : ∀ ds, Ψ ds → ds.length ≤ 800) (k : ∀ L ds H1, H L = none → But w H H1 → NdO w L i j (m - q) (fun b => Pr b ∧ b ≠ L) (σ.set j (some (.ref L))) H1 (env.set j none) ds → Ψ ds → rest D (σ.set j (some (.ref L))) H1) : tSeq (tAsg (tLst tl) (gName j)) rest D σ H :=
  nd_goA hA nd hm hf fun vs ds H1 B W r hd => by
    have hz := hl ds hd
    refine ⟨by rw [r.length, sizeLine_eq]; omega, fun p hp => ?_⟩
    have nd1 := nd.next B W
    have hp0 : H p = none := by
      cases hq : H p with
      | none => rfl
      | some o =>
        have nb : p ≠ w := fun z => by
          obtain ⟨o', ho⟩ := W.there
          rw [z, ho] at hp
          cases hp
        rw [B _ _ hq nb] at hp
        cases hp
    exact k p ds _ hp0 (B.trans (But.new hp)) (nd1.own ji hj hp r) hd
theorem st_add (hE : NdE i q te f) (nO : NdO w L i j m Pr σ H env ds) (hm : q ≤ m) (hf : f env Φ) (hl : ds.length ≤ 800) (k : ∀ d H2, (∀ H0, But w H0 H → H0 L = none → But w H0 H2) → NdO w L i j (m - q) Pr σ H2 env (ds ++ [d]) → Φ d → D.nx σ H2) : tDrop (tBM K "list" rAppend (tVar j) (tCons te tNil)) D σ H := by
  obtain ⟨vs0, h1, h2⟩ := nO.vs
  refine ⟨.ref L, nO.at_, .inl ⟨rfl, _, SqL.of h1⟩, ?_⟩
  refine nd_go hE nO.nd hm hf fun v d H1 B W r hd => ?_
  have nO1 := nO.next B W
  obtain ⟨vs, g1, g2⟩ := nO1.vs
  refine ⟨L, vs, v, rfl, rfl, g1, by rw [g2.length, sizeLine_eq]; omega, ?_⟩
  exact k d _ (fun H0 B0 h0 => NdO.fresh (B0.trans B) h0) (nO1.put (g2.snoc r)) hd
theorem st_range (hA : NdA i q tl fl) (nd : Nd w i m Pr σ H env) (hm : q ≤ m) (hf : fl env Ψ) (hΦ : ∀ ds, Ψ ds → ∃ c : Int, ds = [.int c] ∧ 0 ≤ c ∧ c ≤ 1000) (k : ∀ (c : Int) H1, But w H H1 → Wl H1 w (m - q) → Ψ [.int c] → ∃ Pv : Nat → L2.St → Hp → Prop, Pv 0 σ H1 ∧ (∀ (a : Nat) σ H, a < c.toNat → Pv a σ H → tb { D with nx := Pv (a + 1), ct := Pv (a + 1), bk := rest D } (σ.set j (some (.int (0 + a)))) H) ∧ ∀ σ H, Pv c.toNat σ H → rest D σ H) : tSeq (tFor (iRng1 tl) (gName j) tb) rest D σ H :=
  nd_goA hA nd hm hf fun vs ds H1 B W r hd => by
    obtain ⟨c, rfl, c0, c1⟩ := hΦ ds hd
    cases r with
    | @cons v _ _ _ r t =>
    cases t
    cases r
    obtain ⟨Pv, k1, k2, k3⟩ := k c H1 B W hd
    exact ⟨c, rfl, by omega, by omega, for_range (lo := 0) (n := c.toNat) Pv k1 k2 k3⟩
end
theorem ixL_nat {l : List E} {a : Nat} {d : E} (h : l[a]? = some d) : ixL (.lst l) (.int (0 + (a : Int))) = some d := by
  show atI l (0 + (a : Int)) = some d
  rw [Int.zero_add]
  exact atI_nat h
theorem plnE_ft {r : E} (h : ∃ a b c d, r = .tup [a, b, c, d]) : (((some r).bind fun d => (some (E.int 3)).bind fun e => ixT d e).bind fun d => (some E.non).bind fun e => isNo d e).bind toB = some (plnE r) := by
  obtain ⟨a, b, c, d, rfl⟩ := h
  cases d <;> rfl
theorem lcN_sub {ft : NT} {fe : NE} {env : List (Option E)} {j : Nat} : ∀ {names : List Str} {rows : List E} {Φ : List E → Prop}, rows.map frst = names.map E.str → (∀ x ∈ rows, ∀ φ : Bool → Prop, (∀ b, φ b) → ft (env.set j (some x)) φ) → (∀ x ∈ rows, ∀ φ : E → Prop, φ (frst x) → fe (env.set j (some x)) φ) →
    (∀ hs : List Str, hs.Sublist names → Φ (hs.map E.str)) → lcN ft fe env j rows Φ
  | [], [], Φ, _, _, _, h => h [] (List.Sublist.refl _)
  | x :: names, r :: rows, Φ, e, h1, h2, h => by
    obtain ⟨e1, e2⟩ := List.cons.inj e
    refine h1 r List.mem_cons_self _ fun b => ?_
    cases b with
    | true =>
      refine iteT (h2 r List.mem_cons_self _ ?_)
      rw [e1]
      exact lcN_sub e2 (fun x hx => h1 x (List.mem_cons_of_mem _ hx)) (fun x hx => h2 x (List.mem_cons_of_mem _ hx)) fun hs hsub => h (x :: hs) (hsub.cons₂ x)
    | false => exact iteF (lcN_sub e2 (fun x hx => h1 x (List.mem_cons_of_mem _ hx)) (fun x hx => h2 x (List.mem_cons_of_mem _ hx)) fun hs hsub => h hs (hsub.cons x))
theorem ixL0 (a : E) (r : List E) : ixL (.lst (a :: r)) (.int 0) = some a := by simp [ixL, atI, ixN]
theorem tup_ok {l : List E} (h : l.length ≤ 900) : tupE [.lst l] = some (.tup l) := by
  show (if _ then _ else _) = _
  rw [if_pos h]
section
variable {P : Program} {w : World} {K : PySem.W.Frag} {mg : Str → Option Value} {base : Heap}
variable {CS : List Addr}
theorem scLK : FnScope ["_law_well_here", "_law_name", "_law_given", "_law_k", "_law_sort", "_law_made", "_law_plain", "_law_row", "_law_alone", "_law_held"] ["_law_well_here", "_law_name"] (defScope sLKind) := ⟨rfl, rfl, rfl, by decide +kernel, rfl, by decide +kernel, by decide +kernel⟩
def kindN : List E → (E → Prop) → Prop
  | [.str x], Φ => x ∈ knames ∧ ∀ names mx rows ms n g m s h, KindR names mx rows ms n g m s h → n = .str x → Φ (.lst [n, g, m, s, h])
  | _, _ => False
theorem ok_lkind {f fOn fDr fTa : Addr} {fd dOn dDr dTa : FuncData} (F : Fun K "_law_kind" "_law_kind" sLKind f fd) (T : Txt mg) (hC : ∀ C ∈ CS, CF K C) (mR : mg "range" = none)
    (GDr : FnOk P w K mg base CX0 1 fDr dDr ["_law_well_here", "_law_below"] (spN 1 drawN)) (gDr : mg "_law_draw" = some (.ref fDr)) (kDr : PySem.W.keepIn K (.ref fDr) = true) (bDr : Binds K dDr ["_law_well_here", "_law_below"] [])
    (GTa : FnOk P w K mg base CX0 3 fTa dTa ["_law_well_here"] (spN 10 tabN)) (gTa : mg "_law_table" = some (.ref fTa)) (kTa : PySem.W.keepIn K (.ref fTa) = true) (bTa : Binds K dTa ["_law_well_here"] [])
    (GOn : FnOk P w K mg base CX0 2 fOn dOn ["_law_well_here", "_law_some"] (spN 1 oneN)) (gOn : mg "_law_one" = some (.ref fOn)) (kOn : PySem.W.keepIn K (.ref fOn) = true) (bOn : Binds K dOn ["_law_well_here", "_law_some"] []) : FnOk P w K mg base CX0 4 f fd ["_law_well_here", "_law_name"] (spN 500 kindN) := by
  refine F.ok scLK (fun vs H Q E0 h => spN_len (m := 1) (fun ds Φ h => by unfold kindN at h; split at h; rfl; cases h) h) (fun cdv A outer s H vs Q E0 hr h => ?_)
  have hr3 : Room 3 _ := hr
  have hr2 : Room 2 _ := hr.mono (by decide)
  have hr1 : Room 1 _ := hr.mono (by decide)
  refine ⟨_, (pss_cons (ps_set (i := 2) scLK.nd rfl (Or.inl rfl) (pe_lst pa_nil))
      (pss_cons (ps_for PassesOwn.never rfl (pi_range1 (by rfl) mR (pa_cons (pe_op op_add pe_int (pe_call GDr hr1 rfl gDr kDr bDr .nil pass0 (pa_cons (pv 0) (pa_cons pe_int pa_nil)))) pa_nil)) (pg_name (i := 3) scLK.nd rfl (Or.inl rfl))
        (pss_cons (ps_set (i := 4) scLK.nd rfl (Or.inl rfl) (pe_call GOn hr2 rfl gOn kOn bOn .nil pass0 (pa_cons (pv 0) (pa_cons (pe_lst (pa_cons pe_str (pa_cons pe_str (pa_cons pe_str pa_nil)))) pa_nil))))
        (pss_one (ps_expr (pe_bm PySem.F.plainAttrs_list PySem.F.slot_list_append PySem.F.type_list_append mt_append (pv 2) (pa_cons (pe_tup (pa_cons (pe_ix (ix_lstK (K := K) rfl) (pe_lst (pa_cons pe_str (pa_cons pe_str (pa_cons pe_str (pa_cons pe_str pa_nil))))) (pv 3) (fun _ _ => rfl)) (pa_cons (pv 4) (pa_cons (pe_cmpR op_eq (pe_call GDr hr1 rfl gDr kDr bDr .nil pass0 (pa_cons (pv 0) (pa_cons pe_int pa_nil))) pe_int (nomark _)) (pa_cons (pe_call GTa hr3 rfl gTa kTa bTa .nil pass0 (pa_cons (pv 0) pa_nil)) pa_nil))))) pa_nil))))))
      (pss_cons (ps_set (i := 5) scLK.nd rfl (Or.inl rfl) (pe_lst (pa_cons (pe_tup (pa_cons pe_str (pa_cons (pe_tup (pa_cons pe_str pa_nil)) pa_nil))) pa_nil)))
      (pss_cons (ps_setLc (i := 6) (own := [("_law_row", 7)]) (g := gName 7) rfl scLK.nd rfl rfl (sw_true rfl rfl rfl (by decide +kernel)) (pi_lstK (K := K) rfl (pv 2)) (blkOk_by (own := [("_law_row", 7)]) (N := ["_law_well_here", "_law_name", "_law_given", "_law_k", "_law_sort", "_law_made", "_law_plain", "_law_row", "_law_alone", "_law_held"]) (sc := (defScope sLKind)) (by decide +kernel)) (fun _ _ _ _ _ => pg_name (i := 7) scLK.nd rfl (Or.inl rfl)) (fun _ _ _ _ _ => pts_one (pt_cmpR op_isNo (pe_ix (ix_tupK (K := K) rfl) (pv 7) pe_int (fun _ _ => rfl)) pe_non (nomark _))) (fun _ _ _ _ _ => (pe_tup (pa_cons pe_str (pa_cons (pe_ix (ix_tupK (K := K) rfl) (pv 7) pe_int (fun _ _ => rfl)) (pa_cons pe_str (pa_cons pe_str pa_nil)))))))
      (pss_cons (ps_for PassesOwn.never rfl (pi_range1 (by rfl) mR (pa_cons (pe_call GDr hr1 rfl gDr kDr bDr .nil pass0 (pa_cons (pv 0) (pa_cons pe_int pa_nil))) pa_nil)) (pg_name (i := 3) scLK.nd rfl (Or.inl rfl))
        (pss_one (ps_expr (pe_bm PySem.F.plainAttrs_list PySem.F.slot_list_append PySem.F.type_list_append mt_append (pv 5) (pa_cons (pe_tup (pa_cons (pe_ix (ix_lstK (K := K) rfl) (pe_lst (pa_cons pe_str (pa_cons pe_str (pa_cons pe_str pa_nil)))) (pv 3) (fun _ _ => rfl)) (pa_cons (pe_call GOn hr2 rfl gOn kOn bOn .nil pass0 (pa_cons (pv 0) (pa_cons (pe_op op_cat (pe_lst (pa_cons (pe_tup (pa_cons pe_str pa_nil)) pa_nil)) (pv 6)) pa_nil))) pa_nil))) pa_nil)))))
      (pss_cons (ps_set (i := 8) scLK.nd rfl (Or.inl rfl) (pe_call GOn hr2 rfl gOn kOn bOn .nil pass0 (pa_cons (pv 0) (pa_cons (pe_lst (pa_cons pe_non (pa_cons (pe_ix (ix_tupK (K := K) rfl) (pe_ix (ix_lstK (K := K) rfl) (pv 2) pe_int (fun _ _ => rfl)) pe_int (fun _ _ => rfl)) pa_nil))) pa_nil))))
      (pss_cons (ps_set (i := 9) scLK.nd rfl (Or.inl rfl) (pe_callTy (call_tupK (K := K) rfl) (by rfl) T.tuple (by decide +kernel) (pa_cons (pe_lc (own := [("_law_row", 7)]) (g := gName 7) rfl scLK.nd (pi_lstK (K := K) rfl (pv 2)) (blkOk_by (own := [("_law_row", 7)]) (N := ["_law_well_here", "_law_name", "_law_given", "_law_k", "_law_sort", "_law_made", "_law_plain", "_law_row", "_law_alone", "_law_held"]) (sc := (defScope sLKind)) (by decide +kernel)) (fun _ _ _ _ _ => pg_name (i := 7) scLK.nd rfl (Or.inl rfl)) (fun _ _ _ _ _ => pts_one (pt_cmpR op_eq (pe_call GDr hr1 rfl gDr kDr bDr .nil pass0 (pa_cons (pv 0) (pa_cons pe_int pa_nil))) pe_int (nomark _))) (fun _ _ _ _ _ => (pe_ix (ix_tupK (K := K) rfl) (pv 7) pe_int (fun _ _ => rfl)))) pa_nil)))
      (pss_one (ps_ret (pe_lst (pa_cons (pv 1) (pa_cons (pe_callTy (call_tupK (K := K) rfl) (by rfl) T.tuple (by decide +kernel) (pa_cons (pv 2) pa_nil)) (pa_cons (pe_callTy (call_tupK (K := K) rfl) (by rfl) T.tuple (by decide +kernel) (pa_cons (pv 5) pa_nil)) (pa_cons (pv 8) (pa_cons (pv 9) pa_nil))))))))))))))), ?_⟩
  obtain ⟨n, Pr, w', us, ds, Φ, rfl, r, fr, nw, W, hf, k⟩ := h
  unfold kindN at hf
  split at hf
  case h_2 => cases hf
  rename_i x0
  obtain ⟨hx0, hΦ⟩ := hf
  have nd0 : Nd w' 0 (n + 500) Pr (L2.start ["_law_well_here", "_law_name", "_law_given", "_law_k", "_law_sort", "_law_made", "_law_plain", "_law_row", "_law_alone", "_law_held"] (.ref w' :: us)) H [none, some (.str x0), none, none, none, none, none, none, none, none] := ⟨en_startN r, fr, nw, W, rfl⟩
  generalize L2.start ["_law_well_here", "_law_name", "_law_given", "_law_k", "_law_sort", "_law_made", "_law_plain", "_law_row", "_law_alone", "_law_held"] (.ref w' :: us) = σ0 at nd0 ⊢
  refine st_own nd_nil nd0 (Nat.zero_le _) (Ψ := fun l => l = []) rfl (by decide) (by show 2 < 10; decide) (fun ds h => by rw [h]; decide) fun L1 ds1 H1 hL1 B1 o1 e1 => ?_
  subst e1
  generalize σ0.set 2 (some (V.ref L1)) = σ1 at o1 ⊢
  have o1 : NdO w' L1 0 2 (n + 500) (fun b => Pr b ∧ b ≠ L1) σ1 H1 [none, some (.str x0), none, none, none, none, none, none, none, none] [] := o1
  apply st_range (nd := o1.nd) (Ψ := fun l => ∃ c : Int, l = [.int c] ∧ 1 ≤ c ∧ c ≤ 4)
  case hA => (repeat' first
    | with_reducible exact nd_next | with_reducible exact nd_nil
    | with_reducible apply nd_ret | with_reducible apply nd_seq | with_reducible apply nd_ifS | (with_reducible apply nd_asg (ij := by decide))
    | ((with_reducible apply nd_pu); ((repeat' first
    | with_reducible exact pu_var _ | with_reducible exact pu_non | with_reducible exact pu_bl _ | with_reducible exact pu_int _ | with_reducible exact pu_nil | with_reducible exact pu_next | with_reducible exact pu_yes
    | with_reducible apply pu_seq | with_reducible apply pu_ifS | with_reducible apply pu_ret | with_reducible apply pu_asg
    | with_reducible apply pu_and | with_reducible apply pu_or | with_reducible apply pu_not | with_reducible apply pu_test | with_reducible apply pu_b
    | with_reducible apply pu_andV | with_reducible apply pu_orV | with_reducible apply pu_notV | with_reducible apply pu_if
    | with_reducible apply pu_isi hC | with_reducible apply pu_cb (hr := pu_len) | with_reducible apply pu_cb (hr := pu_all) | with_reducible apply pu_cb (hr := pu_any) | with_reducible apply pu_cb (hr := pu_tupOf) | with_reducible apply pu_cb (hr := pu_lstOf)
    | with_reducible exact pu_dnil
    | exact pu_d1 _ _ _ (rpS ⟨by decide +kernel, by decide +kernel⟩)
    | exact pu_d1 _ _ _ rpI
    | exact pu_d1i _ _ _ (rpS ⟨by decide +kernel, by decide +kernel⟩)
    | exact pu_d2 _ _ _ _ _ _ (by decide +kernel) (rpS ⟨by decide +kernel, by decide +kernel⟩) (rpS ⟨by decide +kernel, by decide +kernel⟩)
    | with_reducible apply pu_op (hr := pu_ixT) | with_reducible apply pu_op (hr := pu_ixL) | with_reducible apply pu_op (hr := pu_eqS) | with_reducible apply pu_op (hr := pu_neS) | with_reducible apply pu_op (hr := pu_in) | with_reducible apply pu_op (hr := pu_isNo) | with_reducible apply pu_op (hr := pu_notNo)
    | with_reducible apply pu_op (hr := pu_cm) | with_reducible apply pu_op (hr := pu_ar) | with_reducible apply pu_op (hr := pu_eqP) | with_reducible apply pu_op (hr := pu_neP) | with_reducible apply pu_op (hr := pu_catT) | with_reducible apply pu_op (hr := pu_catL)
    | with_reducible apply pu_chain pu_cm pu_cm | with_reducible apply pu_lcV | with_reducible apply pu_dcV | with_reducible apply pu_iTup | with_reducible apply pu_iLst
    | with_reducible apply pu_slT | with_reducible apply pu_slL | with_reducible exact pu_noPart | with_reducible exact pu_part _
    | exact pu_str _ ⟨by decide +kernel, by decide +kernel⟩ | with_reducible apply pu_call | with_reducible apply pu_tup | with_reducible apply pu_lst | with_reducible apply pu_cons | (with_reducible_and_instances rfl) | rfl)); done)
    | ((with_reducible apply nd_pt); ((repeat' first
    | with_reducible exact pu_var _ | with_reducible exact pu_non | with_reducible exact pu_bl _ | with_reducible exact pu_int _ | with_reducible exact pu_nil | with_reducible exact pu_next | with_reducible exact pu_yes
    | with_reducible apply pu_seq | with_reducible apply pu_ifS | with_reducible apply pu_ret | with_reducible apply pu_asg
    | with_reducible apply pu_and | with_reducible apply pu_or | with_reducible apply pu_not | with_reducible apply pu_test | with_reducible apply pu_b
    | with_reducible apply pu_andV | with_reducible apply pu_orV | with_reducible apply pu_notV | with_reducible apply pu_if
    | with_reducible apply pu_isi hC | with_reducible apply pu_cb (hr := pu_len) | with_reducible apply pu_cb (hr := pu_all) | with_reducible apply pu_cb (hr := pu_any) | with_reducible apply pu_cb (hr := pu_tupOf) | with_reducible apply pu_cb (hr := pu_lstOf)
    | with_reducible exact pu_dnil
    | exact pu_d1 _ _ _ (rpS ⟨by decide +kernel, by decide +kernel⟩)
    | exact pu_d1 _ _ _ rpI
    | exact pu_d1i _ _ _ (rpS ⟨by decide +kernel, by decide +kernel⟩)
    | exact pu_d2 _ _ _ _ _ _ (by decide +kernel) (rpS ⟨by decide +kernel, by decide +kernel⟩) (rpS ⟨by decide +kernel, by decide +kernel⟩)
    | with_reducible apply pu_op (hr := pu_ixT) | with_reducible apply pu_op (hr := pu_ixL) | with_reducible apply pu_op (hr := pu_eqS) | with_reducible apply pu_op (hr := pu_neS) | with_reducible apply pu_op (hr := pu_in) | with_reducible apply pu_op (hr := pu_isNo) | with_reducible apply pu_op (hr := pu_notNo)
    | with_reducible apply pu_op (hr := pu_cm) | with_reducible apply pu_op (hr := pu_ar) | with_reducible apply pu_op (hr := pu_eqP) | with_reducible apply pu_op (hr := pu_neP) | with_reducible apply pu_op (hr := pu_catT) | with_reducible apply pu_op (hr := pu_catL)
    | with_reducible apply pu_chain pu_cm pu_cm | with_reducible apply pu_lcV | with_reducible apply pu_dcV | with_reducible apply pu_iTup | with_reducible apply pu_iLst
    | with_reducible apply pu_slT | with_reducible apply pu_slL | with_reducible exact pu_noPart | with_reducible exact pu_part _
    | exact pu_str _ ⟨by decide +kernel, by decide +kernel⟩ | with_reducible apply pu_call | with_reducible apply pu_tup | with_reducible apply pu_lst | with_reducible apply pu_cons | (with_reducible_and_instances rfl) | rfl)); done)
    | with_reducible apply nd_if | with_reducible apply nd_test | with_reducible apply nd_call | with_reducible apply nd_cons
    | with_reducible apply nd_op (hr := pu_ar) | with_reducible apply nd_op (hr := pu_cm) | with_reducible apply nd_op (hr := pu_eqS) | with_reducible apply nd_tup | with_reducible apply nd_lst)
  case hm => exact Nat.le_trans (by decide : _ ≤ 10) (by omega)
  case hf => exact ⟨_, rfl, _, rfl, by decide, by decide, fun d d0 d1 => ⟨_, rfl, _, rfl, by omega, by omega⟩⟩
  case hΦ => rintro ds ⟨c, rfl, c0, c1⟩; exact ⟨c, rfl, by omega, by omega⟩
  rintro c H2 B2 W2 ⟨c', ec, c1, c4⟩
  cases ec
  have o2 := o1.next B2 W2
  refine ⟨fun a σ H' => ∃ rows e3 e4, NdO w' L1 0 2 (n + 490 - 20 * a) (fun b => Pr b ∧ b ≠ L1) σ H' [none, some (.str x0), none, e3, e4, none, none, none, none, none] rows ∧ All2 rowR (n4.take a) rows ∧ But w' H H', ⟨[], none, none, o2.le (by omega), .nil, B1.trans B2⟩, ?_, ?_⟩
  · rintro a σ H3 ha ⟨rows, e3, e4, o3, hA, B3⟩
    have o4 := o3.set (k := 3) (by decide) (by decide) (Rp.int (H := keepH (fun b => Pr b ∧ b ≠ L1) H3) (0 + (a : Int)))
    apply st_setO (nO := o4) (Φ := fun d => ∃ s ∈ sorts, d = .str s)
    case hE => (repeat' first
    | with_reducible exact nd_next | with_reducible exact nd_nil
    | with_reducible apply nd_ret | with_reducible apply nd_seq | with_reducible apply nd_ifS | (with_reducible apply nd_asg (ij := by decide))
    | ((with_reducible apply nd_pu); ((repeat' first
    | with_reducible exact pu_var _ | with_reducible exact pu_non | with_reducible exact pu_bl _ | with_reducible exact pu_int _ | with_reducible exact pu_nil | with_reducible exact pu_next | with_reducible exact pu_yes
    | with_reducible apply pu_seq | with_reducible apply pu_ifS | with_reducible apply pu_ret | with_reducible apply pu_asg
    | with_reducible apply pu_and | with_reducible apply pu_or | with_reducible apply pu_not | with_reducible apply pu_test | with_reducible apply pu_b
    | with_reducible apply pu_andV | with_reducible apply pu_orV | with_reducible apply pu_notV | with_reducible apply pu_if
    | with_reducible apply pu_isi hC | with_reducible apply pu_cb (hr := pu_len) | with_reducible apply pu_cb (hr := pu_all) | with_reducible apply pu_cb (hr := pu_any) | with_reducible apply pu_cb (hr := pu_tupOf) | with_reducible apply pu_cb (hr := pu_lstOf)
    | with_reducible exact pu_dnil
    | exact pu_d1 _ _ _ (rpS ⟨by decide +kernel, by decide +kernel⟩)
    | exact pu_d1 _ _ _ rpI
    | exact pu_d1i _ _ _ (rpS ⟨by decide +kernel, by decide +kernel⟩)
    | exact pu_d2 _ _ _ _ _ _ (by decide +kernel) (rpS ⟨by decide +kernel, by decide +kernel⟩) (rpS ⟨by decide +kernel, by decide +kernel⟩)
    | with_reducible apply pu_op (hr := pu_ixT) | with_reducible apply pu_op (hr := pu_ixL) | with_reducible apply pu_op (hr := pu_eqS) | with_reducible apply pu_op (hr := pu_neS) | with_reducible apply pu_op (hr := pu_in) | with_reducible apply pu_op (hr := pu_isNo) | with_reducible apply pu_op (hr := pu_notNo)
    | with_reducible apply pu_op (hr := pu_cm) | with_reducible apply pu_op (hr := pu_ar) | with_reducible apply pu_op (hr := pu_eqP) | with_reducible apply pu_op (hr := pu_neP) | with_reducible apply pu_op (hr := pu_catT) | with_reducible apply pu_op (hr := pu_catL)
    | with_reducible apply pu_chain pu_cm pu_cm | with_reducible apply pu_lcV | with_reducible apply pu_dcV | with_reducible apply pu_iTup | with_reducible apply pu_iLst
    | with_reducible apply pu_slT | with_reducible apply pu_slL | with_reducible exact pu_noPart | with_reducible exact pu_part _
    | exact pu_str _ ⟨by decide +kernel, by decide +kernel⟩ | with_reducible apply pu_call | with_reducible apply pu_tup | with_reducible apply pu_lst | with_reducible apply pu_cons | (with_reducible_and_instances rfl) | rfl)); done)
    | ((with_reducible apply nd_pt); ((repeat' first
    | with_reducible exact pu_var _ | with_reducible exact pu_non | with_reducible exact pu_bl _ | with_reducible exact pu_int _ | with_reducible exact pu_nil | with_reducible exact pu_next | with_reducible exact pu_yes
    | with_reducible apply pu_seq | with_reducible apply pu_ifS | with_reducible apply pu_ret | with_reducible apply pu_asg
    | with_reducible apply pu_and | with_reducible apply pu_or | with_reducible apply pu_not | with_reducible apply pu_test | with_reducible apply pu_b
    | with_reducible apply pu_andV | with_reducible apply pu_orV | with_reducible apply pu_notV | with_reducible apply pu_if
    | with_reducible apply pu_isi hC | with_reducible apply pu_cb (hr := pu_len) | with_reducible apply pu_cb (hr := pu_all) | with_reducible apply pu_cb (hr := pu_any) | with_reducible apply pu_cb (hr := pu_tupOf) | with_reducible apply pu_cb (hr := pu_lstOf)
    | with_reducible exact pu_dnil
    | exact pu_d1 _ _ _ (rpS ⟨by decide +kernel, by decide +kernel⟩)
    | exact pu_d1 _ _ _ rpI
    | exact pu_d1i _ _ _ (rpS ⟨by decide +kernel, by decide +kernel⟩)
    | exact pu_d2 _ _ _ _ _ _ (by decide +kernel) (rpS ⟨by decide +kernel, by decide +kernel⟩) (rpS ⟨by decide +kernel, by decide +kernel⟩)
    | with_reducible apply pu_op (hr := pu_ixT) | with_reducible apply pu_op (hr := pu_ixL) | with_reducible apply pu_op (hr := pu_eqS) | with_reducible apply pu_op (hr := pu_neS) | with_reducible apply pu_op (hr := pu_in) | with_reducible apply pu_op (hr := pu_isNo) | with_reducible apply pu_op (hr := pu_notNo)
    | with_reducible apply pu_op (hr := pu_cm) | with_reducible apply pu_op (hr := pu_ar) | with_reducible apply pu_op (hr := pu_eqP) | with_reducible apply pu_op (hr := pu_neP) | with_reducible apply pu_op (hr := pu_catT) | with_reducible apply pu_op (hr := pu_catL)
    | with_reducible apply pu_chain pu_cm pu_cm | with_reducible apply pu_lcV | with_reducible apply pu_dcV | with_reducible apply pu_iTup | with_reducible apply pu_iLst
    | with_reducible apply pu_slT | with_reducible apply pu_slL | with_reducible exact pu_noPart | with_reducible exact pu_part _
    | exact pu_str _ ⟨by decide +kernel, by decide +kernel⟩ | with_reducible apply pu_call | with_reducible apply pu_tup | with_reducible apply pu_lst | with_reducible apply pu_cons | (with_reducible_and_instances rfl) | rfl)); done)
    | with_reducible apply nd_if | with_reducible apply nd_test | with_reducible apply nd_call | with_reducible apply nd_cons
    | with_reducible apply nd_op (hr := pu_ar) | with_reducible apply nd_op (hr := pu_cm) | with_reducible apply nd_op (hr := pu_eqS) | with_reducible apply nd_tup | with_reducible apply nd_lst)
    case hm => exact Nat.le_trans (by decide : _ ≤ 10) (by omega)
    case hf => exact ⟨_, rfl, (by decide : 0 < 3), fun d hd => let ⟨s, hs, e⟩ := List.mem_map.mp (show d ∈ sorts.map E.str from hd); ⟨s, hs, e.symm⟩⟩
    case ji => decide
    case jl => decide
    rintro v d H4 B4 o5 ⟨s, hs, rfl⟩
    have ha4 : a < n4.length := by show a < 4; omega
    have hx : n4[a]? = some n4[a] := List.getElem?_eq_getElem ha4
    generalize n4[a] = x at hx
    have hlen : rows.length ≤ 4 := by rw [← hA.len, List.length_take]; exact Nat.min_le_right _ _
    apply st_add (nO := o5) (Φ := fun r => rowR x r)
    case hE => (repeat' first
    | with_reducible exact nd_next | with_reducible exact nd_nil
    | with_reducible apply nd_ret | with_reducible apply nd_seq | with_reducible apply nd_ifS | (with_reducible apply nd_asg (ij := by decide))
    | ((with_reducible apply nd_pu); ((repeat' first
    | with_reducible exact pu_var _ | with_reducible exact pu_non | with_reducible exact pu_bl _ | with_reducible exact pu_int _ | with_reducible exact pu_nil | with_reducible exact pu_next | with_reducible exact pu_yes
    | with_reducible apply pu_seq | with_reducible apply pu_ifS | with_reducible apply pu_ret | with_reducible apply pu_asg
    | with_reducible apply pu_and | with_reducible apply pu_or | with_reducible apply pu_not | with_reducible apply pu_test | with_reducible apply pu_b
    | with_reducible apply pu_andV | with_reducible apply pu_orV | with_reducible apply pu_notV | with_reducible apply pu_if
    | with_reducible apply pu_isi hC | with_reducible apply pu_cb (hr := pu_len) | with_reducible apply pu_cb (hr := pu_all) | with_reducible apply pu_cb (hr := pu_any) | with_reducible apply pu_cb (hr := pu_tupOf) | with_reducible apply pu_cb (hr := pu_lstOf)
    | with_reducible exact pu_dnil
    | exact pu_d1 _ _ _ (rpS ⟨by decide +kernel, by decide +kernel⟩)
    | exact pu_d1 _ _ _ rpI
    | exact pu_d1i _ _ _ (rpS ⟨by decide +kernel, by decide +kernel⟩)
    | exact pu_d2 _ _ _ _ _ _ (by decide +kernel) (rpS ⟨by decide +kernel, by decide +kernel⟩) (rpS ⟨by decide +kernel, by decide +kernel⟩)
    | with_reducible apply pu_op (hr := pu_ixT) | with_reducible apply pu_op (hr := pu_ixL) | with_reducible apply pu_op (hr := pu_eqS) | with_reducible apply pu_op (hr := pu_neS) | with_reducible apply pu_op (hr := pu_in) | with_reducible apply pu_op (hr := pu_isNo) | with_reducible apply pu_op (hr := pu_notNo)
    | with_reducible apply pu_op (hr := pu_cm) | with_reducible apply pu_op (hr := pu_ar) | with_reducible apply pu_op (hr := pu_eqP) | with_reducible apply pu_op (hr := pu_neP) | with_reducible apply pu_op (hr := pu_catT) | with_reducible apply pu_op (hr := pu_catL)
    | with_reducible apply pu_chain pu_cm pu_cm | with_reducible apply pu_lcV | with_reducible apply pu_dcV | with_reducible apply pu_iTup | with_reducible apply pu_iLst
    | with_reducible apply pu_slT | with_reducible apply pu_slL | with_reducible exact pu_noPart | with_reducible exact pu_part _
    | exact pu_str _ ⟨by decide +kernel, by decide +kernel⟩ | with_reducible apply pu_call | with_reducible apply pu_tup | with_reducible apply pu_lst | with_reducible apply pu_cons | (with_reducible_and_instances rfl) | rfl)); done)
    | ((with_reducible apply nd_pt); ((repeat' first
    | with_reducible exact pu_var _ | with_reducible exact pu_non | with_reducible exact pu_bl _ | with_reducible exact pu_int _ | with_reducible exact pu_nil | with_reducible exact pu_next | with_reducible exact pu_yes
    | with_reducible apply pu_seq | with_reducible apply pu_ifS | with_reducible apply pu_ret | with_reducible apply pu_asg
    | with_reducible apply pu_and | with_reducible apply pu_or | with_reducible apply pu_not | with_reducible apply pu_test | with_reducible apply pu_b
    | with_reducible apply pu_andV | with_reducible apply pu_orV | with_reducible apply pu_notV | with_reducible apply pu_if
    | with_reducible apply pu_isi hC | with_reducible apply pu_cb (hr := pu_len) | with_reducible apply pu_cb (hr := pu_all) | with_reducible apply pu_cb (hr := pu_any) | with_reducible apply pu_cb (hr := pu_tupOf) | with_reducible apply pu_cb (hr := pu_lstOf)
    | with_reducible exact pu_dnil
    | exact pu_d1 _ _ _ (rpS ⟨by decide +kernel, by decide +kernel⟩)
    | exact pu_d1 _ _ _ rpI
    | exact pu_d1i _ _ _ (rpS ⟨by decide +kernel, by decide +kernel⟩)
    | exact pu_d2 _ _ _ _ _ _ (by decide +kernel) (rpS ⟨by decide +kernel, by decide +kernel⟩) (rpS ⟨by decide +kernel, by decide +kernel⟩)
    | with_reducible apply pu_op (hr := pu_ixT) | with_reducible apply pu_op (hr := pu_ixL) | with_reducible apply pu_op (hr := pu_eqS) | with_reducible apply pu_op (hr := pu_neS) | with_reducible apply pu_op (hr := pu_in) | with_reducible apply pu_op (hr := pu_isNo) | with_reducible apply pu_op (hr := pu_notNo)
    | with_reducible apply pu_op (hr := pu_cm) | with_reducible apply pu_op (hr := pu_ar) | with_reducible apply pu_op (hr := pu_eqP) | with_reducible apply pu_op (hr := pu_neP) | with_reducible apply pu_op (hr := pu_catT) | with_reducible apply pu_op (hr := pu_catL)
    | with_reducible apply pu_chain pu_cm pu_cm | with_reducible apply pu_lcV | with_reducible apply pu_dcV | with_reducible apply pu_iTup | with_reducible apply pu_iLst
    | with_reducible apply pu_slT | with_reducible apply pu_slL | with_reducible exact pu_noPart | with_reducible exact pu_part _
    | exact pu_str _ ⟨by decide +kernel, by decide +kernel⟩ | with_reducible apply pu_call | with_reducible apply pu_tup | with_reducible apply pu_lst | with_reducible apply pu_cons | (with_reducible_and_instances rfl) | rfl)); done)
    | with_reducible apply nd_if | with_reducible apply nd_test | with_reducible apply nd_call | with_reducible apply nd_cons
    | with_reducible apply nd_op (hr := pu_ar) | with_reducible apply nd_op (hr := pu_cm) | with_reducible apply nd_op (hr := pu_eqS) | with_reducible apply nd_tup | with_reducible apply nd_lst)
    case hm => exact Nat.le_trans (by decide : _ ≤ 20) (by omega)
    case hf => exact ⟨.str x, bnd _ rfl (bnd _ rfl (ixL_nat (l := n4.map E.str) (by rw [List.getElem?_map, hx]; rfl))), _, rfl, _, rfl, by decide, by decide, fun d d0 d1 => ⟨_, rfl, _, rfl, ⟨(by show 4 ≤ 900; decide), _, _, _, rfl, hs, .inl rfl⟩, fun t ht => ⟨(by show 4 ≤ 900; decide), _, _, _, rfl, hs, .inr ht⟩⟩⟩
    case hl => omega
    intro d H5 B5 o6 hd
    exact ⟨rows ++ [d], _, _, o6.le (by omega), by rw [tk_next hx]; exact hA.snoc hd, B5 H (B3.trans B4) hL1⟩
  rintro σ2 H3 ⟨rows, e3, e4, o3, hA, B3⟩
  have hlen : rows.length = c.toNat := by
    rw [← hA.len, List.length_take]
    show min c.toNat 4 = c.toNat
    omega
  have nd1 := o3.free (by omega) (fun b hb => (o3.nd.fr b hb).1) (fr L1 hL1) nw rfl
  have nd1 : Nd w' 0 (n + 400) Pr σ2 H3 [none, some (.str x0), some (.lst rows), e3, e4, none, none, none, none, none] := nd1.le (by omega)
  have gr : GvR (n4.take c.toNat) rows := by
    refine ⟨?_, hA⟩
    rcases (by omega : c.toNat = 1 ∨ c.toNat = 2 ∨ c.toNat = 3 ∨ c.toNat = 4) with e | e | e | e <;> rw [e] <;> decide +kernel
  clear nd0 o1 o2 o3 hA
  generalize hnm : n4.take c.toNat = names at gr
  have hlen4 : rows.length ≤ 4 := by omega
  clear hnm hlen
  have hrow : ∀ x ∈ rows, ∃ a b c d, x = .tup [a, b, c, d] := by
    have : ∀ {xs rs}, All2 rowR xs rs → ∀ r ∈ rs, ∃ a b c d, r = .tup [a, b, c, d] := by
      intro xs rs a
      induction a with
      | nil => intro r h; cases h
      | @cons x r0 xs rs h t ih =>
        intro r hr
        rcases List.mem_cons.mp hr with rfl | hr
        · obtain ⟨s, b, t, rfl, _⟩ := h
          exact ⟨_, _, _, _, rfl⟩
        · exact ih r hr
    exact this gr.a
  let g : E → E := fun r => .tup [.str "around", frst r, .str "<", .str ">"]
  -- made
  apply st_own (nd := nd1) (Ψ := fun l => l = [idT])
  case hA => (repeat' first
    | with_reducible exact nd_next | with_reducible exact nd_nil
    | with_reducible apply nd_ret | with_reducible apply nd_seq | with_reducible apply nd_ifS | (with_reducible apply nd_asg (ij := by decide))
    | ((with_reducible apply nd_pu); ((repeat' first
    | with_reducible exact pu_var _ | with_reducible exact pu_non | with_reducible exact pu_bl _ | with_reducible exact pu_int _ | with_reducible exact pu_nil | with_reducible exact pu_next | with_reducible exact pu_yes
    | with_reducible apply pu_seq | with_reducible apply pu_ifS | with_reducible apply pu_ret | with_reducible apply pu_asg
    | with_reducible apply pu_and | with_reducible apply pu_or | with_reducible apply pu_not | with_reducible apply pu_test | with_reducible apply pu_b
    | with_reducible apply pu_andV | with_reducible apply pu_orV | with_reducible apply pu_notV | with_reducible apply pu_if
    | with_reducible apply pu_isi hC | with_reducible apply pu_cb (hr := pu_len) | with_reducible apply pu_cb (hr := pu_all) | with_reducible apply pu_cb (hr := pu_any) | with_reducible apply pu_cb (hr := pu_tupOf) | with_reducible apply pu_cb (hr := pu_lstOf)
    | with_reducible exact pu_dnil
    | exact pu_d1 _ _ _ (rpS ⟨by decide +kernel, by decide +kernel⟩)
    | exact pu_d1 _ _ _ rpI
    | exact pu_d1i _ _ _ (rpS ⟨by decide +kernel, by decide +kernel⟩)
    | exact pu_d2 _ _ _ _ _ _ (by decide +kernel) (rpS ⟨by decide +kernel, by decide +kernel⟩) (rpS ⟨by decide +kernel, by decide +kernel⟩)
    | with_reducible apply pu_op (hr := pu_ixT) | with_reducible apply pu_op (hr := pu_ixL) | with_reducible apply pu_op (hr := pu_eqS) | with_reducible apply pu_op (hr := pu_neS) | with_reducible apply pu_op (hr := pu_in) | with_reducible apply pu_op (hr := pu_isNo) | with_reducible apply pu_op (hr := pu_notNo)
    | with_reducible apply pu_op (hr := pu_cm) | with_reducible apply pu_op (hr := pu_ar) | with_reducible apply pu_op (hr := pu_eqP) | with_reducible apply pu_op (hr := pu_neP) | with_reducible apply pu_op (hr := pu_catT) | with_reducible apply pu_op (hr := pu_catL)
    | with_reducible apply pu_chain pu_cm pu_cm | with_reducible apply pu_lcV | with_reducible apply pu_dcV | with_reducible apply pu_iTup | with_reducible apply pu_iLst
    | with_reducible apply pu_slT | with_reducible apply pu_slL | with_reducible exact pu_noPart | with_reducible exact pu_part _
    | exact pu_str _ ⟨by decide +kernel, by decide +kernel⟩ | with_reducible apply pu_call | with_reducible apply pu_tup | with_reducible apply pu_lst | with_reducible apply pu_cons | (with_reducible_and_instances rfl) | rfl)); done)
    | ((with_reducible apply nd_pt); ((repeat' first
    | with_reducible exact pu_var _ | with_reducible exact pu_non | with_reducible exact pu_bl _ | with_reducible exact pu_int _ | with_reducible exact pu_nil | with_reducible exact pu_next | with_reducible exact pu_yes
    | with_reducible apply pu_seq | with_reducible apply pu_ifS | with_reducible apply pu_ret | with_reducible apply pu_asg
    | with_reducible apply pu_and | with_reducible apply pu_or | with_reducible apply pu_not | with_reducible apply pu_test | with_reducible apply pu_b
    | with_reducible apply pu_andV | with_reducible apply pu_orV | with_reducible apply pu_notV | with_reducible apply pu_if
    | with_reducible apply pu_isi hC | with_reducible apply pu_cb (hr := pu_len) | with_reducible apply pu_cb (hr := pu_all) | with_reducible apply pu_cb (hr := pu_any) | with_reducible apply pu_cb (hr := pu_tupOf) | with_reducible apply pu_cb (hr := pu_lstOf)
    | with_reducible exact pu_dnil
    | exact pu_d1 _ _ _ (rpS ⟨by decide +kernel, by decide +kernel⟩)
    | exact pu_d1 _ _ _ rpI
    | exact pu_d1i _ _ _ (rpS ⟨by decide +kernel, by decide +kernel⟩)
    | exact pu_d2 _ _ _ _ _ _ (by decide +kernel) (rpS ⟨by decide +kernel, by decide +kernel⟩) (rpS ⟨by decide +kernel, by decide +kernel⟩)
    | with_reducible apply pu_op (hr := pu_ixT) | with_reducible apply pu_op (hr := pu_ixL) | with_reducible apply pu_op (hr := pu_eqS) | with_reducible apply pu_op (hr := pu_neS) | with_reducible apply pu_op (hr := pu_in) | with_reducible apply pu_op (hr := pu_isNo) | with_reducible apply pu_op (hr := pu_notNo)
    | with_reducible apply pu_op (hr := pu_cm) | with_reducible apply pu_op (hr := pu_ar) | with_reducible apply pu_op (hr := pu_eqP) | with_reducible apply pu_op (hr := pu_neP) | with_reducible apply pu_op (hr := pu_catT) | with_reducible apply pu_op (hr := pu_catL)
    | with_reducible apply pu_chain pu_cm pu_cm | with_reducible apply pu_lcV | with_reducible apply pu_dcV | with_reducible apply pu_iTup | with_reducible apply pu_iLst
    | with_reducible apply pu_slT | with_reducible apply pu_slL | with_reducible exact pu_noPart | with_reducible exact pu_part _
    | exact pu_str _ ⟨by decide +kernel, by decide +kernel⟩ | with_reducible apply pu_call | with_reducible apply pu_tup | with_reducible apply pu_lst | with_reducible apply pu_cons | (with_reducible_and_instances rfl) | rfl)); done)
    | with_reducible apply nd_if | with_reducible apply nd_test | with_reducible apply nd_call | with_reducible apply nd_cons
    | with_reducible apply nd_op (hr := pu_ar) | with_reducible apply nd_op (hr := pu_cm) | with_reducible apply nd_op (hr := pu_eqS) | with_reducible apply nd_tup | with_reducible apply nd_lst)
  case hm => exact Nat.zero_le _
  case hf => exact ⟨_, rfl, rfl⟩
  case ji => decide
  case hj => show 5 < 10; decide
  case hl => rintro ds rfl; show 1 ≤ 800; decide
  rintro L2 ds2 H4 hL2 B4 o4 rfl
  generalize σ2.set 5 (some (V.ref L2)) = σ3 at o4 ⊢
  -- plain
  apply st_setO (nO := o4) (Φ := fun d => d = .lst ((rows.filter plnE).map g))
  case hE => (repeat' first
    | with_reducible exact nd_next | with_reducible exact nd_nil
    | with_reducible apply nd_ret | with_reducible apply nd_seq | with_reducible apply nd_ifS | (with_reducible apply nd_asg (ij := by decide))
    | ((with_reducible apply nd_pu); ((repeat' first
    | with_reducible exact pu_var _ | with_reducible exact pu_non | with_reducible exact pu_bl _ | with_reducible exact pu_int _ | with_reducible exact pu_nil | with_reducible exact pu_next | with_reducible exact pu_yes
    | with_reducible apply pu_seq | with_reducible apply pu_ifS | with_reducible apply pu_ret | with_reducible apply pu_asg
    | with_reducible apply pu_and | with_reducible apply pu_or | with_reducible apply pu_not | with_reducible apply pu_test | with_reducible apply pu_b
    | with_reducible apply pu_andV | with_reducible apply pu_orV | with_reducible apply pu_notV | with_reducible apply pu_if
    | with_reducible apply pu_isi hC | with_reducible apply pu_cb (hr := pu_len) | with_reducible apply pu_cb (hr := pu_all) | with_reducible apply pu_cb (hr := pu_any) | with_reducible apply pu_cb (hr := pu_tupOf) | with_reducible apply pu_cb (hr := pu_lstOf)
    | with_reducible exact pu_dnil
    | exact pu_d1 _ _ _ (rpS ⟨by decide +kernel, by decide +kernel⟩)
    | exact pu_d1 _ _ _ rpI
    | exact pu_d1i _ _ _ (rpS ⟨by decide +kernel, by decide +kernel⟩)
    | exact pu_d2 _ _ _ _ _ _ (by decide +kernel) (rpS ⟨by decide +kernel, by decide +kernel⟩) (rpS ⟨by decide +kernel, by decide +kernel⟩)
    | with_reducible apply pu_op (hr := pu_ixT) | with_reducible apply pu_op (hr := pu_ixL) | with_reducible apply pu_op (hr := pu_eqS) | with_reducible apply pu_op (hr := pu_neS) | with_reducible apply pu_op (hr := pu_in) | with_reducible apply pu_op (hr := pu_isNo) | with_reducible apply pu_op (hr := pu_notNo)
    | with_reducible apply pu_op (hr := pu_cm) | with_reducible apply pu_op (hr := pu_ar) | with_reducible apply pu_op (hr := pu_eqP) | with_reducible apply pu_op (hr := pu_neP) | with_reducible apply pu_op (hr := pu_catT) | with_reducible apply pu_op (hr := pu_catL)
    | with_reducible apply pu_chain pu_cm pu_cm | with_reducible apply pu_lcV | with_reducible apply pu_dcV | with_reducible apply pu_iTup | with_reducible apply pu_iLst
    | with_reducible apply pu_slT | with_reducible apply pu_slL | with_reducible exact pu_noPart | with_reducible exact pu_part _
    | exact pu_str _ ⟨by decide +kernel, by decide +kernel⟩ | with_reducible apply pu_call | with_reducible apply pu_tup | with_reducible apply pu_lst | with_reducible apply pu_cons | (with_reducible_and_instances rfl) | rfl)); done)
    | ((with_reducible apply nd_pt); ((repeat' first
    | with_reducible exact pu_var _ | with_reducible exact pu_non | with_reducible exact pu_bl _ | with_reducible exact pu_int _ | with_reducible exact pu_nil | with_reducible exact pu_next | with_reducible exact pu_yes
    | with_reducible apply pu_seq | with_reducible apply pu_ifS | with_reducible apply pu_ret | with_reducible apply pu_asg
    | with_reducible apply pu_and | with_reducible apply pu_or | with_reducible apply pu_not | with_reducible apply pu_test | with_reducible apply pu_b
    | with_reducible apply pu_andV | with_reducible apply pu_orV | with_reducible apply pu_notV | with_reducible apply pu_if
    | with_reducible apply pu_isi hC | with_reducible apply pu_cb (hr := pu_len) | with_reducible apply pu_cb (hr := pu_all) | with_reducible apply pu_cb (hr := pu_any) | with_reducible apply pu_cb (hr := pu_tupOf) | with_reducible apply pu_cb (hr := pu_lstOf)
    | with_reducible exact pu_dnil
    | exact pu_d1 _ _ _ (rpS ⟨by decide +kernel, by decide +kernel⟩)
    | exact pu_d1 _ _ _ rpI
    | exact pu_d1i _ _ _ (rpS ⟨by decide +kernel, by decide +kernel⟩)
    | exact pu_d2 _ _ _ _ _ _ (by decide +kernel) (rpS ⟨by decide +kernel, by decide +kernel⟩) (rpS ⟨by decide +kernel, by decide +kernel⟩)
    | with_reducible apply pu_op (hr := pu_ixT) | with_reducible apply pu_op (hr := pu_ixL) | with_reducible apply pu_op (hr := pu_eqS) | with_reducible apply pu_op (hr := pu_neS) | with_reducible apply pu_op (hr := pu_in) | with_reducible apply pu_op (hr := pu_isNo) | with_reducible apply pu_op (hr := pu_notNo)
    | with_reducible apply pu_op (hr := pu_cm) | with_reducible apply pu_op (hr := pu_ar) | with_reducible apply pu_op (hr := pu_eqP) | with_reducible apply pu_op (hr := pu_neP) | with_reducible apply pu_op (hr := pu_catT) | with_reducible apply pu_op (hr := pu_catL)
    | with_reducible apply pu_chain pu_cm pu_cm | with_reducible apply pu_lcV | with_reducible apply pu_dcV | with_reducible apply pu_iTup | with_reducible apply pu_iLst
    | with_reducible apply pu_slT | with_reducible apply pu_slL | with_reducible exact pu_noPart | with_reducible exact pu_part _
    | exact pu_str _ ⟨by decide +kernel, by decide +kernel⟩ | with_reducible apply pu_call | with_reducible apply pu_tup | with_reducible apply pu_lst | with_reducible apply pu_cons | (with_reducible_and_instances rfl) | rfl)); done)
    | with_reducible apply nd_if | with_reducible apply nd_test | with_reducible apply nd_call | with_reducible apply nd_cons
    | with_reducible apply nd_op (hr := pu_ar) | with_reducible apply nd_op (hr := pu_cm) | with_reducible apply nd_op (hr := pu_eqS) | with_reducible apply nd_tup | with_reducible apply nd_lst)
  case hm => exact Nat.zero_le _
  case hf =>
    refine ⟨_, bnd rows (bnd (.lst rows) rfl (by show (if rows.length ≤ 900 then some rows else none) = some rows; rw [if_pos (by omega)])) (mp _ (lcE_filter plnE g _ (fun x hx => plnE_ft (hrow x hx)) fun x hx _ => ?_)), rfl⟩
    obtain ⟨a, b, c, d, rfl⟩ := hrow x hx
    rfl
  case ji => decide
  case jl => decide
  rintro v5 d5 H5 B5 o5 rfl
  generalize σ3.set 6 (some v5) = σ4 at o5 ⊢
  have o5 : NdO w' L2 0 5 (n + 400) (fun b => Pr b ∧ b ≠ L2) σ4 H5 [none, some (.str x0), some (.lst rows), e3, e4, none, some (.lst ((rows.filter plnE).map g)), none, none, none] [idT] := o5.le (by omega)
  apply st_range (nd := o5.nd) (Ψ := fun l => ∃ c : Int, l = [.int c] ∧ 0 ≤ c ∧ c ≤ 3)
  case hA => (repeat' first
    | with_reducible exact nd_next | with_reducible exact nd_nil
    | with_reducible apply nd_ret | with_reducible apply nd_seq | with_reducible apply nd_ifS | (with_reducible apply nd_asg (ij := by decide))
    | ((with_reducible apply nd_pu); ((repeat' first
    | with_reducible exact pu_var _ | with_reducible exact pu_non | with_reducible exact pu_bl _ | with_reducible exact pu_int _ | with_reducible exact pu_nil | with_reducible exact pu_next | with_reducible exact pu_yes
    | with_reducible apply pu_seq | with_reducible apply pu_ifS | with_reducible apply pu_ret | with_reducible apply pu_asg
    | with_reducible apply pu_and | with_reducible apply pu_or | with_reducible apply pu_not | with_reducible apply pu_test | with_reducible apply pu_b
    | with_reducible apply pu_andV | with_reducible apply pu_orV | with_reducible apply pu_notV | with_reducible apply pu_if
    | with_reducible apply pu_isi hC | with_reducible apply pu_cb (hr := pu_len) | with_reducible apply pu_cb (hr := pu_all) | with_reducible apply pu_cb (hr := pu_any) | with_reducible apply pu_cb (hr := pu_tupOf) | with_reducible apply pu_cb (hr := pu_lstOf)
    | with_reducible exact pu_dnil
    | exact pu_d1 _ _ _ (rpS ⟨by decide +kernel, by decide +kernel⟩)
    | exact pu_d1 _ _ _ rpI
    | exact pu_d1i _ _ _ (rpS ⟨by decide +kernel, by decide +kernel⟩)
    | exact pu_d2 _ _ _ _ _ _ (by decide +kernel) (rpS ⟨by decide +kernel, by decide +kernel⟩) (rpS ⟨by decide +kernel, by decide +kernel⟩)
    | with_reducible apply pu_op (hr := pu_ixT) | with_reducible apply pu_op (hr := pu_ixL) | with_reducible apply pu_op (hr := pu_eqS) | with_reducible apply pu_op (hr := pu_neS) | with_reducible apply pu_op (hr := pu_in) | with_reducible apply pu_op (hr := pu_isNo) | with_reducible apply pu_op (hr := pu_notNo)
    | with_reducible apply pu_op (hr := pu_cm) | with_reducible apply pu_op (hr := pu_ar) | with_reducible apply pu_op (hr := pu_eqP) | with_reducible apply pu_op (hr := pu_neP) | with_reducible apply pu_op (hr := pu_catT) | with_reducible apply pu_op (hr := pu_catL)
    | with_reducible apply pu_chain pu_cm pu_cm | with_reducible apply pu_lcV | with_reducible apply pu_dcV | with_reducible apply pu_iTup | with_reducible apply pu_iLst
    | with_reducible apply pu_slT | with_reducible apply pu_slL | with_reducible exact pu_noPart | with_reducible exact pu_part _
    | exact pu_str _ ⟨by decide +kernel, by decide +kernel⟩ | with_reducible apply pu_call | with_reducible apply pu_tup | with_reducible apply pu_lst | with_reducible apply pu_cons | (with_reducible_and_instances rfl) | rfl)); done)
    | ((with_reducible apply nd_pt); ((repeat' first
    | with_reducible exact pu_var _ | with_reducible exact pu_non | with_reducible exact pu_bl _ | with_reducible exact pu_int _ | with_reducible exact pu_nil | with_reducible exact pu_next | with_reducible exact pu_yes
    | with_reducible apply pu_seq | with_reducible apply pu_ifS | with_reducible apply pu_ret | with_reducible apply pu_asg
    | with_reducible apply pu_and | with_reducible apply pu_or | with_reducible apply pu_not | with_reducible apply pu_test | with_reducible apply pu_b
    | with_reducible apply pu_andV | with_reducible apply pu_orV | with_reducible apply pu_notV | with_reducible apply pu_if
    | with_reducible apply pu_isi hC | with_reducible apply pu_cb (hr := pu_len) | with_reducible apply pu_cb (hr := pu_all) | with_reducible apply pu_cb (hr := pu_any) | with_reducible apply pu_cb (hr := pu_tupOf) | with_reducible apply pu_cb (hr := pu_lstOf)
    | with_reducible exact pu_dnil
    | exact pu_d1 _ _ _ (rpS ⟨by decide +kernel, by decide +kernel⟩)
    | exact pu_d1 _ _ _ rpI
    | exact pu_d1i _ _ _ (rpS ⟨by decide +kernel, by decide +kernel⟩)
    | exact pu_d2 _ _ _ _ _ _ (by decide +kernel) (rpS ⟨by decide +kernel, by decide +kernel⟩) (rpS ⟨by decide +kernel, by decide +kernel⟩)
    | with_reducible apply pu_op (hr := pu_ixT) | with_reducible apply pu_op (hr := pu_ixL) | with_reducible apply pu_op (hr := pu_eqS) | with_reducible apply pu_op (hr := pu_neS) | with_reducible apply pu_op (hr := pu_in) | with_reducible apply pu_op (hr := pu_isNo) | with_reducible apply pu_op (hr := pu_notNo)
    | with_reducible apply pu_op (hr := pu_cm) | with_reducible apply pu_op (hr := pu_ar) | with_reducible apply pu_op (hr := pu_eqP) | with_reducible apply pu_op (hr := pu_neP) | with_reducible apply pu_op (hr := pu_catT) | with_reducible apply pu_op (hr := pu_catL)
    | with_reducible apply pu_chain pu_cm pu_cm | with_reducible apply pu_lcV | with_reducible apply pu_dcV | with_reducible apply pu_iTup | with_reducible apply pu_iLst
    | with_reducible apply pu_slT | with_reducible apply pu_slL | with_reducible exact pu_noPart | with_reducible exact pu_part _
    | exact pu_str _ ⟨by decide +kernel, by decide +kernel⟩ | with_reducible apply pu_call | with_reducible apply pu_tup | with_reducible apply pu_lst | with_reducible apply pu_cons | (with_reducible_and_instances rfl) | rfl)); done)
    | with_reducible apply nd_if | with_reducible apply nd_test | with_reducible apply nd_call | with_reducible apply nd_cons
    | with_reducible apply nd_op (hr := pu_ar) | with_reducible apply nd_op (hr := pu_cm) | with_reducible apply nd_op (hr := pu_eqS) | with_reducible apply nd_tup | with_reducible apply nd_lst)
  case hm => exact Nat.le_trans (by decide : _ ≤ 10) (by omega)
  case hf => exact ⟨_, rfl, by decide, by decide, fun d d0 d1 => ⟨_, rfl, by omega, by omega⟩⟩
  case hΦ => rintro ds ⟨c, rfl, c0, c1⟩; exact ⟨c, rfl, by omega, by omega⟩
  rintro c2 H6 B6 W6 ⟨c', ec, c21, c24⟩
  cases ec
  have o6 := o5.next B6 W6
  have B36 := ((B3.trans B4).trans B5).trans B6
  have hL2' : H L2 = none := by
    cases hq : H L2 with
    | none => rfl
    | some o =>
      have nb : L2 ≠ w' := o5.ne
      rw [B3 _ _ hq nb] at hL2
      cases hL2
  let m3 : List Str := ["m", "n", "o"]
  refine ⟨fun a σ H' => ∃ ms e3, NdO w' L2 0 5 (n + 390 - 20 * a) (fun b => Pr b ∧ b ≠ L2) σ H' [none, some (.str x0), some (.lst rows), e3, e4, none, some (.lst ((rows.filter plnE).map g)), none, none, none] (idT :: ms) ∧ All2 (mrowR (plsE (.tup rows))) (m3.take a) ms ∧ But w' H H', ⟨[], e3, o6.le (by omega), .nil, B36⟩, ?_, ?_⟩
  · rintro a σ H7 ha ⟨ms, e3', o7, hA, B7⟩
    have o8 := o7.set (k := 3) (by decide) (by decide) (Rp.int (H := keepH (fun b => Pr b ∧ b ≠ L2) H7) (0 + (a : Int)))
    have ha3 : a < m3.length := by show a < 3; omega
    have hx : m3[a]? = some m3[a] := List.getElem?_eq_getElem ha3
    generalize m3[a] = x at hx
    have hlen : ms.length ≤ 3 := by rw [← hA.len, List.length_take]; exact Nat.min_le_right _ _
    have hpl : ((rows.filter plnE).map g).length ≤ 4 := by rw [List.length_map]; exact Nat.le_trans (List.length_filter_le _ _) hlen4
    apply st_add (nO := o8) (Φ := fun r => mrowR (plsE (.tup rows)) x r)
    case hE => (repeat' first
    | with_reducible exact nd_next | with_reducible exact nd_nil
    | with_reducible apply nd_ret | with_reducible apply nd_seq | with_reducible apply nd_ifS | (with_reducible apply nd_asg (ij := by decide))
    | ((with_reducible apply nd_pu); ((repeat' first
    | with_reducible exact pu_var _ | with_reducible exact pu_non | with_reducible exact pu_bl _ | with_reducible exact pu_int _ | with_reducible exact pu_nil | with_reducible exact pu_next | with_reducible exact pu_yes
    | with_reducible apply pu_seq | with_reducible apply pu_ifS | with_reducible apply pu_ret | with_reducible apply pu_asg
    | with_reducible apply pu_and | with_reducible apply pu_or | with_reducible apply pu_not | with_reducible apply pu_test | with_reducible apply pu_b
    | with_reducible apply pu_andV | with_reducible apply pu_orV | with_reducible apply pu_notV | with_reducible apply pu_if
    | with_reducible apply pu_isi hC | with_reducible apply pu_cb (hr := pu_len) | with_reducible apply pu_cb (hr := pu_all) | with_reducible apply pu_cb (hr := pu_any) | with_reducible apply pu_cb (hr := pu_tupOf) | with_reducible apply pu_cb (hr := pu_lstOf)
    | with_reducible exact pu_dnil
    | exact pu_d1 _ _ _ (rpS ⟨by decide +kernel, by decide +kernel⟩)
    | exact pu_d1 _ _ _ rpI
    | exact pu_d1i _ _ _ (rpS ⟨by decide +kernel, by decide +kernel⟩)
    | exact pu_d2 _ _ _ _ _ _ (by decide +kernel) (rpS ⟨by decide +kernel, by decide +kernel⟩) (rpS ⟨by decide +kernel, by decide +kernel⟩)
    | with_reducible apply pu_op (hr := pu_ixT) | with_reducible apply pu_op (hr := pu_ixL) | with_reducible apply pu_op (hr := pu_eqS) | with_reducible apply pu_op (hr := pu_neS) | with_reducible apply pu_op (hr := pu_in) | with_reducible apply pu_op (hr := pu_isNo) | with_reducible apply pu_op (hr := pu_notNo)
    | with_reducible apply pu_op (hr := pu_cm) | with_reducible apply pu_op (hr := pu_ar) | with_reducible apply pu_op (hr := pu_eqP) | with_reducible apply pu_op (hr := pu_neP) | with_reducible apply pu_op (hr := pu_catT) | with_reducible apply pu_op (hr := pu_catL)
    | with_reducible apply pu_chain pu_cm pu_cm | with_reducible apply pu_lcV | with_reducible apply pu_dcV | with_reducible apply pu_iTup | with_reducible apply pu_iLst
    | with_reducible apply pu_slT | with_reducible apply pu_slL | with_reducible exact pu_noPart | with_reducible exact pu_part _
    | exact pu_str _ ⟨by decide +kernel, by decide +kernel⟩ | with_reducible apply pu_call | with_reducible apply pu_tup | with_reducible apply pu_lst | with_reducible apply pu_cons | (with_reducible_and_instances rfl) | rfl)); done)
    | ((with_reducible apply nd_pt); ((repeat' first
    | with_reducible exact pu_var _ | with_reducible exact pu_non | with_reducible exact pu_bl _ | with_reducible exact pu_int _ | with_reducible exact pu_nil | with_reducible exact pu_next | with_reducible exact pu_yes
    | with_reducible apply pu_seq | with_reducible apply pu_ifS | with_reducible apply pu_ret | with_reducible apply pu_asg
    | with_reducible apply pu_and | with_reducible apply pu_or | with_reducible apply pu_not | with_reducible apply pu_test | with_reducible apply pu_b
    | with_reducible apply pu_andV | with_reducible apply pu_orV | with_reducible apply pu_notV | with_reducible apply pu_if
    | with_reducible apply pu_isi hC | with_reducible apply pu_cb (hr := pu_len) | with_reducible apply pu_cb (hr := pu_all) | with_reducible apply pu_cb (hr := pu_any) | with_reducible apply pu_cb (hr := pu_tupOf) | with_reducible apply pu_cb (hr := pu_lstOf)
    | with_reducible exact pu_dnil
    | exact pu_d1 _ _ _ (rpS ⟨by decide +kernel, by decide +kernel⟩)
    | exact pu_d1 _ _ _ rpI
    | exact pu_d1i _ _ _ (rpS ⟨by decide +kernel, by decide +kernel⟩)
    | exact pu_d2 _ _ _ _ _ _ (by decide +kernel) (rpS ⟨by decide +kernel, by decide +kernel⟩) (rpS ⟨by decide +kernel, by decide +kernel⟩)
    | with_reducible apply pu_op (hr := pu_ixT) | with_reducible apply pu_op (hr := pu_ixL) | with_reducible apply pu_op (hr := pu_eqS) | with_reducible apply pu_op (hr := pu_neS) | with_reducible apply pu_op (hr := pu_in) | with_reducible apply pu_op (hr := pu_isNo) | with_reducible apply pu_op (hr := pu_notNo)
    | with_reducible apply pu_op (hr := pu_cm) | with_reducible apply pu_op (hr := pu_ar) | with_reducible apply pu_op (hr := pu_eqP) | with_reducible apply pu_op (hr := pu_neP) | with_reducible apply pu_op (hr := pu_catT) | with_reducible apply pu_op (hr := pu_catL)
    | with_reducible apply pu_chain pu_cm pu_cm | with_reducible apply pu_lcV | with_reducible apply pu_dcV | with_reducible apply pu_iTup | with_reducible apply pu_iLst
    | with_reducible apply pu_slT | with_reducible apply pu_slL | with_reducible exact pu_noPart | with_reducible exact pu_part _
    | exact pu_str _ ⟨by decide +kernel, by decide +kernel⟩ | with_reducible apply pu_call | with_reducible apply pu_tup | with_reducible apply pu_lst | with_reducible apply pu_cons | (with_reducible_and_instances rfl) | rfl)); done)
    | with_reducible apply nd_if | with_reducible apply nd_test | with_reducible apply nd_call | with_reducible apply nd_cons
    | with_reducible apply nd_op (hr := pu_ar) | with_reducible apply nd_op (hr := pu_cm) | with_reducible apply nd_op (hr := pu_eqS) | with_reducible apply nd_tup | with_reducible apply nd_lst)
    case hm => exact Nat.le_trans (by decide : _ ≤ 20) (by omega)
    case hf =>
      refine ⟨.str x, bnd _ rfl (bnd _ rfl (ixL_nat (l := m3.map E.str) (by rw [List.getElem?_map, hx]; rfl))), .lst ([.tup [.str "mark"]] ++ (rows.filter plnE).map g), bnd _ rfl (bnd _ rfl (cat_ok ?_)), (by rw [List.length_append]; show 0 < 1 + _; omega), fun q hq => ⟨(by show 2 ≤ 900; decide), q, rfl, ?_⟩⟩
      · show 1 + _ ≤ 900
        omega
      · rcases List.mem_cons.mp hq with rfl | hq
        · exact .inl rfl
        · obtain ⟨r, hr, rfl⟩ := List.mem_map.mp hq
          exact .inr ⟨frst r, List.mem_map.mpr ⟨r, hr, rfl⟩, rfl⟩
    case hl => show ms.length + 1 ≤ 800; omega
    intro d H8 B8 o9 hd
    exact ⟨ms ++ [d], _, o9.le (by omega), by rw [tk_next hx]; exact hA.snoc hd, B8 H B7 hL2'⟩
  rintro σ5 H7 ⟨ms, e3', o7, hA, B7⟩
  have mr : MdR names (m3.take c2.toNat) rows ms := by
    refine ⟨?_, hA⟩
    rcases (by omega : c2.toNat = 0 ∨ c2.toNat = 1 ∨ c2.toNat = 2 ∨ c2.toNat = 3) with e | e | e | e <;> rw [e] <;> decide +kernel
  have hm3 : ms.length ≤ 3 := by rw [← hA.len, List.length_take]; exact Nat.min_le_right _ _
  have pL2 : Pr L2 := fr L2 hL2'
  have nd2 := o7.free (by show ms.length + 1 ≤ 900; omega) (fun b hb => (o7.nd.fr b hb).1) pL2 nw rfl
  have nd2 : Nd w' 0 (n + 300) Pr σ5 H7 [none, some (.str x0), some (.lst rows), e3', e4, some (.lst (idT :: ms)), some (.lst ((rows.filter plnE).map g)), none, none, none] := nd2.le (by omega)
  clear o7 o6 o5 o4 hA nd1
  obtain ⟨p1, p2, p3, rn, p4⟩ := pref_n4 gr.n
  have hr0 : ∃ s b t rs, rows = .tup [.str "x", s, b, t] :: rs := by
    have ga := gr.a
    rw [p4] at ga
    cases ga with
    | cons h t =>
      obtain ⟨s, b, t, rfl, _⟩ := h
      exact ⟨_, _, _, _, rfl⟩
  obtain ⟨rs0, rb0, rt0, rs, hrs⟩ := hr0
  -- alone
  apply st_set (nd := nd2) (Φ := fun d => d = .non ∨ d = .str "x")
  case hE => (repeat' first
    | with_reducible exact nd_next | with_reducible exact nd_nil
    | with_reducible apply nd_ret | with_reducible apply nd_seq | with_reducible apply nd_ifS | (with_reducible apply nd_asg (ij := by decide))
    | ((with_reducible apply nd_pu); ((repeat' first
    | with_reducible exact pu_var _ | with_reducible exact pu_non | with_reducible exact pu_bl _ | with_reducible exact pu_int _ | with_reducible exact pu_nil | with_reducible exact pu_next | with_reducible exact pu_yes
    | with_reducible apply pu_seq | with_reducible apply pu_ifS | with_reducible apply pu_ret | with_reducible apply pu_asg
    | with_reducible apply pu_and | with_reducible apply pu_or | with_reducible apply pu_not | with_reducible apply pu_test | with_reducible apply pu_b
    | with_reducible apply pu_andV | with_reducible apply pu_orV | with_reducible apply pu_notV | with_reducible apply pu_if
    | with_reducible apply pu_isi hC | with_reducible apply pu_cb (hr := pu_len) | with_reducible apply pu_cb (hr := pu_all) | with_reducible apply pu_cb (hr := pu_any) | with_reducible apply pu_cb (hr := pu_tupOf) | with_reducible apply pu_cb (hr := pu_lstOf)
    | with_reducible exact pu_dnil
    | exact pu_d1 _ _ _ (rpS ⟨by decide +kernel, by decide +kernel⟩)
    | exact pu_d1 _ _ _ rpI
    | exact pu_d1i _ _ _ (rpS ⟨by decide +kernel, by decide +kernel⟩)
    | exact pu_d2 _ _ _ _ _ _ (by decide +kernel) (rpS ⟨by decide +kernel, by decide +kernel⟩) (rpS ⟨by decide +kernel, by decide +kernel⟩)
    | with_reducible apply pu_op (hr := pu_ixT) | with_reducible apply pu_op (hr := pu_ixL) | with_reducible apply pu_op (hr := pu_eqS) | with_reducible apply pu_op (hr := pu_neS) | with_reducible apply pu_op (hr := pu_in) | with_reducible apply pu_op (hr := pu_isNo) | with_reducible apply pu_op (hr := pu_notNo)
    | with_reducible apply pu_op (hr := pu_cm) | with_reducible apply pu_op (hr := pu_ar) | with_reducible apply pu_op (hr := pu_eqP) | with_reducible apply pu_op (hr := pu_neP) | with_reducible apply pu_op (hr := pu_catT) | with_reducible apply pu_op (hr := pu_catL)
    | with_reducible apply pu_chain pu_cm pu_cm | with_reducible apply pu_lcV | with_reducible apply pu_dcV | with_reducible apply pu_iTup | with_reducible apply pu_iLst
    | with_reducible apply pu_slT | with_reducible apply pu_slL | with_reducible exact pu_noPart | with_reducible exact pu_part _
    | exact pu_str _ ⟨by decide +kernel, by decide +kernel⟩ | with_reducible apply pu_call | with_reducible apply pu_tup | with_reducible apply pu_lst | with_reducible apply pu_cons | (with_reducible_and_instances rfl) | rfl)); done)
    | ((with_reducible apply nd_pt); ((repeat' first
    | with_reducible exact pu_var _ | with_reducible exact pu_non | with_reducible exact pu_bl _ | with_reducible exact pu_int _ | with_reducible exact pu_nil | with_reducible exact pu_next | with_reducible exact pu_yes
    | with_reducible apply pu_seq | with_reducible apply pu_ifS | with_reducible apply pu_ret | with_reducible apply pu_asg
    | with_reducible apply pu_and | with_reducible apply pu_or | with_reducible apply pu_not | with_reducible apply pu_test | with_reducible apply pu_b
    | with_reducible apply pu_andV | with_reducible apply pu_orV | with_reducible apply pu_notV | with_reducible apply pu_if
    | with_reducible apply pu_isi hC | with_reducible apply pu_cb (hr := pu_len) | with_reducible apply pu_cb (hr := pu_all) | with_reducible apply pu_cb (hr := pu_any) | with_reducible apply pu_cb (hr := pu_tupOf) | with_reducible apply pu_cb (hr := pu_lstOf)
    | with_reducible exact pu_dnil
    | exact pu_d1 _ _ _ (rpS ⟨by decide +kernel, by decide +kernel⟩)
    | exact pu_d1 _ _ _ rpI
    | exact pu_d1i _ _ _ (rpS ⟨by decide +kernel, by decide +kernel⟩)
    | exact pu_d2 _ _ _ _ _ _ (by decide +kernel) (rpS ⟨by decide +kernel, by decide +kernel⟩) (rpS ⟨by decide +kernel, by decide +kernel⟩)
    | with_reducible apply pu_op (hr := pu_ixT) | with_reducible apply pu_op (hr := pu_ixL) | with_reducible apply pu_op (hr := pu_eqS) | with_reducible apply pu_op (hr := pu_neS) | with_reducible apply pu_op (hr := pu_in) | with_reducible apply pu_op (hr := pu_isNo) | with_reducible apply pu_op (hr := pu_notNo)
    | with_reducible apply pu_op (hr := pu_cm) | with_reducible apply pu_op (hr := pu_ar) | with_reducible apply pu_op (hr := pu_eqP) | with_reducible apply pu_op (hr := pu_neP) | with_reducible apply pu_op (hr := pu_catT) | with_reducible apply pu_op (hr := pu_catL)
    | with_reducible apply pu_chain pu_cm pu_cm | with_reducible apply pu_lcV | with_reducible apply pu_dcV | with_reducible apply pu_iTup | with_reducible apply pu_iLst
    | with_reducible apply pu_slT | with_reducible apply pu_slL | with_reducible exact pu_noPart | with_reducible exact pu_part _
    | exact pu_str _ ⟨by decide +kernel, by decide +kernel⟩ | with_reducible apply pu_call | with_reducible apply pu_tup | with_reducible apply pu_lst | with_reducible apply pu_cons | (with_reducible_and_instances rfl) | rfl)); done)
    | with_reducible apply nd_if | with_reducible apply nd_test | with_reducible apply nd_call | with_reducible apply nd_cons
    | with_reducible apply nd_op (hr := pu_ar) | with_reducible apply nd_op (hr := pu_cm) | with_reducible apply nd_op (hr := pu_eqS) | with_reducible apply nd_tup | with_reducible apply nd_lst)
  case hm => exact Nat.le_trans (by decide : _ ≤ 10) (by omega)
  case hf =>
    refine ⟨.lst [.non, .str "x"], bnd ([E.non, E.str "x"] : List E) (bnd E.non rfl (mp ([E.str "x"] : List E) (bnd (E.str "x") (bnd (E.tup [E.str "x", rs0, rb0, rt0]) (bnd (E.lst rows) rfl (bnd (E.int 0) rfl (by rw [hrs]; exact ixL0 _ _))) rfl) rfl))) rfl, (by show 0 < 2; decide), fun d hd => ?_⟩
    rcases List.mem_cons.mp hd with rfl | hd
    · exact .inl rfl
    rcases List.mem_cons.mp hd with rfl | hd
    · exact .inr rfl
    · cases hd
  case ji => decide
  rintro v8 d8 H8 B8 nd8 hd8
  generalize σ5.set 8 (some v8) = σ6 at nd8 ⊢
  have nd8 : Nd w' 0 (n + 280) Pr σ6 H8 [none, some (.str x0), some (.lst rows), e3', e4, some (.lst (idT :: ms)), some (.lst ((rows.filter plnE).map g)), none, some d8, none] := nd8.le (by omega)
  -- held
  apply st_set (nd := nd8) (Φ := fun d => ∃ hs : List Str, d = .tup (hs.map E.str) ∧ hs.Sublist names)
  case hE =>
    apply nd_cb (hr := pu_tupOf)
    apply nd_cons
    · apply nd_lcL (M := 4) (by decide) (by decide)
      · exact pu_var _
      · (repeat' first
    | with_reducible exact nd_next | with_reducible exact nd_nil
    | with_reducible apply nd_ret | with_reducible apply nd_seq | with_reducible apply nd_ifS | (with_reducible apply nd_asg (ij := by decide))
    | ((with_reducible apply nd_pu); ((repeat' first
    | with_reducible exact pu_var _ | with_reducible exact pu_non | with_reducible exact pu_bl _ | with_reducible exact pu_int _ | with_reducible exact pu_nil | with_reducible exact pu_next | with_reducible exact pu_yes
    | with_reducible apply pu_seq | with_reducible apply pu_ifS | with_reducible apply pu_ret | with_reducible apply pu_asg
    | with_reducible apply pu_and | with_reducible apply pu_or | with_reducible apply pu_not | with_reducible apply pu_test | with_reducible apply pu_b
    | with_reducible apply pu_andV | with_reducible apply pu_orV | with_reducible apply pu_notV | with_reducible apply pu_if
    | with_reducible apply pu_isi hC | with_reducible apply pu_cb (hr := pu_len) | with_reducible apply pu_cb (hr := pu_all) | with_reducible apply pu_cb (hr := pu_any) | with_reducible apply pu_cb (hr := pu_tupOf) | with_reducible apply pu_cb (hr := pu_lstOf)
    | with_reducible exact pu_dnil
    | exact pu_d1 _ _ _ (rpS ⟨by decide +kernel, by decide +kernel⟩)
    | exact pu_d1 _ _ _ rpI
    | exact pu_d1i _ _ _ (rpS ⟨by decide +kernel, by decide +kernel⟩)
    | exact pu_d2 _ _ _ _ _ _ (by decide +kernel) (rpS ⟨by decide +kernel, by decide +kernel⟩) (rpS ⟨by decide +kernel, by decide +kernel⟩)
    | with_reducible apply pu_op (hr := pu_ixT) | with_reducible apply pu_op (hr := pu_ixL) | with_reducible apply pu_op (hr := pu_eqS) | with_reducible apply pu_op (hr := pu_neS) | with_reducible apply pu_op (hr := pu_in) | with_reducible apply pu_op (hr := pu_isNo) | with_reducible apply pu_op (hr := pu_notNo)
    | with_reducible apply pu_op (hr := pu_cm) | with_reducible apply pu_op (hr := pu_ar) | with_reducible apply pu_op (hr := pu_eqP) | with_reducible apply pu_op (hr := pu_neP) | with_reducible apply pu_op (hr := pu_catT) | with_reducible apply pu_op (hr := pu_catL)
    | with_reducible apply pu_chain pu_cm pu_cm | with_reducible apply pu_lcV | with_reducible apply pu_dcV | with_reducible apply pu_iTup | with_reducible apply pu_iLst
    | with_reducible apply pu_slT | with_reducible apply pu_slL | with_reducible exact pu_noPart | with_reducible exact pu_part _
    | exact pu_str _ ⟨by decide +kernel, by decide +kernel⟩ | with_reducible apply pu_call | with_reducible apply pu_tup | with_reducible apply pu_lst | with_reducible apply pu_cons | (with_reducible_and_instances rfl) | rfl)); done)
    | ((with_reducible apply nd_pt); ((repeat' first
    | with_reducible exact pu_var _ | with_reducible exact pu_non | with_reducible exact pu_bl _ | with_reducible exact pu_int _ | with_reducible exact pu_nil | with_reducible exact pu_next | with_reducible exact pu_yes
    | with_reducible apply pu_seq | with_reducible apply pu_ifS | with_reducible apply pu_ret | with_reducible apply pu_asg
    | with_reducible apply pu_and | with_reducible apply pu_or | with_reducible apply pu_not | with_reducible apply pu_test | with_reducible apply pu_b
    | with_reducible apply pu_andV | with_reducible apply pu_orV | with_reducible apply pu_notV | with_reducible apply pu_if
    | with_reducible apply pu_isi hC | with_reducible apply pu_cb (hr := pu_len) | with_reducible apply pu_cb (hr := pu_all) | with_reducible apply pu_cb (hr := pu_any) | with_reducible apply pu_cb (hr := pu_tupOf) | with_reducible apply pu_cb (hr := pu_lstOf)
    | with_reducible exact pu_dnil
    | exact pu_d1 _ _ _ (rpS ⟨by decide +kernel, by decide +kernel⟩)
    | exact pu_d1 _ _ _ rpI
    | exact pu_d1i _ _ _ (rpS ⟨by decide +kernel, by decide +kernel⟩)
    | exact pu_d2 _ _ _ _ _ _ (by decide +kernel) (rpS ⟨by decide +kernel, by decide +kernel⟩) (rpS ⟨by decide +kernel, by decide +kernel⟩)
    | with_reducible apply pu_op (hr := pu_ixT) | with_reducible apply pu_op (hr := pu_ixL) | with_reducible apply pu_op (hr := pu_eqS) | with_reducible apply pu_op (hr := pu_neS) | with_reducible apply pu_op (hr := pu_in) | with_reducible apply pu_op (hr := pu_isNo) | with_reducible apply pu_op (hr := pu_notNo)
    | with_reducible apply pu_op (hr := pu_cm) | with_reducible apply pu_op (hr := pu_ar) | with_reducible apply pu_op (hr := pu_eqP) | with_reducible apply pu_op (hr := pu_neP) | with_reducible apply pu_op (hr := pu_catT) | with_reducible apply pu_op (hr := pu_catL)
    | with_reducible apply pu_chain pu_cm pu_cm | with_reducible apply pu_lcV | with_reducible apply pu_dcV | with_reducible apply pu_iTup | with_reducible apply pu_iLst
    | with_reducible apply pu_slT | with_reducible apply pu_slL | with_reducible exact pu_noPart | with_reducible exact pu_part _
    | exact pu_str _ ⟨by decide +kernel, by decide +kernel⟩ | with_reducible apply pu_call | with_reducible apply pu_tup | with_reducible apply pu_lst | with_reducible apply pu_cons | (with_reducible_and_instances rfl) | rfl)); done)
    | with_reducible apply nd_if | with_reducible apply nd_test | with_reducible apply nd_call | with_reducible apply nd_cons
    | with_reducible apply nd_op (hr := pu_ar) | with_reducible apply nd_op (hr := pu_cm) | with_reducible apply nd_op (hr := pu_eqS) | with_reducible apply nd_tup | with_reducible apply nd_lst)
      · (repeat' first
    | with_reducible exact nd_next | with_reducible exact nd_nil
    | with_reducible apply nd_ret | with_reducible apply nd_seq | with_reducible apply nd_ifS | (with_reducible apply nd_asg (ij := by decide))
    | ((with_reducible apply nd_pu); ((repeat' first
    | with_reducible exact pu_var _ | with_reducible exact pu_non | with_reducible exact pu_bl _ | with_reducible exact pu_int _ | with_reducible exact pu_nil | with_reducible exact pu_next | with_reducible exact pu_yes
    | with_reducible apply pu_seq | with_reducible apply pu_ifS | with_reducible apply pu_ret | with_reducible apply pu_asg
    | with_reducible apply pu_and | with_reducible apply pu_or | with_reducible apply pu_not | with_reducible apply pu_test | with_reducible apply pu_b
    | with_reducible apply pu_andV | with_reducible apply pu_orV | with_reducible apply pu_notV | with_reducible apply pu_if
    | with_reducible apply pu_isi hC | with_reducible apply pu_cb (hr := pu_len) | with_reducible apply pu_cb (hr := pu_all) | with_reducible apply pu_cb (hr := pu_any) | with_reducible apply pu_cb (hr := pu_tupOf) | with_reducible apply pu_cb (hr := pu_lstOf)
    | with_reducible exact pu_dnil
    | exact pu_d1 _ _ _ (rpS ⟨by decide +kernel, by decide +kernel⟩)
    | exact pu_d1 _ _ _ rpI
    | exact pu_d1i _ _ _ (rpS ⟨by decide +kernel, by decide +kernel⟩)
    | exact pu_d2 _ _ _ _ _ _ (by decide +kernel) (rpS ⟨by decide +kernel, by decide +kernel⟩) (rpS ⟨by decide +kernel, by decide +kernel⟩)
    | with_reducible apply pu_op (hr := pu_ixT) | with_reducible apply pu_op (hr := pu_ixL) | with_reducible apply pu_op (hr := pu_eqS) | with_reducible apply pu_op (hr := pu_neS) | with_reducible apply pu_op (hr := pu_in) | with_reducible apply pu_op (hr := pu_isNo) | with_reducible apply pu_op (hr := pu_notNo)
    | with_reducible apply pu_op (hr := pu_cm) | with_reducible apply pu_op (hr := pu_ar) | with_reducible apply pu_op (hr := pu_eqP) | with_reducible apply pu_op (hr := pu_neP) | with_reducible apply pu_op (hr := pu_catT) | with_reducible apply pu_op (hr := pu_catL)
    | with_reducible apply pu_chain pu_cm pu_cm | with_reducible apply pu_lcV | with_reducible apply pu_dcV | with_reducible apply pu_iTup | with_reducible apply pu_iLst
    | with_reducible apply pu_slT | with_reducible apply pu_slL | with_reducible exact pu_noPart | with_reducible exact pu_part _
    | exact pu_str _ ⟨by decide +kernel, by decide +kernel⟩ | with_reducible apply pu_call | with_reducible apply pu_tup | with_reducible apply pu_lst | with_reducible apply pu_cons | (with_reducible_and_instances rfl) | rfl)); done)
    | ((with_reducible apply nd_pt); ((repeat' first
    | with_reducible exact pu_var _ | with_reducible exact pu_non | with_reducible exact pu_bl _ | with_reducible exact pu_int _ | with_reducible exact pu_nil | with_reducible exact pu_next | with_reducible exact pu_yes
    | with_reducible apply pu_seq | with_reducible apply pu_ifS | with_reducible apply pu_ret | with_reducible apply pu_asg
    | with_reducible apply pu_and | with_reducible apply pu_or | with_reducible apply pu_not | with_reducible apply pu_test | with_reducible apply pu_b
    | with_reducible apply pu_andV | with_reducible apply pu_orV | with_reducible apply pu_notV | with_reducible apply pu_if
    | with_reducible apply pu_isi hC | with_reducible apply pu_cb (hr := pu_len) | with_reducible apply pu_cb (hr := pu_all) | with_reducible apply pu_cb (hr := pu_any) | with_reducible apply pu_cb (hr := pu_tupOf) | with_reducible apply pu_cb (hr := pu_lstOf)
    | with_reducible exact pu_dnil
    | exact pu_d1 _ _ _ (rpS ⟨by decide +kernel, by decide +kernel⟩)
    | exact pu_d1 _ _ _ rpI
    | exact pu_d1i _ _ _ (rpS ⟨by decide +kernel, by decide +kernel⟩)
    | exact pu_d2 _ _ _ _ _ _ (by decide +kernel) (rpS ⟨by decide +kernel, by decide +kernel⟩) (rpS ⟨by decide +kernel, by decide +kernel⟩)
    | with_reducible apply pu_op (hr := pu_ixT) | with_reducible apply pu_op (hr := pu_ixL) | with_reducible apply pu_op (hr := pu_eqS) | with_reducible apply pu_op (hr := pu_neS) | with_reducible apply pu_op (hr := pu_in) | with_reducible apply pu_op (hr := pu_isNo) | with_reducible apply pu_op (hr := pu_notNo)
    | with_reducible apply pu_op (hr := pu_cm) | with_reducible apply pu_op (hr := pu_ar) | with_reducible apply pu_op (hr := pu_eqP) | with_reducible apply pu_op (hr := pu_neP) | with_reducible apply pu_op (hr := pu_catT) | with_reducible apply pu_op (hr := pu_catL)
    | with_reducible apply pu_chain pu_cm pu_cm | with_reducible apply pu_lcV | with_reducible apply pu_dcV | with_reducible apply pu_iTup | with_reducible apply pu_iLst
    | with_reducible apply pu_slT | with_reducible apply pu_slL | with_reducible exact pu_noPart | with_reducible exact pu_part _
    | exact pu_str _ ⟨by decide +kernel, by decide +kernel⟩ | with_reducible apply pu_call | with_reducible apply pu_tup | with_reducible apply pu_lst | with_reducible apply pu_cons | (with_reducible_and_instances rfl) | rfl)); done)
    | with_reducible apply nd_if | with_reducible apply nd_test | with_reducible apply nd_call | with_reducible apply nd_cons
    | with_reducible apply nd_op (hr := pu_ar) | with_reducible apply nd_op (hr := pu_cm) | with_reducible apply nd_op (hr := pu_eqS) | with_reducible apply nd_tup | with_reducible apply nd_lst)
    · exact nd_nil
  case hm => exact Nat.le_trans (by decide : _ ≤ 40) (by omega)
  case hf =>
    refine ⟨rows, rfl, hlen4, lcN_sub (names := names) gr.good.2.2.2.2.2.2 (fun x hx φ hb => ?_) (fun x hx φ hb => ?_) fun hs hsub => ⟨.tup (hs.map E.str), ?_, hs, rfl, hsub⟩⟩
    · exact ⟨_, rfl, by decide, by decide, fun d d0 d1 => ⟨_, rfl, _, rfl, _, rfl, hb _⟩⟩
    · obtain ⟨a, b, c, d, rfl⟩ := hrow x hx
      exact ⟨_, rfl, hb⟩
    · exact tup_ok (by rw [List.length_map]; have := hsub.length_le; omega)
  case ji => decide
  rintro v9 d9 H9 B9 nd9 ⟨hs, rfl, hsub⟩
  generalize σ6.set 9 (some v9) = σ7 at nd9 ⊢
  apply nd_go (nd := nd9) (Φ := fun d => d = .lst [.str x0, .tup rows, .tup (idT :: ms), d8, .tup (hs.map E.str)])
  case hE => (repeat' first
    | with_reducible exact nd_next | with_reducible exact nd_nil
    | with_reducible apply nd_ret | with_reducible apply nd_seq | with_reducible apply nd_ifS | (with_reducible apply nd_asg (ij := by decide))
    | ((with_reducible apply nd_pu); ((repeat' first
    | with_reducible exact pu_var _ | with_reducible exact pu_non | with_reducible exact pu_bl _ | with_reducible exact pu_int _ | with_reducible exact pu_nil | with_reducible exact pu_next | with_reducible exact pu_yes
    | with_reducible apply pu_seq | with_reducible apply pu_ifS | with_reducible apply pu_ret | with_reducible apply pu_asg
    | with_reducible apply pu_and | with_reducible apply pu_or | with_reducible apply pu_not | with_reducible apply pu_test | with_reducible apply pu_b
    | with_reducible apply pu_andV | with_reducible apply pu_orV | with_reducible apply pu_notV | with_reducible apply pu_if
    | with_reducible apply pu_isi hC | with_reducible apply pu_cb (hr := pu_len) | with_reducible apply pu_cb (hr := pu_all) | with_reducible apply pu_cb (hr := pu_any) | with_reducible apply pu_cb (hr := pu_tupOf) | with_reducible apply pu_cb (hr := pu_lstOf)
    | with_reducible exact pu_dnil
    | exact pu_d1 _ _ _ (rpS ⟨by decide +kernel, by decide +kernel⟩)
    | exact pu_d1 _ _ _ rpI
    | exact pu_d1i _ _ _ (rpS ⟨by decide +kernel, by decide +kernel⟩)
    | exact pu_d2 _ _ _ _ _ _ (by decide +kernel) (rpS ⟨by decide +kernel, by decide +kernel⟩) (rpS ⟨by decide +kernel, by decide +kernel⟩)
    | with_reducible apply pu_op (hr := pu_ixT) | with_reducible apply pu_op (hr := pu_ixL) | with_reducible apply pu_op (hr := pu_eqS) | with_reducible apply pu_op (hr := pu_neS) | with_reducible apply pu_op (hr := pu_in) | with_reducible apply pu_op (hr := pu_isNo) | with_reducible apply pu_op (hr := pu_notNo)
    | with_reducible apply pu_op (hr := pu_cm) | with_reducible apply pu_op (hr := pu_ar) | with_reducible apply pu_op (hr := pu_eqP) | with_reducible apply pu_op (hr := pu_neP) | with_reducible apply pu_op (hr := pu_catT) | with_reducible apply pu_op (hr := pu_catL)
    | with_reducible apply pu_chain pu_cm pu_cm | with_reducible apply pu_lcV | with_reducible apply pu_dcV | with_reducible apply pu_iTup | with_reducible apply pu_iLst
    | with_reducible apply pu_slT | with_reducible apply pu_slL | with_reducible exact pu_noPart | with_reducible exact pu_part _
    | exact pu_str _ ⟨by decide +kernel, by decide +kernel⟩ | with_reducible apply pu_call | with_reducible apply pu_tup | with_reducible apply pu_lst | with_reducible apply pu_cons | (with_reducible_and_instances rfl) | rfl)); done)
    | ((with_reducible apply nd_pt); ((repeat' first
    | with_reducible exact pu_var _ | with_reducible exact pu_non | with_reducible exact pu_bl _ | with_reducible exact pu_int _ | with_reducible exact pu_nil | with_reducible exact pu_next | with_reducible exact pu_yes
    | with_reducible apply pu_seq | with_reducible apply pu_ifS | with_reducible apply pu_ret | with_reducible apply pu_asg
    | with_reducible apply pu_and | with_reducible apply pu_or | with_reducible apply pu_not | with_reducible apply pu_test | with_reducible apply pu_b
    | with_reducible apply pu_andV | with_reducible apply pu_orV | with_reducible apply pu_notV | with_reducible apply pu_if
    | with_reducible apply pu_isi hC | with_reducible apply pu_cb (hr := pu_len) | with_reducible apply pu_cb (hr := pu_all) | with_reducible apply pu_cb (hr := pu_any) | with_reducible apply pu_cb (hr := pu_tupOf) | with_reducible apply pu_cb (hr := pu_lstOf)
    | with_reducible exact pu_dnil
    | exact pu_d1 _ _ _ (rpS ⟨by decide +kernel, by decide +kernel⟩)
    | exact pu_d1 _ _ _ rpI
    | exact pu_d1i _ _ _ (rpS ⟨by decide +kernel, by decide +kernel⟩)
    | exact pu_d2 _ _ _ _ _ _ (by decide +kernel) (rpS ⟨by decide +kernel, by decide +kernel⟩) (rpS ⟨by decide +kernel, by decide +kernel⟩)
    | with_reducible apply pu_op (hr := pu_ixT) | with_reducible apply pu_op (hr := pu_ixL) | with_reducible apply pu_op (hr := pu_eqS) | with_reducible apply pu_op (hr := pu_neS) | with_reducible apply pu_op (hr := pu_in) | with_reducible apply pu_op (hr := pu_isNo) | with_reducible apply pu_op (hr := pu_notNo)
    | with_reducible apply pu_op (hr := pu_cm) | with_reducible apply pu_op (hr := pu_ar) | with_reducible apply pu_op (hr := pu_eqP) | with_reducible apply pu_op (hr := pu_neP) | with_reducible apply pu_op (hr := pu_catT) | with_reducible apply pu_op (hr := pu_catL)
    | with_reducible apply pu_chain pu_cm pu_cm | with_reducible apply pu_lcV | with_reducible apply pu_dcV | with_reducible apply pu_iTup | with_reducible apply pu_iLst
    | with_reducible apply pu_slT | with_reducible apply pu_slL | with_reducible exact pu_noPart | with_reducible exact pu_part _
    | exact pu_str _ ⟨by decide +kernel, by decide +kernel⟩ | with_reducible apply pu_call | with_reducible apply pu_tup | with_reducible apply pu_lst | with_reducible apply pu_cons | (with_reducible_and_instances rfl) | rfl)); done)
    | with_reducible apply nd_if | with_reducible apply nd_test | with_reducible apply nd_call | with_reducible apply nd_cons
    | with_reducible apply nd_op (hr := pu_ar) | with_reducible apply nd_op (hr := pu_cm) | with_reducible apply nd_op (hr := pu_eqS) | with_reducible apply nd_tup | with_reducible apply nd_lst)
  case hm => exact Nat.zero_le _
  case hf =>
    exact ⟨_, bnd ([E.str x0, E.tup rows, E.tup (idT :: ms), d8, E.tup (hs.map E.str)] : List E) (bnd (E.str x0) rfl (mp ([E.tup rows, E.tup (idT :: ms), d8, E.tup (hs.map E.str)] : List E) (bnd (E.tup rows) (bnd ([E.lst rows] : List E) rfl (tup_ok (by omega))) (mp ([E.tup (idT :: ms), d8, E.tup (hs.map E.str)] : List E) (bnd (E.tup (idT :: ms)) (bnd ([E.lst (idT :: ms)] : List E) rfl (tup_ok (by show ms.length + 1 ≤ 900; omega))) (mp ([d8, E.tup (hs.map E.str)] : List E) rfl)))))) rfl, rfl⟩
  rintro v d H10 B10 W10 r10 rfl
  exact k v _ H10 (((B7.trans B8).trans B9).trans B10) (W10.le (by omega)) r10 (hΦ names _ rows ms _ _ _ _ _ ⟨⟨x0, hx0, rfl⟩, rfl, gr, rfl, mr, (by rcases hd8 with h | h; exact .inl h; exact .inr ⟨_, by rw [p4]; exact List.mem_cons_self, h⟩), hs, rfl, hsub⟩ rfl)
end
end K05

namespace K05
open PySem L2 XR VT ET
abbrev sSpo : Stmt := top 33
section
variable {w L : Addr} {i j q m : Nat} {Pr : Addr → Prop} {σ : L2.St} {H : Hp} {env : List (Option E)} {ds l0 : List E} {te : TE} {f : NE} {D : Ends} {rest : TS} {Φ : E → Prop} {K : PySem.W.Frag} {fa : FE} {ta : TE}
/-- x = list(y) -/
theorem st_lstOf (ha : PuE ta fa) (nd : Nd w i m Pr σ H env) (hf : fa env = some (.lst ds)) (ji : j ≠ i) (hj : j < env.length) (k : ∀ L H1, H L = none → But w H H1 → NdO w L i j m (fun b => Pr b ∧ b ≠ L) (σ.set j (some (.ref L))) H1 (env.set j none) ds → rest D (σ.set j (some (.ref L))) H1) : tSeq (tAsg (tCB (rLstOf K) (tCons ta tNil)) (gName j)) rest D σ H := by
  refine ha Pr σ H env _ _ nd.en nd.fr hf fun v H1 m1 r1 => ?_
  have nd1 := nd.next (But.of m1) (nd.wl.same m1)
  cases r1 with
  | @lst a xs _ h hl hz hs =>
  refine ⟨a, xs, rfl, .inl (SqL.of (keep_some h).2), fun p hp => ?_⟩
  exact k p _ (by cases e : H p with | none => rfl | some o => rw [m1 _ _ e] at hp; cases hp) ((But.of m1).trans (But.new hp)) (nd1.own ji hj hp (RpL.of hl hs))
/-- xs[kk] = e -/
theorem st_put {kk : Nat} (hE : NdE i q te f) (nO : NdO w L i j m Pr σ H env ds) (hm : q ≤ m) (hf : f env Φ) (hk : kk < ds.length) (k : ∀ d H2, (∀ H0, But w H0 H → H0 L = none → But w H0 H2) → NdO w L i j (m - q) Pr σ H2 env (ds.set kk d) → Φ d → D.nx σ H2) : tAsg te (gSub (tVar j) (tC (.int (kk : Nat))) rSetL) D σ H :=
  nd_go hE nO.nd hm hf fun v d H1 B W r hd => by
    have nO1 := nO.next B W
    obtain ⟨vs, g1, g2⟩ := nO1.vs
    have hl := g2.length
    refine ⟨_, nO.at_, L, vs, (kk : Int), kk, rfl, rfl, g1, ?_, ?_⟩
    · unfold ixN
      rw [if_pos (by omega), if_pos (by omega)]
      rfl
    · refine k d _ (fun H0 B0 h0 => NdO.fresh (B0.trans B) h0) (nO1.put (RpL.of (by rw [List.length_set, List.length_set]; exact hl) fun a v' d' h1 h2 => ?_)) hd
      by_cases ha : kk = a
      · subst ha
        rw [List.getElem?_set_self (by omega)] at h1 h2
        cases h1
        cases h2
        exact r
      · rw [List.getElem?_set_ne ha] at h1 h2
        exact g2.get a v' d' h1 h2
theorem st_ifO {tt : TT} {ft : FT} {t u : TS} {b : Bool} (pu : PuT tt ft) (nO : NdO w L i j m Pr σ H env ds) (e : ft env = some b) (hT : b = true → ∀ H1, But w H H1 → NdO w L i j m Pr σ H1 env ds → t { D with nx := rest D } σ H1) (hF : b = false → ∀ H1, But w H H1 → NdO w L i j m Pr σ H1 env ds → u { D with nx := rest D } σ H1) : tSeq (tIfS tt t u) rest D σ H := by
  refine pu Pr σ H env b _ nO.nd.en nO.nd.fr e fun H1 m1 => ?_
  have B := But.of (w := w) m1
  have o := nO.next B (nO.nd.wl.same m1)
  cases b with
  | true => exact iteT (hT rfl H1 B o)
  | false => exact iteF (hF rfl H1 B o)
theorem st_ifO1 {tt : TT} {ft : FT} {t u : TS} {b : Bool} (pu : PuT tt ft) (nO : NdO w L i j m Pr σ H env ds) (e : ft env = some b) (hT : b = true → ∀ H1, But w H H1 → NdO w L i j m Pr σ H1 env ds → t D σ H1) (hF : b = false → ∀ H1, But w H H1 → NdO w L i j m Pr σ H1 env ds → u D σ H1) : tIfS tt t u D σ H := by
  refine pu Pr σ H env b _ nO.nd.en nO.nd.fr e fun H1 m1 => ?_
  have B := But.of (w := w) m1
  have o := nO.next B (nO.nd.wl.same m1)
  cases b with
  | true => exact iteT (hT rfl H1 B o)
  | false => exact iteF (hF rfl H1 B o)
theorem row_four : ∀ {xs : List Str} {rs : List E}, All2 rowR xs rs → ∀ r ∈ rs, ∃ a b c d, r = .tup [a, b, c, d] := by
  intro xs rs a
  induction a with
  | nil => intro r h; cases h
  | @cons x r0 xs rs h t ih =>
    intro r hr
    rcases List.mem_cons.mp hr with rfl | hr
    · obtain ⟨s, b, t, rfl, _⟩ := h
      exact ⟨_, _, _, _, rfl⟩
    · exact ih r hr
end
def oddP (rows ms : List E) : Nat → E → Prop
  | 0, o => o ∈ nOdds
  | 1, o => ∃ a b c d rest, rows = .tup [a, b, c, d] :: rest ∧ o ∈ gOdds a b c d rest
  | 2, o => mAll (.str "x") idT ms rows o
  | 3, o => o ∈ sOdds (.str "x")
  | _, o => o ∈ hOdds (.str "x")
/-- the list that is told is new -/
def spSpo (q : Nat) : Sp := fun vs H Q _ => ∃ (n : Nat) (Pr : Addr → Prop) (w : Addr) (us : List V) (at_ : Nat) (names mx : List Str) (rows ms : List E) (c0 c1 c2 c3 c4 : E), vs = .ref w :: us ∧ RpL (keepH Pr H) us [.lst [c0, c1, c2, c3, c4], .int at_] ∧ Fr Pr H ∧ ¬ Pr w ∧ Wl H w (n + q) ∧ KindR names mx rows ms c0 c1 c2 c3 c4 ∧ at_ < 5 ∧
  ∀ (p : Addr) (vs : List V) (o : E) (H' : Hp), H p = none → But w H H' → Wl H' w n → oddP rows ms at_ o → H' p = some (.lst vs) → RpL (keepH (fun b => Pr b ∧ b ≠ p) H') vs ([c0, c1, c2, c3, c4].set at_ o) → Q (.ref p) H'
section
variable {P : Program} {w : World} {K : PySem.W.Frag} {mg : Str → Option Value} {base : Heap}
variable {CS : List Addr}
theorem scSp : FnScope ["_law_well_here", "_law_some", "_law_at", "_law_found", "_law_names", "_law_row", "_law_odd"] ["_law_well_here", "_law_some", "_law_at"] (defScope sSpo) := ⟨rfl, rfl, rfl, by decide +kernel, rfl, by decide +kernel, by decide +kernel⟩
theorem ok_spo {f fOn fG fM : Addr} {fd dOn dG dM : FuncData} (F : Fun K "_law_spoilt" "_law_spoilt" sSpo f fd) (T : Txt mg) (hC : ∀ C ∈ CS, CF K C)
    (GG : FnOk P w K mg base CX0 3 fG dG ["_law_well_here", "_law_given"] (spN 10 gOddN)) (gG : mg "_law_given_odd" = some (.ref fG)) (kG : PySem.W.keepIn K (.ref fG) = true) (bG : Binds K dG ["_law_well_here", "_law_given"] [])
    (GM : FnOk P w K mg base CX0 3 fM dM ["_law_well_here", "_law_given", "_law_made"] (spN 10 mOddN)) (gM : mg "_law_made_odd" = some (.ref fM)) (kM : PySem.W.keepIn K (.ref fM) = true) (bM : Binds K dM ["_law_well_here", "_law_given", "_law_made"] [])
    (GOn : FnOk P w K mg base CX0 2 fOn dOn ["_law_well_here", "_law_some"] (spN 1 oneN)) (gOn : mg "_law_one" = some (.ref fOn)) (kOn : PySem.W.keepIn K (.ref fOn) = true) (bOn : Binds K dOn ["_law_well_here", "_law_some"] []) : FnOk P w K mg base CX0 4 f fd ["_law_well_here", "_law_some", "_law_at"] (spSpo 50) := by
  refine F.ok scSp (fun vs H Q E0 h => ?_) (fun cdv A outer s H vs Q E0 hr h => ?_)
  · obtain ⟨n, Pr, w', us, at_, names, mx, rows, ms, c0, c1, c2, c3, c4, rfl, r, _⟩ := h
    have := r.length
    rw [List.length_cons, this]
    rfl
  have hr3 : Room 3 _ := hr
  have hr2 : Room 2 _ := hr.mono (by decide)
  refine ⟨_, (pss_cons (ps_set (i := 3) scSp.nd rfl (Or.inl rfl) (pe_callTy (call_lstK (K := K) rfl) (by rfl) T.list (by decide +kernel) (pa_cons (pv 1) pa_nil)))
      (pss_cons (ps_setLc (i := 4) (own := [("_law_row", 5)]) (g := gName 5) (tt := tYes) rfl scSp.nd rfl rfl (sw_true rfl rfl rfl (by decide +kernel)) (pi_tupK (K := K) rfl (pe_ix (ix_lstK (K := K) rfl) (pv 1) pe_int (fun _ _ => rfl))) (blkOk_by (own := [("_law_row", 5)]) (N := ["_law_well_here", "_law_some", "_law_at", "_law_found", "_law_names", "_law_row", "_law_odd"]) (sc := (defScope sSpo)) (by decide +kernel)) (fun _ _ _ _ _ => pg_name (i := 5) scSp.nd rfl (Or.inl rfl)) (fun _ _ _ _ _ => pts_nil) (fun _ _ _ _ _ => (pe_ix (ix_tupK (K := K) rfl) (pv 5) pe_int (fun _ _ => rfl))))
      (pss_cons (ps_if (pt_cmpR op_eq (pv 2) pe_int (nomark _)) (pss_cons (ps_set (i := 6) scSp.nd rfl (Or.inl rfl) (pe_lst (pa_cons pe_str (pa_cons pe_str (pa_cons pe_str (pa_cons pe_str (pa_cons pe_non (pa_cons pe_int (pa_cons (pe_tup (pa_cons pe_str pa_nil)) (pa_cons (pe_lst pa_nil) (pa_cons (pe_cmpR op_eq pe_int pe_int (nomark _)) pa_nil)))))))))))
        (pss_one (ps_asg (pe_call GOn hr2 rfl gOn kOn bOn .nil pass0 (pa_cons (pv 0) (pa_cons (pe_op op_cat (pv 6) (pe_lst (pa_cons pe_str pa_nil))) pa_nil))) (pg_sub (pv 3) pe_int set_list)))) (pss_one (ps_if (pt_cmpR op_eq (pv 2) pe_int (nomark _)) (pss_one (ps_asg (pe_call GG hr3 rfl gG kG bG .nil pass0 (pa_cons (pv 0) (pa_cons (pe_ix (ix_lstK (K := K) rfl) (pv 1) pe_int (fun _ _ => rfl)) pa_nil))) (pg_sub (pv 3) pe_int set_list))) (pss_one (ps_if (pt_cmpR op_eq (pv 2) pe_int (nomark _)) (pss_one (ps_asg (pe_call GM hr3 rfl gM kM bM .nil pass0 (pa_cons (pv 0) (pa_cons (pe_ix (ix_lstK (K := K) rfl) (pv 1) pe_int (fun _ _ => rfl)) (pa_cons (pe_ix (ix_lstK (K := K) rfl) (pv 1) pe_int (fun _ _ => rfl)) pa_nil)))) (pg_sub (pv 3) pe_int set_list))) (pss_one (ps_if (pt_cmpR op_eq (pv 2) pe_int (nomark _)) (pss_one (ps_asg (pe_call GOn hr2 rfl gOn kOn bOn .nil pass0 (pa_cons (pv 0) (pa_cons (pe_lst (pa_cons pe_str (pa_cons pe_str (pa_cons pe_str (pa_cons pe_int (pa_cons (pe_tup pa_nil) (pa_cons (pe_lst pa_nil) (pa_cons (pe_tup (pa_cons (pe_ix (ix_lstK (K := K) rfl) (pv 4) pe_int (fun _ _ => rfl)) pa_nil)) (pa_cons (pe_cmpR op_eq pe_int pe_int (nomark _)) pa_nil))))))))) pa_nil))) (pg_sub (pv 3) pe_int set_list))) (pss_one (ps_asg (pe_call GOn hr2 rfl gOn kOn bOn .nil pass0 (pa_cons (pv 0) (pa_cons (pe_lst (pa_cons pe_non (pa_cons (pe_ix (ix_lstK (K := K) rfl) (pv 4) pe_int (fun _ _ => rfl)) (pa_cons (pe_lst (pa_cons (pe_ix (ix_lstK (K := K) rfl) (pv 4) pe_int (fun _ _ => rfl)) pa_nil)) (pa_cons (pe_tup (pa_cons pe_str pa_nil)) (pa_cons (pe_tup (pa_cons (pe_ix (ix_lstK (K := K) rfl) (pv 4) pe_int (fun _ _ => rfl)) (pa_cons (pe_ix (ix_lstK (K := K) rfl) (pv 4) pe_int (fun _ _ => rfl)) pa_nil))) (pa_cons (pe_tup (pa_cons pe_int pa_nil)) (pa_cons (pe_tup (pa_cons (pe_lst pa_nil) pa_nil)) (pa_cons pe_dnewK pa_nil))))))))) pa_nil))) (pg_sub (pv 3) pe_int set_list))))))))))
      (pss_one (ps_ret (pv 3)))))), ?_⟩
  obtain ⟨n, Pr, w', us, at_, names, mx, rows, ms, c0, c1, c2, c3, c4, rfl, r, fr, nw, W, kr, hat, k⟩ := h
  have nd0 : Nd w' 0 (n + 50) Pr (L2.start ["_law_well_here", "_law_some", "_law_at", "_law_found", "_law_names", "_law_row", "_law_odd"] (.ref w' :: us)) H [none, some (.lst [c0, c1, c2, c3, c4]), some (.int at_), none, none, none, none] := ⟨en_startN r, fr, nw, W, rfl⟩
  generalize L2.start ["_law_well_here", "_law_some", "_law_at", "_law_found", "_law_names", "_law_row", "_law_odd"] (.ref w' :: us) = σ0 at nd0 ⊢
  refine st_lstOf (pu_var 1) nd0 rfl (by decide) (by show 3 < 7; decide) fun L H1 hL B1 o1 => ?_
  generalize σ0.set 3 (some (V.ref L)) = σ1 at o1 ⊢
  have o1 : NdO w' L 0 3 (n + 50) (fun b => Pr b ∧ b ≠ L) σ1 H1 [none, some (.lst [c0, c1, c2, c3, c4]), some (.int at_), none, none, none, none] [c0, c1, c2, c3, c4] := o1
  have hc1 := kr.g
  have hc2 := kr.m
  subst hc1
  subst hc2
  obtain ⟨p1, p2, p3, rn, p4⟩ := pref_n4 kr.gr.n
  have hrow : ∀ x ∈ rows, ∃ a b c d, x = .tup [a, b, c, d] := row_four kr.gr.a
  have hx : ∃ s b c t rest, rows = .tup [.str "x", b, c, t] :: rest ∧ s = (0 : Nat) := by
    have ga := kr.gr.a
    rw [p4] at ga
    cases ga with
    | cons h t =>
      obtain ⟨s, b, t, rfl, _⟩ := h
      exact ⟨_, _, _, _, _, rfl, rfl⟩
  have hx : ∃ s b c t rest, rows = .tup [.str "x", b, c, t] :: rest := let ⟨s, b, c, t, rest, h, _⟩ := hx; ⟨s, b, c, t, rest, h⟩
  have hr4 : rows.length ≤ 4 := by rw [← kr.gr.a.len]; exact p3
  have hm3 : ms.length ≤ 3 := (kr.mr.good kr.gr).2.2
  apply st_setO (nO := o1) (Φ := fun d => d = .lst (names.map E.str))
  case hE => (repeat' first
    | with_reducible exact nd_next | with_reducible exact nd_nil
    | with_reducible apply nd_ret | with_reducible apply nd_seq | with_reducible apply nd_ifS | (with_reducible apply nd_asg (ij := by decide))
    | ((with_reducible apply nd_pu); ((repeat' first
    | with_reducible exact pu_var _ | with_reducible exact pu_non | with_reducible exact pu_bl _ | with_reducible exact pu_int _ | with_reducible exact pu_nil | with_reducible exact pu_next | with_reducible exact pu_yes
    | with_reducible apply pu_seq | with_reducible apply pu_ifS | with_reducible apply pu_ret | with_reducible apply pu_asg
    | with_reducible apply pu_and | with_reducible apply pu_or | with_reducible apply pu_not | with_reducible apply pu_test | with_reducible apply pu_b
    | with_reducible apply pu_andV | with_reducible apply pu_orV | with_reducible apply pu_notV | with_reducible apply pu_if
    | with_reducible apply pu_isi hC | with_reducible apply pu_cb (hr := pu_len) | with_reducible apply pu_cb (hr := pu_all) | with_reducible apply pu_cb (hr := pu_any) | with_reducible apply pu_cb (hr := pu_tupOf) | with_reducible apply pu_cb (hr := pu_lstOf)
    | with_reducible exact pu_dnil
    | exact pu_d1 _ _ _ (rpS ⟨by decide +kernel, by decide +kernel⟩)
    | exact pu_d1 _ _ _ rpI
    | exact pu_d1i _ _ _ (rpS ⟨by decide +kernel, by decide +kernel⟩)
    | exact pu_d2 _ _ _ _ _ _ (by decide +kernel) (rpS ⟨by decide +kernel, by decide +kernel⟩) (rpS ⟨by decide +kernel, by decide +kernel⟩)
    | with_reducible apply pu_op (hr := pu_ixT) | with_reducible apply pu_op (hr := pu_ixL) | with_reducible apply pu_op (hr := pu_eqS) | with_reducible apply pu_op (hr := pu_neS) | with_reducible apply pu_op (hr := pu_in) | with_reducible apply pu_op (hr := pu_isNo) | with_reducible apply pu_op (hr := pu_notNo)
    | with_reducible apply pu_op (hr := pu_cm) | with_reducible apply pu_op (hr := pu_ar) | with_reducible apply pu_op (hr := pu_eqP) | with_reducible apply pu_op (hr := pu_neP) | with_reducible apply pu_op (hr := pu_catT) | with_reducible apply pu_op (hr := pu_catL)
    | with_reducible apply pu_chain pu_cm pu_cm | with_reducible apply pu_lcV | with_reducible apply pu_dcV | with_reducible apply pu_iTup | with_reducible apply pu_iLst
    | with_reducible apply pu_slT | with_reducible apply pu_slL | with_reducible exact pu_noPart | with_reducible exact pu_part _
    | exact pu_str _ ⟨by decide +kernel, by decide +kernel⟩ | with_reducible apply pu_call | with_reducible apply pu_tup | with_reducible apply pu_lst | with_reducible apply pu_cons | (with_reducible_and_instances rfl) | rfl)); done)
    | ((with_reducible apply nd_pt); ((repeat' first
    | with_reducible exact pu_var _ | with_reducible exact pu_non | with_reducible exact pu_bl _ | with_reducible exact pu_int _ | with_reducible exact pu_nil | with_reducible exact pu_next | with_reducible exact pu_yes
    | with_reducible apply pu_seq | with_reducible apply pu_ifS | with_reducible apply pu_ret | with_reducible apply pu_asg
    | with_reducible apply pu_and | with_reducible apply pu_or | with_reducible apply pu_not | with_reducible apply pu_test | with_reducible apply pu_b
    | with_reducible apply pu_andV | with_reducible apply pu_orV | with_reducible apply pu_notV | with_reducible apply pu_if
    | with_reducible apply pu_isi hC | with_reducible apply pu_cb (hr := pu_len) | with_reducible apply pu_cb (hr := pu_all) | with_reducible apply pu_cb (hr := pu_any) | with_reducible apply pu_cb (hr := pu_tupOf) | with_reducible apply pu_cb (hr := pu_lstOf)
    | with_reducible exact pu_dnil
    | exact pu_d1 _ _ _ (rpS ⟨by decide +kernel, by decide +kernel⟩)
    | exact pu_d1 _ _ _ rpI
    | exact pu_d1i _ _ _ (rpS ⟨by decide +kernel, by decide +kernel⟩)
    | exact pu_d2 _ _ _ _ _ _ (by decide +kernel) (rpS ⟨by decide +kernel, by decide +kernel⟩) (rpS ⟨by decide +kernel, by decide +kernel⟩)
    | with_reducible apply pu_op (hr := pu_ixT) | with_reducible apply pu_op (hr := pu_ixL) | with_reducible apply pu_op (hr := pu_eqS) | with_reducible apply pu_op (hr := pu_neS) | with_reducible apply pu_op (hr := pu_in) | with_reducible apply pu_op (hr := pu_isNo) | with_reducible apply pu_op (hr := pu_notNo)
    | with_reducible apply pu_op (hr := pu_cm) | with_reducible apply pu_op (hr := pu_ar) | with_reducible apply pu_op (hr := pu_eqP) | with_reducible apply pu_op (hr := pu_neP) | with_reducible apply pu_op (hr := pu_catT) | with_reducible apply pu_op (hr := pu_catL)
    | with_reducible apply pu_chain pu_cm pu_cm | with_reducible apply pu_lcV | with_reducible apply pu_dcV | with_reducible apply pu_iTup | with_reducible apply pu_iLst
    | with_reducible apply pu_slT | with_reducible apply pu_slL | with_reducible exact pu_noPart | with_reducible exact pu_part _
    | exact pu_str _ ⟨by decide +kernel, by decide +kernel⟩ | with_reducible apply pu_call | with_reducible apply pu_tup | with_reducible apply pu_lst | with_reducible apply pu_cons | (with_reducible_and_instances rfl) | rfl)); done)
    | with_reducible apply nd_if | with_reducible apply nd_test | with_reducible apply nd_call | with_reducible apply nd_cons
    | with_reducible apply nd_op (hr := pu_ar) | with_reducible apply nd_op (hr := pu_cm) | with_reducible apply nd_op (hr := pu_eqS) | with_reducible apply nd_tup | with_reducible apply nd_lst)
  case hm => exact Nat.zero_le _
  case hf =>
    refine ⟨_, bnd rows (bnd (.tup rows) rfl (by show (if rows.length ≤ 900 then some rows else none) = some rows; rw [if_pos (by omega)])) (mp _ (lcE_filter (fun _ => true) frst _ (fun x hx => rfl) fun x hx _ => ?_)), ?_⟩
    · obtain ⟨a, b, c, d, rfl⟩ := hrow x hx
      rfl
    · rw [List.filter_eq_self.mpr fun _ _ => rfl]
      exact congrArg E.lst kr.gr.good.2.2.2.2.2.2
  case ji => decide
  case jl => decide
  rintro v4 d4 H2 B2 o2 rfl
  generalize σ1.set 4 (some v4) = σ2 at o2 ⊢
  have o2 : NdO w' L 0 3 (n + 50) (fun b => Pr b ∧ b ≠ L) σ2 H2 [none, some (.lst [c0, .tup rows, .tup (idT :: ms), c3, c4]), some (.int at_), none, some (.lst (names.map E.str)), none, none] [c0, .tup rows, .tup (idT :: ms), c3, c4] := o2
  have B12 := B1.trans B2
  have fin : ∀ (env : List (Option E)) (σ : L2.St) (H' : Hp) (o : E), But w' H H' → oddP rows ms at_ o → (∃ n', n ≤ n' ∧ NdO w' L 0 3 n' (fun b => Pr b ∧ b ≠ L) σ H' env ([c0, .tup rows, .tup (idT :: ms), c3, c4].set at_ o)) → tRet (tVar 3) { nx := fun x H' => Q V.non H', rt := Q } σ H' := fun env σ H' o B ho ⟨n', hn, nO⟩ => by
    obtain ⟨vs, h1, h2⟩ := nO.vs
    exact ⟨_, nO.at_, k L vs o H' hL B (nO.nd.wl.le hn) ho h1 h2⟩
  clear o1 k nd0
  rcases (by omega : at_ = 0 ∨ at_ = 1 ∨ at_ = 2 ∨ at_ = 3 ∨ at_ = 4) with rfl | rfl | rfl | rfl | rfl
  · apply st_ifO (b := true) (nO := o2)
    case pu => (repeat' first
    | with_reducible exact pu_var _ | with_reducible exact pu_non | with_reducible exact pu_bl _ | with_reducible exact pu_int _ | with_reducible exact pu_nil | with_reducible exact pu_next | with_reducible exact pu_yes
    | with_reducible apply pu_seq | with_reducible apply pu_ifS | with_reducible apply pu_ret | with_reducible apply pu_asg
    | with_reducible apply pu_and | with_reducible apply pu_or | with_reducible apply pu_not | with_reducible apply pu_test | with_reducible apply pu_b
    | with_reducible apply pu_andV | with_reducible apply pu_orV | with_reducible apply pu_notV | with_reducible apply pu_if
    | with_reducible apply pu_isi hC | with_reducible apply pu_cb (hr := pu_len) | with_reducible apply pu_cb (hr := pu_all) | with_reducible apply pu_cb (hr := pu_any) | with_reducible apply pu_cb (hr := pu_tupOf) | with_reducible apply pu_cb (hr := pu_lstOf)
    | with_reducible exact pu_dnil
    | exact pu_d1 _ _ _ (rpS ⟨by decide +kernel, by decide +kernel⟩)
    | exact pu_d1 _ _ _ rpI
    | exact pu_d1i _ _ _ (rpS ⟨by decide +kernel, by decide +kernel⟩)
    | exact pu_d2 _ _ _ _ _ _ (by decide +kernel) (rpS ⟨by decide +kernel, by decide +kernel⟩) (rpS ⟨by decide +kernel, by decide +kernel⟩)
    | with_reducible apply pu_op (hr := pu_ixT) | with_reducible apply pu_op (hr := pu_ixL) | with_reducible apply pu_op (hr := pu_eqS) | with_reducible apply pu_op (hr := pu_neS) | with_reducible apply pu_op (hr := pu_in) | with_reducible apply pu_op (hr := pu_isNo) | with_reducible apply pu_op (hr := pu_notNo)
    | with_reducible apply pu_op (hr := pu_cm) | with_reducible apply pu_op (hr := pu_ar) | with_reducible apply pu_op (hr := pu_eqP) | with_reducible apply pu_op (hr := pu_neP) | with_reducible apply pu_op (hr := pu_catT) | with_reducible apply pu_op (hr := pu_catL)
    | with_reducible apply pu_chain pu_cm pu_cm | with_reducible apply pu_lcV | with_reducible apply pu_dcV | with_reducible apply pu_iTup | with_reducible apply pu_iLst
    | with_reducible apply pu_slT | with_reducible apply pu_slL | with_reducible exact pu_noPart | with_reducible exact pu_part _
    | exact pu_str _ ⟨by decide +kernel, by decide +kernel⟩ | with_reducible apply pu_call | with_reducible apply pu_tup | with_reducible apply pu_lst | with_reducible apply pu_cons | (with_reducible_and_instances rfl) | rfl)
    case e => rfl
    case hF => intro z; cases z
    rintro _ H3 B3 o3
    apply st_setO (nO := o3) (Φ := fun d => d = .lst [.str "", .str "Web", .str "web1", .str "abcdefghijklm", .non, .int 5, .tup [.str "web"], .lst [], .bl true])
    case hE => (repeat' first
    | with_reducible exact nd_next | with_reducible exact nd_nil
    | with_reducible apply nd_ret | with_reducible apply nd_seq | with_reducible apply nd_ifS | (with_reducible apply nd_asg (ij := by decide))
    | ((with_reducible apply nd_pu); ((repeat' first
    | with_reducible exact pu_var _ | with_reducible exact pu_non | with_reducible exact pu_bl _ | with_reducible exact pu_int _ | with_reducible exact pu_nil | with_reducible exact pu_next | with_reducible exact pu_yes
    | with_reducible apply pu_seq | with_reducible apply pu_ifS | with_reducible apply pu_ret | with_reducible apply pu_asg
    | with_reducible apply pu_and | with_reducible apply pu_or | with_reducible apply pu_not | with_reducible apply pu_test | with_reducible apply pu_b
    | with_reducible apply pu_andV | with_reducible apply pu_orV | with_reducible apply pu_notV | with_reducible apply pu_if
    | with_reducible apply pu_isi hC | with_reducible apply pu_cb (hr := pu_len) | with_reducible apply pu_cb (hr := pu_all) | with_reducible apply pu_cb (hr := pu_any) | with_reducible apply pu_cb (hr := pu_tupOf) | with_reducible apply pu_cb (hr := pu_lstOf)
    | with_reducible exact pu_dnil
    | exact pu_d1 _ _ _ (rpS ⟨by decide +kernel, by decide +kernel⟩)
    | exact pu_d1 _ _ _ rpI
    | exact pu_d1i _ _ _ (rpS ⟨by decide +kernel, by decide +kernel⟩)
    | exact pu_d2 _ _ _ _ _ _ (by decide +kernel) (rpS ⟨by decide +kernel, by decide +kernel⟩) (rpS ⟨by decide +kernel, by decide +kernel⟩)
    | with_reducible apply pu_op (hr := pu_ixT) | with_reducible apply pu_op (hr := pu_ixL) | with_reducible apply pu_op (hr := pu_eqS) | with_reducible apply pu_op (hr := pu_neS) | with_reducible apply pu_op (hr := pu_in) | with_reducible apply pu_op (hr := pu_isNo) | with_reducible apply pu_op (hr := pu_notNo)
    | with_reducible apply pu_op (hr := pu_cm) | with_reducible apply pu_op (hr := pu_ar) | with_reducible apply pu_op (hr := pu_eqP) | with_reducible apply pu_op (hr := pu_neP) | with_reducible apply pu_op (hr := pu_catT) | with_reducible apply pu_op (hr := pu_catL)
    | with_reducible apply pu_chain pu_cm pu_cm | with_reducible apply pu_lcV | with_reducible apply pu_dcV | with_reducible apply pu_iTup | with_reducible apply pu_iLst
    | with_reducible apply pu_slT | with_reducible apply pu_slL | with_reducible exact pu_noPart | with_reducible exact pu_part _
    | exact pu_str _ ⟨by decide +kernel, by decide +kernel⟩ | with_reducible apply pu_call | with_reducible apply pu_tup | with_reducible apply pu_lst | with_reducible apply pu_cons | (with_reducible_and_instances rfl) | rfl)); done)
    | ((with_reducible apply nd_pt); ((repeat' first
    | with_reducible exact pu_var _ | with_reducible exact pu_non | with_reducible exact pu_bl _ | with_reducible exact pu_int _ | with_reducible exact pu_nil | with_reducible exact pu_next | with_reducible exact pu_yes
    | with_reducible apply pu_seq | with_reducible apply pu_ifS | with_reducible apply pu_ret | with_reducible apply pu_asg
    | with_reducible apply pu_and | with_reducible apply pu_or | with_reducible apply pu_not | with_reducible apply pu_test | with_reducible apply pu_b
    | with_reducible apply pu_andV | with_reducible apply pu_orV | with_reducible apply pu_notV | with_reducible apply pu_if
    | with_reducible apply pu_isi hC | with_reducible apply pu_cb (hr := pu_len) | with_reducible apply pu_cb (hr := pu_all) | with_reducible apply pu_cb (hr := pu_any) | with_reducible apply pu_cb (hr := pu_tupOf) | with_reducible apply pu_cb (hr := pu_lstOf)
    | with_reducible exact pu_dnil
    | exact pu_d1 _ _ _ (rpS ⟨by decide +kernel, by decide +kernel⟩)
    | exact pu_d1 _ _ _ rpI
    | exact pu_d1i _ _ _ (rpS ⟨by decide +kernel, by decide +kernel⟩)
    | exact pu_d2 _ _ _ _ _ _ (by decide +kernel) (rpS ⟨by decide +kernel, by decide +kernel⟩) (rpS ⟨by decide +kernel, by decide +kernel⟩)
    | with_reducible apply pu_op (hr := pu_ixT) | with_reducible apply pu_op (hr := pu_ixL) | with_reducible apply pu_op (hr := pu_eqS) | with_reducible apply pu_op (hr := pu_neS) | with_reducible apply pu_op (hr := pu_in) | with_reducible apply pu_op (hr := pu_isNo) | with_reducible apply pu_op (hr := pu_notNo)
    | with_reducible apply pu_op (hr := pu_cm) | with_reducible apply pu_op (hr := pu_ar) | with_reducible apply pu_op (hr := pu_eqP) | with_reducible apply pu_op (hr := pu_neP) | with_reducible apply pu_op (hr := pu_catT) | with_reducible apply pu_op (hr := pu_catL)
    | with_reducible apply pu_chain pu_cm pu_cm | with_reducible apply pu_lcV | with_reducible apply pu_dcV | with_reducible apply pu_iTup | with_reducible apply pu_iLst
    | with_reducible apply pu_slT | with_reducible apply pu_slL | with_reducible exact pu_noPart | with_reducible exact pu_part _
    | exact pu_str _ ⟨by decide +kernel, by decide +kernel⟩ | with_reducible apply pu_call | with_reducible apply pu_tup | with_reducible apply pu_lst | with_reducible apply pu_cons | (with_reducible_and_instances rfl) | rfl)); done)
    | with_reducible apply nd_if | with_reducible apply nd_test | with_reducible apply nd_call | with_reducible apply nd_cons
    | with_reducible apply nd_op (hr := pu_ar) | with_reducible apply nd_op (hr := pu_cm) | with_reducible apply nd_op (hr := pu_eqS) | with_reducible apply nd_tup | with_reducible apply nd_lst)
    case hm => exact Nat.zero_le _
    case hf => exact ⟨_, rfl, rfl⟩
    case ji => decide
    case jl => decide
    rintro v6 d6 H4 B4 o4 rfl
    apply st_put (kk := 0) (nO := o4) (Φ := fun o => o ∈ nOdds)
    case hE => (repeat' first
    | with_reducible exact nd_next | with_reducible exact nd_nil
    | with_reducible apply nd_ret | with_reducible apply nd_seq | with_reducible apply nd_ifS | (with_reducible apply nd_asg (ij := by decide))
    | ((with_reducible apply nd_pu); ((repeat' first
    | with_reducible exact pu_var _ | with_reducible exact pu_non | with_reducible exact pu_bl _ | with_reducible exact pu_int _ | with_reducible exact pu_nil | with_reducible exact pu_next | with_reducible exact pu_yes
    | with_reducible apply pu_seq | with_reducible apply pu_ifS | with_reducible apply pu_ret | with_reducible apply pu_asg
    | with_reducible apply pu_and | with_reducible apply pu_or | with_reducible apply pu_not | with_reducible apply pu_test | with_reducible apply pu_b
    | with_reducible apply pu_andV | with_reducible apply pu_orV | with_reducible apply pu_notV | with_reducible apply pu_if
    | with_reducible apply pu_isi hC | with_reducible apply pu_cb (hr := pu_len) | with_reducible apply pu_cb (hr := pu_all) | with_reducible apply pu_cb (hr := pu_any) | with_reducible apply pu_cb (hr := pu_tupOf) | with_reducible apply pu_cb (hr := pu_lstOf)
    | with_reducible exact pu_dnil
    | exact pu_d1 _ _ _ (rpS ⟨by decide +kernel, by decide +kernel⟩)
    | exact pu_d1 _ _ _ rpI
    | exact pu_d1i _ _ _ (rpS ⟨by decide +kernel, by decide +kernel⟩)
    | exact pu_d2 _ _ _ _ _ _ (by decide +kernel) (rpS ⟨by decide +kernel, by decide +kernel⟩) (rpS ⟨by decide +kernel, by decide +kernel⟩)
    | with_reducible apply pu_op (hr := pu_ixT) | with_reducible apply pu_op (hr := pu_ixL) | with_reducible apply pu_op (hr := pu_eqS) | with_reducible apply pu_op (hr := pu_neS) | with_reducible apply pu_op (hr := pu_in) | with_reducible apply pu_op (hr := pu_isNo) | with_reducible apply pu_op (hr := pu_notNo)
    | with_reducible apply pu_op (hr := pu_cm) | with_reducible apply pu_op (hr := pu_ar) | with_reducible apply pu_op (hr := pu_eqP) | with_reducible apply pu_op (hr := pu_neP) | with_reducible apply pu_op (hr := pu_catT) | with_reducible apply pu_op (hr := pu_catL)
    | with_reducible apply pu_chain pu_cm pu_cm | with_reducible apply pu_lcV | with_reducible apply pu_dcV | with_reducible apply pu_iTup | with_reducible apply pu_iLst
    | with_reducible apply pu_slT | with_reducible apply pu_slL | with_reducible exact pu_noPart | with_reducible exact pu_part _
    | exact pu_str _ ⟨by decide +kernel, by decide +kernel⟩ | with_reducible apply pu_call | with_reducible apply pu_tup | with_reducible apply pu_lst | with_reducible apply pu_cons | (with_reducible_and_instances rfl) | rfl)); done)
    | ((with_reducible apply nd_pt); ((repeat' first
    | with_reducible exact pu_var _ | with_reducible exact pu_non | with_reducible exact pu_bl _ | with_reducible exact pu_int _ | with_reducible exact pu_nil | with_reducible exact pu_next | with_reducible exact pu_yes
    | with_reducible apply pu_seq | with_reducible apply pu_ifS | with_reducible apply pu_ret | with_reducible apply pu_asg
    | with_reducible apply pu_and | with_reducible apply pu_or | with_reducible apply pu_not | with_reducible apply pu_test | with_reducible apply pu_b
    | with_reducible apply pu_andV | with_reducible apply pu_orV | with_reducible apply pu_notV | with_reducible apply pu_if
    | with_reducible apply pu_isi hC | with_reducible apply pu_cb (hr := pu_len) | with_reducible apply pu_cb (hr := pu_all) | with_reducible apply pu_cb (hr := pu_any) | with_reducible apply pu_cb (hr := pu_tupOf) | with_reducible apply pu_cb (hr := pu_lstOf)
    | with_reducible exact pu_dnil
    | exact pu_d1 _ _ _ (rpS ⟨by decide +kernel, by decide +kernel⟩)
    | exact pu_d1 _ _ _ rpI
    | exact pu_d1i _ _ _ (rpS ⟨by decide +kernel, by decide +kernel⟩)
    | exact pu_d2 _ _ _ _ _ _ (by decide +kernel) (rpS ⟨by decide +kernel, by decide +kernel⟩) (rpS ⟨by decide +kernel, by decide +kernel⟩)
    | with_reducible apply pu_op (hr := pu_ixT) | with_reducible apply pu_op (hr := pu_ixL) | with_reducible apply pu_op (hr := pu_eqS) | with_reducible apply pu_op (hr := pu_neS) | with_reducible apply pu_op (hr := pu_in) | with_reducible apply pu_op (hr := pu_isNo) | with_reducible apply pu_op (hr := pu_notNo)
    | with_reducible apply pu_op (hr := pu_cm) | with_reducible apply pu_op (hr := pu_ar) | with_reducible apply pu_op (hr := pu_eqP) | with_reducible apply pu_op (hr := pu_neP) | with_reducible apply pu_op (hr := pu_catT) | with_reducible apply pu_op (hr := pu_catL)
    | with_reducible apply pu_chain pu_cm pu_cm | with_reducible apply pu_lcV | with_reducible apply pu_dcV | with_reducible apply pu_iTup | with_reducible apply pu_iLst
    | with_reducible apply pu_slT | with_reducible apply pu_slL | with_reducible exact pu_noPart | with_reducible exact pu_part _
    | exact pu_str _ ⟨by decide +kernel, by decide +kernel⟩ | with_reducible apply pu_call | with_reducible apply pu_tup | with_reducible apply pu_lst | with_reducible apply pu_cons | (with_reducible_and_instances rfl) | rfl)); done)
    | with_reducible apply nd_if | with_reducible apply nd_test | with_reducible apply nd_call | with_reducible apply nd_cons
    | with_reducible apply nd_op (hr := pu_ar) | with_reducible apply nd_op (hr := pu_cm) | with_reducible apply nd_op (hr := pu_eqS) | with_reducible apply nd_tup | with_reducible apply nd_lst)
    case hm => exact Nat.le_trans (by decide : _ ≤ 10) (by omega)
    case hf => exact ⟨_, rfl, (by decide : 0 < 10), fun d hd => hd⟩
    case hk => show 0 < 5; decide
    intro d H5 B5 o5 ho
    exact fin _ _ H5 d (B5 H ((B12.trans B3).trans B4) hL) ho ⟨_, by omega, o5⟩
  · apply st_ifO (b := false) (nO := o2)
    case pu => (repeat' first
    | with_reducible exact pu_var _ | with_reducible exact pu_non | with_reducible exact pu_bl _ | with_reducible exact pu_int _ | with_reducible exact pu_nil | with_reducible exact pu_next | with_reducible exact pu_yes
    | with_reducible apply pu_seq | with_reducible apply pu_ifS | with_reducible apply pu_ret | with_reducible apply pu_asg
    | with_reducible apply pu_and | with_reducible apply pu_or | with_reducible apply pu_not | with_reducible apply pu_test | with_reducible apply pu_b
    | with_reducible apply pu_andV | with_reducible apply pu_orV | with_reducible apply pu_notV | with_reducible apply pu_if
    | with_reducible apply pu_isi hC | with_reducible apply pu_cb (hr := pu_len) | with_reducible apply pu_cb (hr := pu_all) | with_reducible apply pu_cb (hr := pu_any) | with_reducible apply pu_cb (hr := pu_tupOf) | with_reducible apply pu_cb (hr := pu_lstOf)
    | with_reducible exact pu_dnil
    | exact pu_d1 _ _ _ (rpS ⟨by decide +kernel, by decide +kernel⟩)
    | exact pu_d1 _ _ _ rpI
    | exact pu_d1i _ _ _ (rpS ⟨by decide +kernel, by decide +kernel⟩)
    | exact pu_d2 _ _ _ _ _ _ (by decide +kernel) (rpS ⟨by decide +kernel, by decide +kernel⟩) (rpS ⟨by decide +kernel, by decide +kernel⟩)
    | with_reducible apply pu_op (hr := pu_ixT) | with_reducible apply pu_op (hr := pu_ixL) | with_reducible apply pu_op (hr := pu_eqS) | with_reducible apply pu_op (hr := pu_neS) | with_reducible apply pu_op (hr := pu_in) | with_reducible apply pu_op (hr := pu_isNo) | with_reducible apply pu_op (hr := pu_notNo)
    | with_reducible apply pu_op (hr := pu_cm) | with_reducible apply pu_op (hr := pu_ar) | with_reducible apply pu_op (hr := pu_eqP) | with_reducible apply pu_op (hr := pu_neP) | with_reducible apply pu_op (hr := pu_catT) | with_reducible apply pu_op (hr := pu_catL)
    | with_reducible apply pu_chain pu_cm pu_cm | with_reducible apply pu_lcV | with_reducible apply pu_dcV | with_reducible apply pu_iTup | with_reducible apply pu_iLst
    | with_reducible apply pu_slT | with_reducible apply pu_slL | with_reducible exact pu_noPart | with_reducible exact pu_part _
    | exact pu_str _ ⟨by decide +kernel, by decide +kernel⟩ | with_reducible apply pu_call | with_reducible apply pu_tup | with_reducible apply pu_lst | with_reducible apply pu_cons | (with_reducible_and_instances rfl) | rfl)
    case e => rfl
    case hT => intro z; cases z
    rintro _ H3 B3 o3
    apply st_ifO1 (b := true) (nO := o3)
    case pu => (repeat' first
    | with_reducible exact pu_var _ | with_reducible exact pu_non | with_reducible exact pu_bl _ | with_reducible exact pu_int _ | with_reducible exact pu_nil | with_reducible exact pu_next | with_reducible exact pu_yes
    | with_reducible apply pu_seq | with_reducible apply pu_ifS | with_reducible apply pu_ret | with_reducible apply pu_asg
    | with_reducible apply pu_and | with_reducible apply pu_or | with_reducible apply pu_not | with_reducible apply pu_test | with_reducible apply pu_b
    | with_reducible apply pu_andV | with_reducible apply pu_orV | with_reducible apply pu_notV | with_reducible apply pu_if
    | with_reducible apply pu_isi hC | with_reducible apply pu_cb (hr := pu_len) | with_reducible apply pu_cb (hr := pu_all) | with_reducible apply pu_cb (hr := pu_any) | with_reducible apply pu_cb (hr := pu_tupOf) | with_reducible apply pu_cb (hr := pu_lstOf)
    | with_reducible exact pu_dnil
    | exact pu_d1 _ _ _ (rpS ⟨by decide +kernel, by decide +kernel⟩)
    | exact pu_d1 _ _ _ rpI
    | exact pu_d1i _ _ _ (rpS ⟨by decide +kernel, by decide +kernel⟩)
    | exact pu_d2 _ _ _ _ _ _ (by decide +kernel) (rpS ⟨by decide +kernel, by decide +kernel⟩) (rpS ⟨by decide +kernel, by decide +kernel⟩)
    | with_reducible apply pu_op (hr := pu_ixT) | with_reducible apply pu_op (hr := pu_ixL) | with_reducible apply pu_op (hr := pu_eqS) | with_reducible apply pu_op (hr := pu_neS) | with_reducible apply pu_op (hr := pu_in) | with_reducible apply pu_op (hr := pu_isNo) | with_reducible apply pu_op (hr := pu_notNo)
    | with_reducible apply pu_op (hr := pu_cm) | with_reducible apply pu_op (hr := pu_ar) | with_reducible apply pu_op (hr := pu_eqP) | with_reducible apply pu_op (hr := pu_neP) | with_reducible apply pu_op (hr := pu_catT) | with_reducible apply pu_op (hr := pu_catL)
    | with_reducible apply pu_chain pu_cm pu_cm | with_reducible apply pu_lcV | with_reducible apply pu_dcV | with_reducible apply pu_iTup | with_reducible apply pu_iLst
    | with_reducible apply pu_slT | with_reducible apply pu_slL | with_reducible exact pu_noPart | with_reducible exact pu_part _
    | exact pu_str _ ⟨by decide +kernel, by decide +kernel⟩ | with_reducible apply pu_call | with_reducible apply pu_tup | with_reducible apply pu_lst | with_reducible apply pu_cons | (with_reducible_and_instances rfl) | rfl)
    case e => rfl
    case hF => intro z; cases z
    rintro _ H4 B4 o4
    apply st_put (kk := 1) (nO := o4) (Φ := fun o => oddP rows ms 1 o)
    case hE => (repeat' first
    | with_reducible exact nd_next | with_reducible exact nd_nil
    | with_reducible apply nd_ret | with_reducible apply nd_seq | with_reducible apply nd_ifS | (with_reducible apply nd_asg (ij := by decide))
    | ((with_reducible apply nd_pu); ((repeat' first
    | with_reducible exact pu_var _ | with_reducible exact pu_non | with_reducible exact pu_bl _ | with_reducible exact pu_int _ | with_reducible exact pu_nil | with_reducible exact pu_next | with_reducible exact pu_yes
    | with_reducible apply pu_seq | with_reducible apply pu_ifS | with_reducible apply pu_ret | with_reducible apply pu_asg
    | with_reducible apply pu_and | with_reducible apply pu_or | with_reducible apply pu_not | with_reducible apply pu_test | with_reducible apply pu_b
    | with_reducible apply pu_andV | with_reducible apply pu_orV | with_reducible apply pu_notV | with_reducible apply pu_if
    | with_reducible apply pu_isi hC | with_reducible apply pu_cb (hr := pu_len) | with_reducible apply pu_cb (hr := pu_all) | with_reducible apply pu_cb (hr := pu_any) | with_reducible apply pu_cb (hr := pu_tupOf) | with_reducible apply pu_cb (hr := pu_lstOf)
    | with_reducible exact pu_dnil
    | exact pu_d1 _ _ _ (rpS ⟨by decide +kernel, by decide +kernel⟩)
    | exact pu_d1 _ _ _ rpI
    | exact pu_d1i _ _ _ (rpS ⟨by decide +kernel, by decide +kernel⟩)
    | exact pu_d2 _ _ _ _ _ _ (by decide +kernel) (rpS ⟨by decide +kernel, by decide +kernel⟩) (rpS ⟨by decide +kernel, by decide +kernel⟩)
    | with_reducible apply pu_op (hr := pu_ixT) | with_reducible apply pu_op (hr := pu_ixL) | with_reducible apply pu_op (hr := pu_eqS) | with_reducible apply pu_op (hr := pu_neS) | with_reducible apply pu_op (hr := pu_in) | with_reducible apply pu_op (hr := pu_isNo) | with_reducible apply pu_op (hr := pu_notNo)
    | with_reducible apply pu_op (hr := pu_cm) | with_reducible apply pu_op (hr := pu_ar) | with_reducible apply pu_op (hr := pu_eqP) | with_reducible apply pu_op (hr := pu_neP) | with_reducible apply pu_op (hr := pu_catT) | with_reducible apply pu_op (hr := pu_catL)
    | with_reducible apply pu_chain pu_cm pu_cm | with_reducible apply pu_lcV | with_reducible apply pu_dcV | with_reducible apply pu_iTup | with_reducible apply pu_iLst
    | with_reducible apply pu_slT | with_reducible apply pu_slL | with_reducible exact pu_noPart | with_reducible exact pu_part _
    | exact pu_str _ ⟨by decide +kernel, by decide +kernel⟩ | with_reducible apply pu_call | with_reducible apply pu_tup | with_reducible apply pu_lst | with_reducible apply pu_cons | (with_reducible_and_instances rfl) | rfl)); done)
    | ((with_reducible apply nd_pt); ((repeat' first
    | with_reducible exact pu_var _ | with_reducible exact pu_non | with_reducible exact pu_bl _ | with_reducible exact pu_int _ | with_reducible exact pu_nil | with_reducible exact pu_next | with_reducible exact pu_yes
    | with_reducible apply pu_seq | with_reducible apply pu_ifS | with_reducible apply pu_ret | with_reducible apply pu_asg
    | with_reducible apply pu_and | with_reducible apply pu_or | with_reducible apply pu_not | with_reducible apply pu_test | with_reducible apply pu_b
    | with_reducible apply pu_andV | with_reducible apply pu_orV | with_reducible apply pu_notV | with_reducible apply pu_if
    | with_reducible apply pu_isi hC | with_reducible apply pu_cb (hr := pu_len) | with_reducible apply pu_cb (hr := pu_all) | with_reducible apply pu_cb (hr := pu_any) | with_reducible apply pu_cb (hr := pu_tupOf) | with_reducible apply pu_cb (hr := pu_lstOf)
    | with_reducible exact pu_dnil
    | exact pu_d1 _ _ _ (rpS ⟨by decide +kernel, by decide +kernel⟩)
    | exact pu_d1 _ _ _ rpI
    | exact pu_d1i _ _ _ (rpS ⟨by decide +kernel, by decide +kernel⟩)
    | exact pu_d2 _ _ _ _ _ _ (by decide +kernel) (rpS ⟨by decide +kernel, by decide +kernel⟩) (rpS ⟨by decide +kernel, by decide +kernel⟩)
    | with_reducible apply pu_op (hr := pu_ixT) | with_reducible apply pu_op (hr := pu_ixL) | with_reducible apply pu_op (hr := pu_eqS) | with_reducible apply pu_op (hr := pu_neS) | with_reducible apply pu_op (hr := pu_in) | with_reducible apply pu_op (hr := pu_isNo) | with_reducible apply pu_op (hr := pu_notNo)
    | with_reducible apply pu_op (hr := pu_cm) | with_reducible apply pu_op (hr := pu_ar) | with_reducible apply pu_op (hr := pu_eqP) | with_reducible apply pu_op (hr := pu_neP) | with_reducible apply pu_op (hr := pu_catT) | with_reducible apply pu_op (hr := pu_catL)
    | with_reducible apply pu_chain pu_cm pu_cm | with_reducible apply pu_lcV | with_reducible apply pu_dcV | with_reducible apply pu_iTup | with_reducible apply pu_iLst
    | with_reducible apply pu_slT | with_reducible apply pu_slL | with_reducible exact pu_noPart | with_reducible exact pu_part _
    | exact pu_str _ ⟨by decide +kernel, by decide +kernel⟩ | with_reducible apply pu_call | with_reducible apply pu_tup | with_reducible apply pu_lst | with_reducible apply pu_cons | (with_reducible_and_instances rfl) | rfl)); done)
    | with_reducible apply nd_if | with_reducible apply nd_test | with_reducible apply nd_call | with_reducible apply nd_cons
    | with_reducible apply nd_op (hr := pu_ar) | with_reducible apply nd_op (hr := pu_cm) | with_reducible apply nd_op (hr := pu_eqS) | with_reducible apply nd_tup | with_reducible apply nd_lst)
    case hm => exact Nat.le_trans (by decide : _ ≤ 20) (by omega)
    case hf => obtain ⟨s, b, c, t, rest, hrows⟩ := hx; subst hrows; exact ⟨_, rfl, by simpa using hr4, fun o ho => ⟨_, _, _, _, _, rfl, ho⟩⟩
    case hk => show 1 < 5; decide
    intro d HH BB oo ho
    exact fin _ _ HH d (BB H (((B12.trans B3).trans B4)) hL) ho ⟨_, by omega, oo⟩
  · apply st_ifO (b := false) (nO := o2)
    case pu => (repeat' first
    | with_reducible exact pu_var _ | with_reducible exact pu_non | with_reducible exact pu_bl _ | with_reducible exact pu_int _ | with_reducible exact pu_nil | with_reducible exact pu_next | with_reducible exact pu_yes
    | with_reducible apply pu_seq | with_reducible apply pu_ifS | with_reducible apply pu_ret | with_reducible apply pu_asg
    | with_reducible apply pu_and | with_reducible apply pu_or | with_reducible apply pu_not | with_reducible apply pu_test | with_reducible apply pu_b
    | with_reducible apply pu_andV | with_reducible apply pu_orV | with_reducible apply pu_notV | with_reducible apply pu_if
    | with_reducible apply pu_isi hC | with_reducible apply pu_cb (hr := pu_len) | with_reducible apply pu_cb (hr := pu_all) | with_reducible apply pu_cb (hr := pu_any) | with_reducible apply pu_cb (hr := pu_tupOf) | with_reducible apply pu_cb (hr := pu_lstOf)
    | with_reducible exact pu_dnil
    | exact pu_d1 _ _ _ (rpS ⟨by decide +kernel, by decide +kernel⟩)
    | exact pu_d1 _ _ _ rpI
    | exact pu_d1i _ _ _ (rpS ⟨by decide +kernel, by decide +kernel⟩)
    | exact pu_d2 _ _ _ _ _ _ (by decide +kernel) (rpS ⟨by decide +kernel, by decide +kernel⟩) (rpS ⟨by decide +kernel, by decide +kernel⟩)
    | with_reducible apply pu_op (hr := pu_ixT) | with_reducible apply pu_op (hr := pu_ixL) | with_reducible apply pu_op (hr := pu_eqS) | with_reducible apply pu_op (hr := pu_neS) | with_reducible apply pu_op (hr := pu_in) | with_reducible apply pu_op (hr := pu_isNo) | with_reducible apply pu_op (hr := pu_notNo)
    | with_reducible apply pu_op (hr := pu_cm) | with_reducible apply pu_op (hr := pu_ar) | with_reducible apply pu_op (hr := pu_eqP) | with_reducible apply pu_op (hr := pu_neP) | with_reducible apply pu_op (hr := pu_catT) | with_reducible apply pu_op (hr := pu_catL)
    | with_reducible apply pu_chain pu_cm pu_cm | with_reducible apply pu_lcV | with_reducible apply pu_dcV | with_reducible apply pu_iTup | with_reducible apply pu_iLst
    | with_reducible apply pu_slT | with_reducible apply pu_slL | with_reducible exact pu_noPart | with_reducible exact pu_part _
    | exact pu_str _ ⟨by decide +kernel, by decide +kernel⟩ | with_reducible apply pu_call | with_reducible apply pu_tup | with_reducible apply pu_lst | with_reducible apply pu_cons | (with_reducible_and_instances rfl) | rfl)
    case e => rfl
    case hT => intro z; cases z
    rintro _ H3 B3 o3
    apply st_ifO1 (b := false) (nO := o3)
    case pu => (repeat' first
    | with_reducible exact pu_var _ | with_reducible exact pu_non | with_reducible exact pu_bl _ | with_reducible exact pu_int _ | with_reducible exact pu_nil | with_reducible exact pu_next | with_reducible exact pu_yes
    | with_reducible apply pu_seq | with_reducible apply pu_ifS | with_reducible apply pu_ret | with_reducible apply pu_asg
    | with_reducible apply pu_and | with_reducible apply pu_or | with_reducible apply pu_not | with_reducible apply pu_test | with_reducible apply pu_b
    | with_reducible apply pu_andV | with_reducible apply pu_orV | with_reducible apply pu_notV | with_reducible apply pu_if
    | with_reducible apply pu_isi hC | with_reducible apply pu_cb (hr := pu_len) | with_reducible apply pu_cb (hr := pu_all) | with_reducible apply pu_cb (hr := pu_any) | with_reducible apply pu_cb (hr := pu_tupOf) | with_reducible apply pu_cb (hr := pu_lstOf)
    | with_reducible exact pu_dnil
    | exact pu_d1 _ _ _ (rpS ⟨by decide +kernel, by decide +kernel⟩)
    | exact pu_d1 _ _ _ rpI
    | exact pu_d1i _ _ _ (rpS ⟨by decide +kernel, by decide +kernel⟩)
    | exact pu_d2 _ _ _ _ _ _ (by decide +kernel) (rpS ⟨by decide +kernel, by decide +kernel⟩) (rpS ⟨by decide +kernel, by decide +kernel⟩)
    | with_reducible apply pu_op (hr := pu_ixT) | with_reducible apply pu_op (hr := pu_ixL) | with_reducible apply pu_op (hr := pu_eqS) | with_reducible apply pu_op (hr := pu_neS) | with_reducible apply pu_op (hr := pu_in) | with_reducible apply pu_op (hr := pu_isNo) | with_reducible apply pu_op (hr := pu_notNo)
    | with_reducible apply pu_op (hr := pu_cm) | with_reducible apply pu_op (hr := pu_ar) | with_reducible apply pu_op (hr := pu_eqP) | with_reducible apply pu_op (hr := pu_neP) | with_reducible apply pu_op (hr := pu_catT) | with_reducible apply pu_op (hr := pu_catL)
    | with_reducible apply pu_chain pu_cm pu_cm | with_reducible apply pu_lcV | with_reducible apply pu_dcV | with_reducible apply pu_iTup | with_reducible apply pu_iLst
    | with_reducible apply pu_slT | with_reducible apply pu_slL | with_reducible exact pu_noPart | with_reducible exact pu_part _
    | exact pu_str _ ⟨by decide +kernel, by decide +kernel⟩ | with_reducible apply pu_call | with_reducible apply pu_tup | with_reducible apply pu_lst | with_reducible apply pu_cons | (with_reducible_and_instances rfl) | rfl)
    case e => rfl
    case hT => intro z; cases z
    rintro _ H4 B4 o4
    apply st_ifO1 (b := true) (nO := o4)
    case pu => (repeat' first
    | with_reducible exact pu_var _ | with_reducible exact pu_non | with_reducible exact pu_bl _ | with_reducible exact pu_int _ | with_reducible exact pu_nil | with_reducible exact pu_next | with_reducible exact pu_yes
    | with_reducible apply pu_seq | with_reducible apply pu_ifS | with_reducible apply pu_ret | with_reducible apply pu_asg
    | with_reducible apply pu_and | with_reducible apply pu_or | with_reducible apply pu_not | with_reducible apply pu_test | with_reducible apply pu_b
    | with_reducible apply pu_andV | with_reducible apply pu_orV | with_reducible apply pu_notV | with_reducible apply pu_if
    | with_reducible apply pu_isi hC | with_reducible apply pu_cb (hr := pu_len) | with_reducible apply pu_cb (hr := pu_all) | with_reducible apply pu_cb (hr := pu_any) | with_reducible apply pu_cb (hr := pu_tupOf) | with_reducible apply pu_cb (hr := pu_lstOf)
    | with_reducible exact pu_dnil
    | exact pu_d1 _ _ _ (rpS ⟨by decide +kernel, by decide +kernel⟩)
    | exact pu_d1 _ _ _ rpI
    | exact pu_d1i _ _ _ (rpS ⟨by decide +kernel, by decide +kernel⟩)
    | exact pu_d2 _ _ _ _ _ _ (by decide +kernel) (rpS ⟨by decide +kernel, by decide +kernel⟩) (rpS ⟨by decide +kernel, by decide +kernel⟩)
    | with_reducible apply pu_op (hr := pu_ixT) | with_reducible apply pu_op (hr := pu_ixL) | with_reducible apply pu_op (hr := pu_eqS) | with_reducible apply pu_op (hr := pu_neS) | with_reducible apply pu_op (hr := pu_in) | with_reducible apply pu_op (hr := pu_isNo) | with_reducible apply pu_op (hr := pu_notNo)
    | with_reducible apply pu_op (hr := pu_cm) | with_reducible apply pu_op (hr := pu_ar) | with_reducible apply pu_op (hr := pu_eqP) | with_reducible apply pu_op (hr := pu_neP) | with_reducible apply pu_op (hr := pu_catT) | with_reducible apply pu_op (hr := pu_catL)
    | with_reducible apply pu_chain pu_cm pu_cm | with_reducible apply pu_lcV | with_reducible apply pu_dcV | with_reducible apply pu_iTup | with_reducible apply pu_iLst
    | with_reducible apply pu_slT | with_reducible apply pu_slL | with_reducible exact pu_noPart | with_reducible exact pu_part _
    | exact pu_str _ ⟨by decide +kernel, by decide +kernel⟩ | with_reducible apply pu_call | with_reducible apply pu_tup | with_reducible apply pu_lst | with_reducible apply pu_cons | (with_reducible_and_instances rfl) | rfl)
    case e => rfl
    case hF => intro z; cases z
    rintro _ H5 B5 o5
    apply st_put (kk := 2) (nO := o5) (Φ := fun o => oddP rows ms 2 o)
    case hE => (repeat' first
    | with_reducible exact nd_next | with_reducible exact nd_nil
    | with_reducible apply nd_ret | with_reducible apply nd_seq | with_reducible apply nd_ifS | (with_reducible apply nd_asg (ij := by decide))
    | ((with_reducible apply nd_pu); ((repeat' first
    | with_reducible exact pu_var _ | with_reducible exact pu_non | with_reducible exact pu_bl _ | with_reducible exact pu_int _ | with_reducible exact pu_nil | with_reducible exact pu_next | with_reducible exact pu_yes
    | with_reducible apply pu_seq | with_reducible apply pu_ifS | with_reducible apply pu_ret | with_reducible apply pu_asg
    | with_reducible apply pu_and | with_reducible apply pu_or | with_reducible apply pu_not | with_reducible apply pu_test | with_reducible apply pu_b
    | with_reducible apply pu_andV | with_reducible apply pu_orV | with_reducible apply pu_notV | with_reducible apply pu_if
    | with_reducible apply pu_isi hC | with_reducible apply pu_cb (hr := pu_len) | with_reducible apply pu_cb (hr := pu_all) | with_reducible apply pu_cb (hr := pu_any) | with_reducible apply pu_cb (hr := pu_tupOf) | with_reducible apply pu_cb (hr := pu_lstOf)
    | with_reducible exact pu_dnil
    | exact pu_d1 _ _ _ (rpS ⟨by decide +kernel, by decide +kernel⟩)
    | exact pu_d1 _ _ _ rpI
    | exact pu_d1i _ _ _ (rpS ⟨by decide +kernel, by decide +kernel⟩)
    | exact pu_d2 _ _ _ _ _ _ (by decide +kernel) (rpS ⟨by decide +kernel, by decide +kernel⟩) (rpS ⟨by decide +kernel, by decide +kernel⟩)
    | with_reducible apply pu_op (hr := pu_ixT) | with_reducible apply pu_op (hr := pu_ixL) | with_reducible apply pu_op (hr := pu_eqS) | with_reducible apply pu_op (hr := pu_neS) | with_reducible apply pu_op (hr := pu_in) | with_reducible apply pu_op (hr := pu_isNo) | with_reducible apply pu_op (hr := pu_notNo)
    | with_reducible apply pu_op (hr := pu_cm) | with_reducible apply pu_op (hr := pu_ar) | with_reducible apply pu_op (hr := pu_eqP) | with_reducible apply pu_op (hr := pu_neP) | with_reducible apply pu_op (hr := pu_catT) | with_reducible apply pu_op (hr := pu_catL)
    | with_reducible apply pu_chain pu_cm pu_cm | with_reducible apply pu_lcV | with_reducible apply pu_dcV | with_reducible apply pu_iTup | with_reducible apply pu_iLst
    | with_reducible apply pu_slT | with_reducible apply pu_slL | with_reducible exact pu_noPart | with_reducible exact pu_part _
    | exact pu_str _ ⟨by decide +kernel, by decide +kernel⟩ | with_reducible apply pu_call | with_reducible apply pu_tup | with_reducible apply pu_lst | with_reducible apply pu_cons | (with_reducible_and_instances rfl) | rfl)); done)
    | ((with_reducible apply nd_pt); ((repeat' first
    | with_reducible exact pu_var _ | with_reducible exact pu_non | with_reducible exact pu_bl _ | with_reducible exact pu_int _ | with_reducible exact pu_nil | with_reducible exact pu_next | with_reducible exact pu_yes
    | with_reducible apply pu_seq | with_reducible apply pu_ifS | with_reducible apply pu_ret | with_reducible apply pu_asg
    | with_reducible apply pu_and | with_reducible apply pu_or | with_reducible apply pu_not | with_reducible apply pu_test | with_reducible apply pu_b
    | with_reducible apply pu_andV | with_reducible apply pu_orV | with_reducible apply pu_notV | with_reducible apply pu_if
    | with_reducible apply pu_isi hC | with_reducible apply pu_cb (hr := pu_len) | with_reducible apply pu_cb (hr := pu_all) | with_reducible apply pu_cb (hr := pu_any) | with_reducible apply pu_cb (hr := pu_tupOf) | with_reducible apply pu_cb (hr := pu_lstOf)
    | with_reducible exact pu_dnil
    | exact pu_d1 _ _ _ (rpS ⟨by decide +kernel, by decide +kernel⟩)
    | exact pu_d1 _ _ _ rpI
    | exact pu_d1i _ _ _ (rpS ⟨by decide +kernel, by decide +kernel⟩)
    | exact pu_d2 _ _ _ _ _ _ (by decide +kernel) (rpS ⟨by decide +kernel, by decide +kernel⟩) (rpS ⟨by decide +kernel, by decide +kernel⟩)
    | with_reducible apply pu_op (hr := pu_ixT) | with_reducible apply pu_op (hr := pu_ixL) | with_reducible apply pu_op (hr := pu_eqS) | with_reducible apply pu_op (hr := pu_neS) | with_reducible apply pu_op (hr := pu_in) | with_reducible apply pu_op (hr := pu_isNo) | with_reducible apply pu_op (hr := pu_notNo)
    | with_reducible apply pu_op (hr := pu_cm) | with_reducible apply pu_op (hr := pu_ar) | with_reducible apply pu_op (hr := pu_eqP) | with_reducible apply pu_op (hr := pu_neP) | with_reducible apply pu_op (hr := pu_catT) | with_reducible apply pu_op (hr := pu_catL)
    | with_reducible apply pu_chain pu_cm pu_cm | with_reducible apply pu_lcV | with_reducible apply pu_dcV | with_reducible apply pu_iTup | with_reducible apply pu_iLst
    | with_reducible apply pu_slT | with_reducible apply pu_slL | with_reducible exact pu_noPart | with_reducible exact pu_part _
    | exact pu_str _ ⟨by decide +kernel, by decide +kernel⟩ | with_reducible apply pu_call | with_reducible apply pu_tup | with_reducible apply pu_lst | with_reducible apply pu_cons | (with_reducible_and_instances rfl) | rfl)); done)
    | with_reducible apply nd_if | with_reducible apply nd_test | with_reducible apply nd_call | with_reducible apply nd_cons
    | with_reducible apply nd_op (hr := pu_ar) | with_reducible apply nd_op (hr := pu_cm) | with_reducible apply nd_op (hr := pu_eqS) | with_reducible apply nd_tup | with_reducible apply nd_lst)
    case hm => exact Nat.le_trans (by decide : _ ≤ 20) (by omega)
    case hf => obtain ⟨s, b, c, t, rest, hrows⟩ := hx; exact ⟨_, rfl, _, rfl, _, _, _, _, _, hrows, hr4, hm3, hrow, fun o ho => .inl ho, .inr (.inl rfl), fun x hx => .inr (.inr (.inl ⟨x, hx, rfl⟩)), fun x hx ht => .inr (.inr (.inr ⟨x, hx, ht, rfl⟩))⟩
    case hk => show 2 < 5; decide
    intro d HH BB oo ho
    exact fin _ _ HH d (BB H ((((B12.trans B3).trans B4).trans B5)) hL) ho ⟨_, by omega, oo⟩
  · apply st_ifO (b := false) (nO := o2)
    case pu => (repeat' first
    | with_reducible exact pu_var _ | with_reducible exact pu_non | with_reducible exact pu_bl _ | with_reducible exact pu_int _ | with_reducible exact pu_nil | with_reducible exact pu_next | with_reducible exact pu_yes
    | with_reducible apply pu_seq | with_reducible apply pu_ifS | with_reducible apply pu_ret | with_reducible apply pu_asg
    | with_reducible apply pu_and | with_reducible apply pu_or | with_reducible apply pu_not | with_reducible apply pu_test | with_reducible apply pu_b
    | with_reducible apply pu_andV | with_reducible apply pu_orV | with_reducible apply pu_notV | with_reducible apply pu_if
    | with_reducible apply pu_isi hC | with_reducible apply pu_cb (hr := pu_len) | with_reducible apply pu_cb (hr := pu_all) | with_reducible apply pu_cb (hr := pu_any) | with_reducible apply pu_cb (hr := pu_tupOf) | with_reducible apply pu_cb (hr := pu_lstOf)
    | with_reducible exact pu_dnil
    | exact pu_d1 _ _ _ (rpS ⟨by decide +kernel, by decide +kernel⟩)
    | exact pu_d1 _ _ _ rpI
    | exact pu_d1i _ _ _ (rpS ⟨by decide +kernel, by decide +kernel⟩)
    | exact pu_d2 _ _ _ _ _ _ (by decide +kernel) (rpS ⟨by decide +kernel, by decide +kernel⟩) (rpS ⟨by decide +kernel, by decide +kernel⟩)
    | with_reducible apply pu_op (hr := pu_ixT) | with_reducible apply pu_op (hr := pu_ixL) | with_reducible apply pu_op (hr := pu_eqS) | with_reducible apply pu_op (hr := pu_neS) | with_reducible apply pu_op (hr := pu_in) | with_reducible apply pu_op (hr := pu_isNo) | with_reducible apply pu_op (hr := pu_notNo)
    | with_reducible apply pu_op (hr := pu_cm) | with_reducible apply pu_op (hr := pu_ar) | with_reducible apply pu_op (hr := pu_eqP) | with_reducible apply pu_op (hr := pu_neP) | with_reducible apply pu_op (hr := pu_catT) | with_reducible apply pu_op (hr := pu_catL)
    | with_reducible apply pu_chain pu_cm pu_cm | with_reducible apply pu_lcV | with_reducible apply pu_dcV | with_reducible apply pu_iTup | with_reducible apply pu_iLst
    | with_reducible apply pu_slT | with_reducible apply pu_slL | with_reducible exact pu_noPart | with_reducible exact pu_part _
    | exact pu_str _ ⟨by decide +kernel, by decide +kernel⟩ | with_reducible apply pu_call | with_reducible apply pu_tup | with_reducible apply pu_lst | with_reducible apply pu_cons | (with_reducible_and_instances rfl) | rfl)
    case e => rfl
    case hT => intro z; cases z
    rintro _ H3 B3 o3
    apply st_ifO1 (b := false) (nO := o3)
    case pu => (repeat' first
    | with_reducible exact pu_var _ | with_reducible exact pu_non | with_reducible exact pu_bl _ | with_reducible exact pu_int _ | with_reducible exact pu_nil | with_reducible exact pu_next | with_reducible exact pu_yes
    | with_reducible apply pu_seq | with_reducible apply pu_ifS | with_reducible apply pu_ret | with_reducible apply pu_asg
    | with_reducible apply pu_and | with_reducible apply pu_or | with_reducible apply pu_not | with_reducible apply pu_test | with_reducible apply pu_b
    | with_reducible apply pu_andV | with_reducible apply pu_orV | with_reducible apply pu_notV | with_reducible apply pu_if
    | with_reducible apply pu_isi hC | with_reducible apply pu_cb (hr := pu_len) | with_reducible apply pu_cb (hr := pu_all) | with_reducible apply pu_cb (hr := pu_any) | with_reducible apply pu_cb (hr := pu_tupOf) | with_reducible apply pu_cb (hr := pu_lstOf)
    | with_reducible exact pu_dnil
    | exact pu_d1 _ _ _ (rpS ⟨by decide +kernel, by decide +kernel⟩)
    | exact pu_d1 _ _ _ rpI
    | exact pu_d1i _ _ _ (rpS ⟨by decide +kernel, by decide +kernel⟩)
    | exact pu_d2 _ _ _ _ _ _ (by decide +kernel) (rpS ⟨by decide +kernel, by decide +kernel⟩) (rpS ⟨by decide +kernel, by decide +kernel⟩)
    | with_reducible apply pu_op (hr := pu_ixT) | with_reducible apply pu_op (hr := pu_ixL) | with_reducible apply pu_op (hr := pu_eqS) | with_reducible apply pu_op (hr := pu_neS) | with_reducible apply pu_op (hr := pu_in) | with_reducible apply pu_op (hr := pu_isNo) | with_reducible apply pu_op (hr := pu_notNo)
    | with_reducible apply pu_op (hr := pu_cm) | with_reducible apply pu_op (hr := pu_ar) | with_reducible apply pu_op (hr := pu_eqP) | with_reducible apply pu_op (hr := pu_neP) | with_reducible apply pu_op (hr := pu_catT) | with_reducible apply pu_op (hr := pu_catL)
    | with_reducible apply pu_chain pu_cm pu_cm | with_reducible apply pu_lcV | with_reducible apply pu_dcV | with_reducible apply pu_iTup | with_reducible apply pu_iLst
    | with_reducible apply pu_slT | with_reducible apply pu_slL | with_reducible exact pu_noPart | with_reducible exact pu_part _
    | exact pu_str _ ⟨by decide +kernel, by decide +kernel⟩ | with_reducible apply pu_call | with_reducible apply pu_tup | with_reducible apply pu_lst | with_reducible apply pu_cons | (with_reducible_and_instances rfl) | rfl)
    case e => rfl
    case hT => intro z; cases z
    rintro _ H4 B4 o4
    apply st_ifO1 (b := false) (nO := o4)
    case pu => (repeat' first
    | with_reducible exact pu_var _ | with_reducible exact pu_non | with_reducible exact pu_bl _ | with_reducible exact pu_int _ | with_reducible exact pu_nil | with_reducible exact pu_next | with_reducible exact pu_yes
    | with_reducible apply pu_seq | with_reducible apply pu_ifS | with_reducible apply pu_ret | with_reducible apply pu_asg
    | with_reducible apply pu_and | with_reducible apply pu_or | with_reducible apply pu_not | with_reducible apply pu_test | with_reducible apply pu_b
    | with_reducible apply pu_andV | with_reducible apply pu_orV | with_reducible apply pu_notV | with_reducible apply pu_if
    | with_reducible apply pu_isi hC | with_reducible apply pu_cb (hr := pu_len) | with_reducible apply pu_cb (hr := pu_all) | with_reducible apply pu_cb (hr := pu_any) | with_reducible apply pu_cb (hr := pu_tupOf) | with_reducible apply pu_cb (hr := pu_lstOf)
    | with_reducible exact pu_dnil
    | exact pu_d1 _ _ _ (rpS ⟨by decide +kernel, by decide +kernel⟩)
    | exact pu_d1 _ _ _ rpI
    | exact pu_d1i _ _ _ (rpS ⟨by decide +kernel, by decide +kernel⟩)
    | exact pu_d2 _ _ _ _ _ _ (by decide +kernel) (rpS ⟨by decide +kernel, by decide +kernel⟩) (rpS ⟨by decide +kernel, by decide +kernel⟩)
    | with_reducible apply pu_op (hr := pu_ixT) | with_reducible apply pu_op (hr := pu_ixL) | with_reducible apply pu_op (hr := pu_eqS) | with_reducible apply pu_op (hr := pu_neS) | with_reducible apply pu_op (hr := pu_in) | with_reducible apply pu_op (hr := pu_isNo) | with_reducible apply pu_op (hr := pu_notNo)
    | with_reducible apply pu_op (hr := pu_cm) | with_reducible apply pu_op (hr := pu_ar) | with_reducible apply pu_op (hr := pu_eqP) | with_reducible apply pu_op (hr := pu_neP) | with_reducible apply pu_op (hr := pu_catT) | with_reducible apply pu_op (hr := pu_catL)
    | with_reducible apply pu_chain pu_cm pu_cm | with_reducible apply pu_lcV | with_reducible apply pu_dcV | with_reducible apply pu_iTup | with_reducible apply pu_iLst
    | with_reducible apply pu_slT | with_reducible apply pu_slL | with_reducible exact pu_noPart | with_reducible exact pu_part _
    | exact pu_str _ ⟨by decide +kernel, by decide +kernel⟩ | with_reducible apply pu_call | with_reducible apply pu_tup | with_reducible apply pu_lst | with_reducible apply pu_cons | (with_reducible_and_instances rfl) | rfl)
    case e => rfl
    case hT => intro z; cases z
    rintro _ H5 B5 o5
    apply st_ifO1 (b := true) (nO := o5)
    case pu => (repeat' first
    | with_reducible exact pu_var _ | with_reducible exact pu_non | with_reducible exact pu_bl _ | with_reducible exact pu_int _ | with_reducible exact pu_nil | with_reducible exact pu_next | with_reducible exact pu_yes
    | with_reducible apply pu_seq | with_reducible apply pu_ifS | with_reducible apply pu_ret | with_reducible apply pu_asg
    | with_reducible apply pu_and | with_reducible apply pu_or | with_reducible apply pu_not | with_reducible apply pu_test | with_reducible apply pu_b
    | with_reducible apply pu_andV | with_reducible apply pu_orV | with_reducible apply pu_notV | with_reducible apply pu_if
    | with_reducible apply pu_isi hC | with_reducible apply pu_cb (hr := pu_len) | with_reducible apply pu_cb (hr := pu_all) | with_reducible apply pu_cb (hr := pu_any) | with_reducible apply pu_cb (hr := pu_tupOf) | with_reducible apply pu_cb (hr := pu_lstOf)
    | with_reducible exact pu_dnil
    | exact pu_d1 _ _ _ (rpS ⟨by decide +kernel, by decide +kernel⟩)
    | exact pu_d1 _ _ _ rpI
    | exact pu_d1i _ _ _ (rpS ⟨by decide +kernel, by decide +kernel⟩)
    | exact pu_d2 _ _ _ _ _ _ (by decide +kernel) (rpS ⟨by decide +kernel, by decide +kernel⟩) (rpS ⟨by decide +kernel, by decide +kernel⟩)
    | with_reducible apply pu_op (hr := pu_ixT) | with_reducible apply pu_op (hr := pu_ixL) | with_reducible apply pu_op (hr := pu_eqS) | with_reducible apply pu_op (hr := pu_neS) | with_reducible apply pu_op (hr := pu_in) | with_reducible apply pu_op (hr := pu_isNo) | with_reducible apply pu_op (hr := pu_notNo)
    | with_reducible apply pu_op (hr := pu_cm) | with_reducible apply pu_op (hr := pu_ar) | with_reducible apply pu_op (hr := pu_eqP) | with_reducible apply pu_op (hr := pu_neP) | with_reducible apply pu_op (hr := pu_catT) | with_reducible apply pu_op (hr := pu_catL)
    | with_reducible apply pu_chain pu_cm pu_cm | with_reducible apply pu_lcV | with_reducible apply pu_dcV | with_reducible apply pu_iTup | with_reducible apply pu_iLst
    | with_reducible apply pu_slT | with_reducible apply pu_slL | with_reducible exact pu_noPart | with_reducible exact pu_part _
    | exact pu_str _ ⟨by decide +kernel, by decide +kernel⟩ | with_reducible apply pu_call | with_reducible apply pu_tup | with_reducible apply pu_lst | with_reducible apply pu_cons | (with_reducible_and_instances rfl) | rfl)
    case e => rfl
    case hF => intro z; cases z
    rintro _ H6 B6 o6
    have hn := kr.gr.n
    simp only [prefs, List.mem_cons, List.not_mem_nil, or_false] at hn
    apply st_put (kk := 3) (nO := o6) (Φ := fun o => oddP rows ms 3 o)
    case hE => (repeat' first
    | with_reducible exact nd_next | with_reducible exact nd_nil
    | with_reducible apply nd_ret | with_reducible apply nd_seq | with_reducible apply nd_ifS | (with_reducible apply nd_asg (ij := by decide))
    | ((with_reducible apply nd_pu); ((repeat' first
    | with_reducible exact pu_var _ | with_reducible exact pu_non | with_reducible exact pu_bl _ | with_reducible exact pu_int _ | with_reducible exact pu_nil | with_reducible exact pu_next | with_reducible exact pu_yes
    | with_reducible apply pu_seq | with_reducible apply pu_ifS | with_reducible apply pu_ret | with_reducible apply pu_asg
    | with_reducible apply pu_and | with_reducible apply pu_or | with_reducible apply pu_not | with_reducible apply pu_test | with_reducible apply pu_b
    | with_reducible apply pu_andV | with_reducible apply pu_orV | with_reducible apply pu_notV | with_reducible apply pu_if
    | with_reducible apply pu_isi hC | with_reducible apply pu_cb (hr := pu_len) | with_reducible apply pu_cb (hr := pu_all) | with_reducible apply pu_cb (hr := pu_any) | with_reducible apply pu_cb (hr := pu_tupOf) | with_reducible apply pu_cb (hr := pu_lstOf)
    | with_reducible exact pu_dnil
    | exact pu_d1 _ _ _ (rpS ⟨by decide +kernel, by decide +kernel⟩)
    | exact pu_d1 _ _ _ rpI
    | exact pu_d1i _ _ _ (rpS ⟨by decide +kernel, by decide +kernel⟩)
    | exact pu_d2 _ _ _ _ _ _ (by decide +kernel) (rpS ⟨by decide +kernel, by decide +kernel⟩) (rpS ⟨by decide +kernel, by decide +kernel⟩)
    | with_reducible apply pu_op (hr := pu_ixT) | with_reducible apply pu_op (hr := pu_ixL) | with_reducible apply pu_op (hr := pu_eqS) | with_reducible apply pu_op (hr := pu_neS) | with_reducible apply pu_op (hr := pu_in) | with_reducible apply pu_op (hr := pu_isNo) | with_reducible apply pu_op (hr := pu_notNo)
    | with_reducible apply pu_op (hr := pu_cm) | with_reducible apply pu_op (hr := pu_ar) | with_reducible apply pu_op (hr := pu_eqP) | with_reducible apply pu_op (hr := pu_neP) | with_reducible apply pu_op (hr := pu_catT) | with_reducible apply pu_op (hr := pu_catL)
    | with_reducible apply pu_chain pu_cm pu_cm | with_reducible apply pu_lcV | with_reducible apply pu_dcV | with_reducible apply pu_iTup | with_reducible apply pu_iLst
    | with_reducible apply pu_slT | with_reducible apply pu_slL | with_reducible exact pu_noPart | with_reducible exact pu_part _
    | exact pu_str _ ⟨by decide +kernel, by decide +kernel⟩ | with_reducible apply pu_call | with_reducible apply pu_tup | with_reducible apply pu_lst | with_reducible apply pu_cons | (with_reducible_and_instances rfl) | rfl)); done)
    | ((with_reducible apply nd_pt); ((repeat' first
    | with_reducible exact pu_var _ | with_reducible exact pu_non | with_reducible exact pu_bl _ | with_reducible exact pu_int _ | with_reducible exact pu_nil | with_reducible exact pu_next | with_reducible exact pu_yes
    | with_reducible apply pu_seq | with_reducible apply pu_ifS | with_reducible apply pu_ret | with_reducible apply pu_asg
    | with_reducible apply pu_and | with_reducible apply pu_or | with_reducible apply pu_not | with_reducible apply pu_test | with_reducible apply pu_b
    | with_reducible apply pu_andV | with_reducible apply pu_orV | with_reducible apply pu_notV | with_reducible apply pu_if
    | with_reducible apply pu_isi hC | with_reducible apply pu_cb (hr := pu_len) | with_reducible apply pu_cb (hr := pu_all) | with_reducible apply pu_cb (hr := pu_any) | with_reducible apply pu_cb (hr := pu_tupOf) | with_reducible apply pu_cb (hr := pu_lstOf)
    | with_reducible exact pu_dnil
    | exact pu_d1 _ _ _ (rpS ⟨by decide +kernel, by decide +kernel⟩)
    | exact pu_d1 _ _ _ rpI
    | exact pu_d1i _ _ _ (rpS ⟨by decide +kernel, by decide +kernel⟩)
    | exact pu_d2 _ _ _ _ _ _ (by decide +kernel) (rpS ⟨by decide +kernel, by decide +kernel⟩) (rpS ⟨by decide +kernel, by decide +kernel⟩)
    | with_reducible apply pu_op (hr := pu_ixT) | with_reducible apply pu_op (hr := pu_ixL) | with_reducible apply pu_op (hr := pu_eqS) | with_reducible apply pu_op (hr := pu_neS) | with_reducible apply pu_op (hr := pu_in) | with_reducible apply pu_op (hr := pu_isNo) | with_reducible apply pu_op (hr := pu_notNo)
    | with_reducible apply pu_op (hr := pu_cm) | with_reducible apply pu_op (hr := pu_ar) | with_reducible apply pu_op (hr := pu_eqP) | with_reducible apply pu_op (hr := pu_neP) | with_reducible apply pu_op (hr := pu_catT) | with_reducible apply pu_op (hr := pu_catL)
    | with_reducible apply pu_chain pu_cm pu_cm | with_reducible apply pu_lcV | with_reducible apply pu_dcV | with_reducible apply pu_iTup | with_reducible apply pu_iLst
    | with_reducible apply pu_slT | with_reducible apply pu_slL | with_reducible exact pu_noPart | with_reducible exact pu_part _
    | exact pu_str _ ⟨by decide +kernel, by decide +kernel⟩ | with_reducible apply pu_call | with_reducible apply pu_tup | with_reducible apply pu_lst | with_reducible apply pu_cons | (with_reducible_and_instances rfl) | rfl)); done)
    | with_reducible apply nd_if | with_reducible apply nd_test | with_reducible apply nd_call | with_reducible apply nd_cons
    | with_reducible apply nd_op (hr := pu_ar) | with_reducible apply nd_op (hr := pu_cm) | with_reducible apply nd_op (hr := pu_eqS) | with_reducible apply nd_tup | with_reducible apply nd_lst)
    case hm => exact Nat.le_trans (by decide : _ ≤ 20) (by omega)
    case hf => rcases hn with rfl | rfl | rfl | rfl <;> exact ⟨_, rfl, (by decide : 0 < 8), fun d hd => hd⟩
    case hk => show 3 < 5; decide
    intro d HH BB oo ho
    exact fin _ _ HH d (BB H (((((B12.trans B3).trans B4).trans B5).trans B6)) hL) ho ⟨_, by omega, oo⟩
  · apply st_ifO (b := false) (nO := o2)
    case pu => (repeat' first
    | with_reducible exact pu_var _ | with_reducible exact pu_non | with_reducible exact pu_bl _ | with_reducible exact pu_int _ | with_reducible exact pu_nil | with_reducible exact pu_next | with_reducible exact pu_yes
    | with_reducible apply pu_seq | with_reducible apply pu_ifS | with_reducible apply pu_ret | with_reducible apply pu_asg
    | with_reducible apply pu_and | with_reducible apply pu_or | with_reducible apply pu_not | with_reducible apply pu_test | with_reducible apply pu_b
    | with_reducible apply pu_andV | with_reducible apply pu_orV | with_reducible apply pu_notV | with_reducible apply pu_if
    | with_reducible apply pu_isi hC | with_reducible apply pu_cb (hr := pu_len) | with_reducible apply pu_cb (hr := pu_all) | with_reducible apply pu_cb (hr := pu_any) | with_reducible apply pu_cb (hr := pu_tupOf) | with_reducible apply pu_cb (hr := pu_lstOf)
    | with_reducible exact pu_dnil
    | exact pu_d1 _ _ _ (rpS ⟨by decide +kernel, by decide +kernel⟩)
    | exact pu_d1 _ _ _ rpI
    | exact pu_d1i _ _ _ (rpS ⟨by decide +kernel, by decide +kernel⟩)
    | exact pu_d2 _ _ _ _ _ _ (by decide +kernel) (rpS ⟨by decide +kernel, by decide +kernel⟩) (rpS ⟨by decide +kernel, by decide +kernel⟩)
    | with_reducible apply pu_op (hr := pu_ixT) | with_reducible apply pu_op (hr := pu_ixL) | with_reducible apply pu_op (hr := pu_eqS) | with_reducible apply pu_op (hr := pu_neS) | with_reducible apply pu_op (hr := pu_in) | with_reducible apply pu_op (hr := pu_isNo) | with_reducible apply pu_op (hr := pu_notNo)
    | with_reducible apply pu_op (hr := pu_cm) | with_reducible apply pu_op (hr := pu_ar) | with_reducible apply pu_op (hr := pu_eqP) | with_reducible apply pu_op (hr := pu_neP) | with_reducible apply pu_op (hr := pu_catT) | with_reducible apply pu_op (hr := pu_catL)
    | with_reducible apply pu_chain pu_cm pu_cm | with_reducible apply pu_lcV | with_reducible apply pu_dcV | with_reducible apply pu_iTup | with_reducible apply pu_iLst
    | with_reducible apply pu_slT | with_reducible apply pu_slL | with_reducible exact pu_noPart | with_reducible exact pu_part _
    | exact pu_str _ ⟨by decide +kernel, by decide +kernel⟩ | with_reducible apply pu_call | with_reducible apply pu_tup | with_reducible apply pu_lst | with_reducible apply pu_cons | (with_reducible_and_instances rfl) | rfl)
    case e => rfl
    case hT => intro z; cases z
    rintro _ H3 B3 o3
    apply st_ifO1 (b := false) (nO := o3)
    case pu => (repeat' first
    | with_reducible exact pu_var _ | with_reducible exact pu_non | with_reducible exact pu_bl _ | with_reducible exact pu_int _ | with_reducible exact pu_nil | with_reducible exact pu_next | with_reducible exact pu_yes
    | with_reducible apply pu_seq | with_reducible apply pu_ifS | with_reducible apply pu_ret | with_reducible apply pu_asg
    | with_reducible apply pu_and | with_reducible apply pu_or | with_reducible apply pu_not | with_reducible apply pu_test | with_reducible apply pu_b
    | with_reducible apply pu_andV | with_reducible apply pu_orV | with_reducible apply pu_notV | with_reducible apply pu_if
    | with_reducible apply pu_isi hC | with_reducible apply pu_cb (hr := pu_len) | with_reducible apply pu_cb (hr := pu_all) | with_reducible apply pu_cb (hr := pu_any) | with_reducible apply pu_cb (hr := pu_tupOf) | with_reducible apply pu_cb (hr := pu_lstOf)
    | with_reducible exact pu_dnil
    | exact pu_d1 _ _ _ (rpS ⟨by decide +kernel, by decide +kernel⟩)
    | exact pu_d1 _ _ _ rpI
    | exact pu_d1i _ _ _ (rpS ⟨by decide +kernel, by decide +kernel⟩)
    | exact pu_d2 _ _ _ _ _ _ (by decide +kernel) (rpS ⟨by decide +kernel, by decide +kernel⟩) (rpS ⟨by decide +kernel, by decide +kernel⟩)
    | with_reducible apply pu_op (hr := pu_ixT) | with_reducible apply pu_op (hr := pu_ixL) | with_reducible apply pu_op (hr := pu_eqS) | with_reducible apply pu_op (hr := pu_neS) | with_reducible apply pu_op (hr := pu_in) | with_reducible apply pu_op (hr := pu_isNo) | with_reducible apply pu_op (hr := pu_notNo)
    | with_reducible apply pu_op (hr := pu_cm) | with_reducible apply pu_op (hr := pu_ar) | with_reducible apply pu_op (hr := pu_eqP) | with_reducible apply pu_op (hr := pu_neP) | with_reducible apply pu_op (hr := pu_catT) | with_reducible apply pu_op (hr := pu_catL)
    | with_reducible apply pu_chain pu_cm pu_cm | with_reducible apply pu_lcV | with_reducible apply pu_dcV | with_reducible apply pu_iTup | with_reducible apply pu_iLst
    | with_reducible apply pu_slT | with_reducible apply pu_slL | with_reducible exact pu_noPart | with_reducible exact pu_part _
    | exact pu_str _ ⟨by decide +kernel, by decide +kernel⟩ | with_reducible apply pu_call | with_reducible apply pu_tup | with_reducible apply pu_lst | with_reducible apply pu_cons | (with_reducible_and_instances rfl) | rfl)
    case e => rfl
    case hT => intro z; cases z
    rintro _ H4 B4 o4
    apply st_ifO1 (b := false) (nO := o4)
    case pu => (repeat' first
    | with_reducible exact pu_var _ | with_reducible exact pu_non | with_reducible exact pu_bl _ | with_reducible exact pu_int _ | with_reducible exact pu_nil | with_reducible exact pu_next | with_reducible exact pu_yes
    | with_reducible apply pu_seq | with_reducible apply pu_ifS | with_reducible apply pu_ret | with_reducible apply pu_asg
    | with_reducible apply pu_and | with_reducible apply pu_or | with_reducible apply pu_not | with_reducible apply pu_test | with_reducible apply pu_b
    | with_reducible apply pu_andV | with_reducible apply pu_orV | with_reducible apply pu_notV | with_reducible apply pu_if
    | with_reducible apply pu_isi hC | with_reducible apply pu_cb (hr := pu_len) | with_reducible apply pu_cb (hr := pu_all) | with_reducible apply pu_cb (hr := pu_any) | with_reducible apply pu_cb (hr := pu_tupOf) | with_reducible apply pu_cb (hr := pu_lstOf)
    | with_reducible exact pu_dnil
    | exact pu_d1 _ _ _ (rpS ⟨by decide +kernel, by decide +kernel⟩)
    | exact pu_d1 _ _ _ rpI
    | exact pu_d1i _ _ _ (rpS ⟨by decide +kernel, by decide +kernel⟩)
    | exact pu_d2 _ _ _ _ _ _ (by decide +kernel) (rpS ⟨by decide +kernel, by decide +kernel⟩) (rpS ⟨by decide +kernel, by decide +kernel⟩)
    | with_reducible apply pu_op (hr := pu_ixT) | with_reducible apply pu_op (hr := pu_ixL) | with_reducible apply pu_op (hr := pu_eqS) | with_reducible apply pu_op (hr := pu_neS) | with_reducible apply pu_op (hr := pu_in) | with_reducible apply pu_op (hr := pu_isNo) | with_reducible apply pu_op (hr := pu_notNo)
    | with_reducible apply pu_op (hr := pu_cm) | with_reducible apply pu_op (hr := pu_ar) | with_reducible apply pu_op (hr := pu_eqP) | with_reducible apply pu_op (hr := pu_neP) | with_reducible apply pu_op (hr := pu_catT) | with_reducible apply pu_op (hr := pu_catL)
    | with_reducible apply pu_chain pu_cm pu_cm | with_reducible apply pu_lcV | with_reducible apply pu_dcV | with_reducible apply pu_iTup | with_reducible apply pu_iLst
    | with_reducible apply pu_slT | with_reducible apply pu_slL | with_reducible exact pu_noPart | with_reducible exact pu_part _
    | exact pu_str _ ⟨by decide +kernel, by decide +kernel⟩ | with_reducible apply pu_call | with_reducible apply pu_tup | with_reducible apply pu_lst | with_reducible apply pu_cons | (with_reducible_and_instances rfl) | rfl)
    case e => rfl
    case hT => intro z; cases z
    rintro _ H5 B5 o5
    apply st_ifO1 (b := false) (nO := o5)
    case pu => (repeat' first
    | with_reducible exact pu_var _ | with_reducible exact pu_non | with_reducible exact pu_bl _ | with_reducible exact pu_int _ | with_reducible exact pu_nil | with_reducible exact pu_next | with_reducible exact pu_yes
    | with_reducible apply pu_seq | with_reducible apply pu_ifS | with_reducible apply pu_ret | with_reducible apply pu_asg
    | with_reducible apply pu_and | with_reducible apply pu_or | with_reducible apply pu_not | with_reducible apply pu_test | with_reducible apply pu_b
    | with_reducible apply pu_andV | with_reducible apply pu_orV | with_reducible apply pu_notV | with_reducible apply pu_if
    | with_reducible apply pu_isi hC | with_reducible apply pu_cb (hr := pu_len) | with_reducible apply pu_cb (hr := pu_all) | with_reducible apply pu_cb (hr := pu_any) | with_reducible apply pu_cb (hr := pu_tupOf) | with_reducible apply pu_cb (hr := pu_lstOf)
    | with_reducible exact pu_dnil
    | exact pu_d1 _ _ _ (rpS ⟨by decide +kernel, by decide +kernel⟩)
    | exact pu_d1 _ _ _ rpI
    | exact pu_d1i _ _ _ (rpS ⟨by decide +kernel, by decide +kernel⟩)
    | exact pu_d2 _ _ _ _ _ _ (by decide +kernel) (rpS ⟨by decide +kernel, by decide +kernel⟩) (rpS ⟨by decide +kernel, by decide +kernel⟩)
    | with_reducible apply pu_op (hr := pu_ixT) | with_reducible apply pu_op (hr := pu_ixL) | with_reducible apply pu_op (hr := pu_eqS) | with_reducible apply pu_op (hr := pu_neS) | with_reducible apply pu_op (hr := pu_in) | with_reducible apply pu_op (hr := pu_isNo) | with_reducible apply pu_op (hr := pu_notNo)
    | with_reducible apply pu_op (hr := pu_cm) | with_reducible apply pu_op (hr := pu_ar) | with_reducible apply pu_op (hr := pu_eqP) | with_reducible apply pu_op (hr := pu_neP) | with_reducible apply pu_op (hr := pu_catT) | with_reducible apply pu_op (hr := pu_catL)
    | with_reducible apply pu_chain pu_cm pu_cm | with_reducible apply pu_lcV | with_reducible apply pu_dcV | with_reducible apply pu_iTup | with_reducible apply pu_iLst
    | with_reducible apply pu_slT | with_reducible apply pu_slL | with_reducible exact pu_noPart | with_reducible exact pu_part _
    | exact pu_str _ ⟨by decide +kernel, by decide +kernel⟩ | with_reducible apply pu_call | with_reducible apply pu_tup | with_reducible apply pu_lst | with_reducible apply pu_cons | (with_reducible_and_instances rfl) | rfl)
    case e => rfl
    case hT => intro z; cases z
    rintro _ H6 B6 o6
    have hn := kr.gr.n
    simp only [prefs, List.mem_cons, List.not_mem_nil, or_false] at hn
    apply st_put (kk := 4) (nO := o6) (Φ := fun o => oddP rows ms 4 o)
    case hE => (repeat' first
    | with_reducible exact nd_next | with_reducible exact nd_nil
    | with_reducible apply nd_ret | with_reducible apply nd_seq | with_reducible apply nd_ifS | (with_reducible apply nd_asg (ij := by decide))
    | ((with_reducible apply nd_pu); ((repeat' first
    | with_reducible exact pu_var _ | with_reducible exact pu_non | with_reducible exact pu_bl _ | with_reducible exact pu_int _ | with_reducible exact pu_nil | with_reducible exact pu_next | with_reducible exact pu_yes
    | with_reducible apply pu_seq | with_reducible apply pu_ifS | with_reducible apply pu_ret | with_reducible apply pu_asg
    | with_reducible apply pu_and | with_reducible apply pu_or | with_reducible apply pu_not | with_reducible apply pu_test | with_reducible apply pu_b
    | with_reducible apply pu_andV | with_reducible apply pu_orV | with_reducible apply pu_notV | with_reducible apply pu_if
    | with_reducible apply pu_isi hC | with_reducible apply pu_cb (hr := pu_len) | with_reducible apply pu_cb (hr := pu_all) | with_reducible apply pu_cb (hr := pu_any) | with_reducible apply pu_cb (hr := pu_tupOf) | with_reducible apply pu_cb (hr := pu_lstOf)
    | with_reducible exact pu_dnil
    | exact pu_d1 _ _ _ (rpS ⟨by decide +kernel, by decide +kernel⟩)
    | exact pu_d1 _ _ _ rpI
    | exact pu_d1i _ _ _ (rpS ⟨by decide +kernel, by decide +kernel⟩)
    | exact pu_d2 _ _ _ _ _ _ (by decide +kernel) (rpS ⟨by decide +kernel, by decide +kernel⟩) (rpS ⟨by decide +kernel, by decide +kernel⟩)
    | with_reducible apply pu_op (hr := pu_ixT) | with_reducible apply pu_op (hr := pu_ixL) | with_reducible apply pu_op (hr := pu_eqS) | with_reducible apply pu_op (hr := pu_neS) | with_reducible apply pu_op (hr := pu_in) | with_reducible apply pu_op (hr := pu_isNo) | with_reducible apply pu_op (hr := pu_notNo)
    | with_reducible apply pu_op (hr := pu_cm) | with_reducible apply pu_op (hr := pu_ar) | with_reducible apply pu_op (hr := pu_eqP) | with_reducible apply pu_op (hr := pu_neP) | with_reducible apply pu_op (hr := pu_catT) | with_reducible apply pu_op (hr := pu_catL)
    | with_reducible apply pu_chain pu_cm pu_cm | with_reducible apply pu_lcV | with_reducible apply pu_dcV | with_reducible apply pu_iTup | with_reducible apply pu_iLst
    | with_reducible apply pu_slT | with_reducible apply pu_slL | with_reducible exact pu_noPart | with_reducible exact pu_part _
    | exact pu_str _ ⟨by decide +kernel, by decide +kernel⟩ | with_reducible apply pu_call | with_reducible apply pu_tup | with_reducible apply pu_lst | with_reducible apply pu_cons | (with_reducible_and_instances rfl) | rfl)); done)
    | ((with_reducible apply nd_pt); ((repeat' first
    | with_reducible exact pu_var _ | with_reducible exact pu_non | with_reducible exact pu_bl _ | with_reducible exact pu_int _ | with_reducible exact pu_nil | with_reducible exact pu_next | with_reducible exact pu_yes
    | with_reducible apply pu_seq | with_reducible apply pu_ifS | with_reducible apply pu_ret | with_reducible apply pu_asg
    | with_reducible apply pu_and | with_reducible apply pu_or | with_reducible apply pu_not | with_reducible apply pu_test | with_reducible apply pu_b
    | with_reducible apply pu_andV | with_reducible apply pu_orV | with_reducible apply pu_notV | with_reducible apply pu_if
    | with_reducible apply pu_isi hC | with_reducible apply pu_cb (hr := pu_len) | with_reducible apply pu_cb (hr := pu_all) | with_reducible apply pu_cb (hr := pu_any) | with_reducible apply pu_cb (hr := pu_tupOf) | with_reducible apply pu_cb (hr := pu_lstOf)
    | with_reducible exact pu_dnil
    | exact pu_d1 _ _ _ (rpS ⟨by decide +kernel, by decide +kernel⟩)
    | exact pu_d1 _ _ _ rpI
    | exact pu_d1i _ _ _ (rpS ⟨by decide +kernel, by decide +kernel⟩)
    | exact pu_d2 _ _ _ _ _ _ (by decide +kernel) (rpS ⟨by decide +kernel, by decide +kernel⟩) (rpS ⟨by decide +kernel, by decide +kernel⟩)
    | with_reducible apply pu_op (hr := pu_ixT) | with_reducible apply pu_op (hr := pu_ixL) | with_reducible apply pu_op (hr := pu_eqS) | with_reducible apply pu_op (hr := pu_neS) | with_reducible apply pu_op (hr := pu_in) | with_reducible apply pu_op (hr := pu_isNo) | with_reducible apply pu_op (hr := pu_notNo)
    | with_reducible apply pu_op (hr := pu_cm) | with_reducible apply pu_op (hr := pu_ar) | with_reducible apply pu_op (hr := pu_eqP) | with_reducible apply pu_op (hr := pu_neP) | with_reducible apply pu_op (hr := pu_catT) | with_reducible apply pu_op (hr := pu_catL)
    | with_reducible apply pu_chain pu_cm pu_cm | with_reducible apply pu_lcV | with_reducible apply pu_dcV | with_reducible apply pu_iTup | with_reducible apply pu_iLst
    | with_reducible apply pu_slT | with_reducible apply pu_slL | with_reducible exact pu_noPart | with_reducible exact pu_part _
    | exact pu_str _ ⟨by decide +kernel, by decide +kernel⟩ | with_reducible apply pu_call | with_reducible apply pu_tup | with_reducible apply pu_lst | with_reducible apply pu_cons | (with_reducible_and_instances rfl) | rfl)); done)
    | with_reducible apply nd_if | with_reducible apply nd_test | with_reducible apply nd_call | with_reducible apply nd_cons
    | with_reducible apply nd_op (hr := pu_ar) | with_reducible apply nd_op (hr := pu_cm) | with_reducible apply nd_op (hr := pu_eqS) | with_reducible apply nd_tup | with_reducible apply nd_lst)
    case hm => exact Nat.le_trans (by decide : _ ≤ 20) (by omega)
    case hf => rcases hn with rfl | rfl | rfl | rfl <;> exact ⟨_, rfl, (by decide : 0 < 8), fun d hd => hd⟩
    case hk => show 4 < 5; decide
    intro d HH BB oo ho
    exact fin _ _ HH d (BB H (((((B12.trans B3).trans B4).trans B5).trans B6)) hL) ho ⟨_, by omega, oo⟩
end
end K05

namespace K05
open PySem L2 XR VT ET
/-! rules for the law: lists of the same objects, slices of texts, -1; what _law_said tells of a list's own items -/
section
variable {X : Cx} {K : PySem.W.Frag} {Pr : Addr → Prop}
def okV : V → Bool
  | .byt _ => false | .flt _ => false | .ty _ => false | _ => true
/-- the same items, one by one -/
def rNeId : R2 := fun x y H Q => ∃ (a b : Addr) (xs : List V), x = .ref a ∧ y = .ref b ∧ H a = some (.lst xs) ∧ H b = some (.lst xs) ∧ (∀ v ∈ xs, okV v = true) ∧ Q (.bl false) H
theorem eq_id {A : Around} {s : Shared} {x : V} {v u : Value} (hk : okV x = true) (h1 : RelV x v) (h2 : RelV x u) : PySem.SeqAt.EqAt A s v u true := by
  cases x with
  | non => cases h1; cases h2; exact PySem.SeqAt.EqAt.same _
  | bl b => cases h1; cases h2; exact PySem.SeqAt.EqAt.same _
  | int i =>
    obtain ⟨t, rfl⟩ := h1
    obtain ⟨t', rfl⟩ := h2
    have := PySem.SeqAt.EqAt.int_int (A := A) (s := s) i t i t'
    rwa [beq_self_eq_true] at this
  | str i =>
    obtain ⟨t, rfl⟩ := h1
    obtain ⟨t', rfl⟩ := h2
    have := PySem.SeqAt.EqAt.str_str (A := A) (s := s) i t i t'
    rwa [beq_self_eq_true] at this
  | ref a => cases h1; cases h2; exact PySem.SeqAt.EqAt.same _
  | byt _ => cases hk
  | flt _ => cases hk
  | ty _ => cases hk
theorem op_neId (hu : X.A.units < cLine) : OpR X (compareOp .NotEq) rNeId := by
  intro pins s σ H x y v u Q I rx ry h
  obtain ⟨a, b, xs, rfl, rfl, ha, hb, hok, q⟩ := h
  obtain rfl : v = Value.ref a := rx
  obtain rfl : u = Value.ref b := ry
  obtain ⟨its, r1, l1, _⟩ := I.list (SqL.of ha)
  obtain ⟨its2, r2, l2, _⟩ := I.list (SqL.of hb)
  have len := r1.length
  have len2 := r2.length
  show wpAny (model X.prog X.w) X.A (richCompare .NotEq (.ref a) (.ref b)) (EP X pins σ Q) X.xe s
  have r := PySem.SeqAt.RcNeAt.lists (A := X.A) (s := s) (e := fun _ => true) l1.isList l2.isList (by rw [List.size_toArray, List.size_toArray, ← len, ← len2]) hu (fun j h1 h2 => ?_)
  · rw [show (!(List.range its.toArray.size).all fun _ => true) = false by simp] at r
    exact r X.prog X.w X.xe _ ⟨.bl false, H, I, rfl, q⟩
  · have hj : j < xs.length := by rw [len]; simpa using h1
    obtain ⟨v, hv, rv⟩ := r1.get (List.getElem?_eq_getElem hj)
    obtain ⟨u, hu', ru⟩ := r2.get (List.getElem?_eq_getElem hj)
    have e1 : its.toArray[j] = v := by
      have := List.getElem?_eq_some_iff.mp hv
      simpa using this.2
    have e2 : its2.toArray[j] = u := by
      have := List.getElem?_eq_some_iff.mp hu'
      simpa using this.2
    rw [e1, e2]
    exact eq_id (hok _ (List.getElem_mem hj)) rv ru
theorem rpl_ok {H : Hp} : ∀ {vs : List V} {ds : List E}, RpL H vs ds → ∀ v ∈ vs, okV v = true
  | _, _, .nil, v, h => by cases h
  | _, _, .cons r t, v, h => by
    rcases List.mem_cons.mp h with rfl | h
    · cases r <;> rfl
    · exact rpl_ok t v h
/-- "abcdefgh"[:k] -/
def slS : E → E → Option E
  | .str z, .int i => if txT (cutS z none (some i)) = true ∧ z.length ≤ 900 then some (.str (cutS z none (some i))) else none
  | _, _ => none
theorem pu_slS {ta th : TE} {fa fh : FE} (ha : PuE ta fa) (hh : PuE th fh) : PuE (tSl rSlS ta tNoPart (tPart th)) (fun env => (fa env).bind fun d => (fh env).bind fun e => slS d e) := fun P σ H env c Q he hf e k => by
  obtain ⟨d, e1, e2⟩ := Option.bind_eq_some_iff.mp e
  obtain ⟨u, e3, e4⟩ := Option.bind_eq_some_iff.mp e2
  unfold slS at e4
  split at e4
  case h_2 => cases e4
  split at e4
  case isFalse => cases e4
  rename_i hq
  cases e4
  refine ha P σ H env _ _ he hf e1 fun v H1 m1 r1 => ?_
  cases r1
  refine hh P σ H1 env _ _ (he.keepS m1) (hf.same m1) e3 fun v H2 m2 r2 => ?_
  cases r2
  exact ⟨_, rfl, _, rfl, Nat.le_trans hq.2 (by rw [sizeLine_eq]; omega), k _ H2 (m1.trans m2) (.str _ (txT_of hq.1))⟩
theorem pu_neg {ta : TE} {fa : FE} (ha : PuE ta fa) : PuE (tUn (rU fun i => .int (-i)) ta) (fun env => (fa env).bind fun d => match d with | .int i => some (.int (-i)) | _ => none) := fun P σ H env c Q he hf e k => by
  obtain ⟨d, e1, e2⟩ := Option.bind_eq_some_iff.mp e
  cases d with
  | int i =>
    cases e2
    refine ha P σ H env _ _ he hf e1 fun v H1 m1 r1 => ?_
    cases r1
    exact ⟨_, rfl, k _ H1 m1 (.int _)⟩
  | _ => cases e2
theorem chrK {k : Nat} (h : k ≤ 8) : ∃ z : Str, slS (.str "abcdefgh") (.int k) = some (.str z) ∧ chrF z = some ((chars.take k).map E.str) := by
  have go : ∀ (i : Int) (l : List Nat), (txT (cutS "abcdefgh" none (some i)) = true ∧ ("abcdefgh" : Str).length ≤ 900) → ((cutS "abcdefgh" none (some i)).cps.size ≤ 900 ∧ ((cutS "abcdefgh" none (some i)).cps.toList.all fun c => txT ⟨#[c]⟩) = true) → (cutS "abcdefgh" none (some i)).cps.toList = l → ∃ z : Str, slS (.str "abcdefgh") (.int i) = some (.str z) ∧ chrF z = some (l.map fun c => E.str ⟨#[c]⟩) := fun i l h1 h2 h3 => by
    refine ⟨cutS "abcdefgh" none (some i), ?_, ?_⟩
    · show (if _ then _ else _) = _
      rw [if_pos h1]
    · unfold chrF
      rw [if_pos h2]
      unfold chrs
      rw [h3]
  match k, h with
  | 0, _ => exact go 0 [] ⟨by decide +kernel, by decide +kernel⟩ ⟨by decide +kernel, by decide +kernel⟩ (by decide +kernel)
  | 1, _ => exact go 1 [97] ⟨by decide +kernel, by decide +kernel⟩ ⟨by decide +kernel, by decide +kernel⟩ (by decide +kernel)
  | 2, _ => exact go 2 [97, 98] ⟨by decide +kernel, by decide +kernel⟩ ⟨by decide +kernel, by decide +kernel⟩ (by decide +kernel)
  | 3, _ => exact go 3 [97, 98, 99] ⟨by decide +kernel, by decide +kernel⟩ ⟨by decide +kernel, by decide +kernel⟩ (by decide +kernel)
  | 4, _ => exact go 4 [97, 98, 99, 100] ⟨by decide +kernel, by decide +kernel⟩ ⟨by decide +kernel, by decide +kernel⟩ (by decide +kernel)
  | 5, _ => exact go 5 [97, 98, 99, 100, 101] ⟨by decide +kernel, by decide +kernel⟩ ⟨by decide +kernel, by decide +kernel⟩ (by decide +kernel)
  | 6, _ => exact go 6 [97, 98, 99, 100, 101, 102] ⟨by decide +kernel, by decide +kernel⟩ ⟨by decide +kernel, by decide +kernel⟩ (by decide +kernel)
  | 7, _ => exact go 7 [97, 98, 99, 100, 101, 102, 103] ⟨by decide +kernel, by decide +kernel⟩ ⟨by decide +kernel, by decide +kernel⟩ (by decide +kernel)
  | 8, _ => exact go 8 [97, 98, 99, 100, 101, 102, 103, 104] ⟨by decide +kernel, by decide +kernel⟩ ⟨by decide +kernel, by decide +kernel⟩ (by decide +kernel)
end
/-- what _law_said tells of a list's own items -/
def spSaid (CK : Addr) : Sp := fun vs H Q _ => ∃ (Pr : Addr → Prop) (l : Addr) (us : List V) (ds : List E), vs = [.ref l] ∧ H l = some (.lst us) ∧ RpL (keepH Pr H) us ds ∧ Fr Pr H ∧ kindD ds = true ∧
  (kindE ds = none → ∀ H' x dx, Same H H' → H x = none → H' x = some (.ins CK dx (flds.zip us)) → Q (.ref x) H') ∧
  (∀ part : Str, kindE ds = some part → TxOk part → ∀ H' t, Same H H' → H t = none → H' t = some (.tup [.str "refused", .str part]) → Q (.ref t) H')
section
variable {P : Program} {w : World} {K : PySem.W.Frag} {mg : Str → Option Value} {base : Heap}
variable {CS : List Addr}
theorem ok_saidL {f CK CN CP fI fK : Addr} {fd dI dK : FuncData} (F : Fun K "_law_said" "_law_said" sSaid f fd) (T : Txt mg) (hC : ∀ C ∈ CS, CF K C) (NK : New1 P w K mg base CP "NoKind" "part" CN fI dI) (nP : CN ≠ CP)
    (M : Mk K CK fK) (gK : mg "Kind" = some (.ref CK)) (GK : FnOk P w K mg base (L2.CX P w) 3 fK dK ["self", "name", "given", "made", "single", "holds"] (spKI CK CN)) (hb : KBn K dK ["self", "name", "given", "made", "single", "holds"] 4 ["single", "holds"] (fun us ws => us ++ ws) (fun vs zs => vs ++ zs)) : FnOk P w K mg base CX0 5 f fd ["_law_some"] (spSaid CK) := by
  refine F.ok scSa (fun vs H Q E0 h => by obtain ⟨Pr, l, us, ds, rfl, _⟩ := h; rfl) (fun cdv A outer s H vs Q E0 hr h => ?_)
  obtain ⟨Pr, l, us, ds, rfl, hl, r, fr, hd, k0, k1⟩ := h
  obtain ⟨n, g, m, s', h', rfl⟩ := kindD_eq hd
  cases r with
  | @cons u0 _ us0 _ q0 r =>
  cases r with
  | @cons u1 _ us1 _ q1 r =>
  cases r with
  | @cons u2 _ us2 _ q2 r =>
  cases r with
  | @cons u3 _ us3 _ q3 r =>
  cases r with
  | @cons u4 _ us4 _ q4 r =>
  cases r
  refine ⟨_, pss_one (ps_try_as (i := 1) (c := .ref CN) rfl rfl scSa.nd rfl rfl ⟨rfl, by decide, .inl NK.g⟩ LamX.takes0
    (fun W pn xe tk _ => pss_one (ps_ret (pe_makeK M GK hr rfl gK hb (passL 2 rfl tk) (pa_cons (pe_ix (ix_lstK (K := K) rfl) (pv 0) pe_int (fun _ _ => rfl)) (pa_cons (pe_ix (ix_lstK (K := K) rfl) (pv 0) pe_int (fun _ _ => rfl)) (pa_cons (pe_ix (ix_lstK (K := K) rfl) (pv 0) pe_int (fun _ _ => rfl)) pa_nil))) (pk_cons (pe_ix (ix_lstK (K := K) rfl) (pv 0) pe_int (fun _ _ => rfl)) (pk_cons (pe_ix (ix_lstK (K := K) rfl) (pv 0) pe_int (fun _ _ => rfl)) pk_nil)))))
    (fun a oe cls d pn hz hf => pss_one (ps_ret (pe_tup (pa_cons pe_str (pa_cons (pe_xf NK.xc.xf NK.no hz hf (pv 1)) pa_nil)))))), ?_⟩
  have ix : ∀ (j : Nat) (v : V), [u0, u1, u2, u3, u4][j]? = some v → ∀ (Q : VK), Q v H → tOp (rIxL K) (tVar 0) (tC (.int (j : Nat))) (L2.start ["_law_some", "e"] [.ref l]) H Q := fun j v hv Q q => ⟨_, rfl, _, _, _, _, rfl, rfl, SqL.of hl, atI_nat hv, q⟩
  refine ix 0 u0 rfl _ (ix 1 u1 rfl _ (ix 2 u2 rfl _ (ix 3 u3 rfl _ (ix 4 u4 rfl _ ⟨rfl, rfl, fun x dx hx hdx ne => ?_⟩))))
  have mG : Same H (upd (upd H dx (.own x)) x (.ins CK dx [])) := fun b o e => by rw [upd_ne (ne_of_none e hx), upd_ne (ne_of_none e hdx)]; exact e
  have rr : RpL (keepH Pr H) [u0, u1, u2, u3, u4] [n, g, m, s', h'] := .cons q0 (.cons q1 (.cons q2 (.cons q3 (.cons q4 .nil))))
  refine ⟨Pr, x, dx, [u0, u1, u2, u3, u4], [n, g, m, s', h'], rfl, upd_same, rr.mono (keep_same mG), fr.same mG, hd, fun ek H3 B3 h3 => ⟨rfl, ?_⟩, fun part ek dd H3 m3 hdd h3 => ?_⟩
  · exact k0 ek H3 x dx (fun b o e => B3 b o (mG b o e) (ne_of_none e hx)) hx h3
  · intro σ' hl'
    match σ', hl' with
    | [a0, a1], _ =>
    refine ⟨true, (NK.xc.exm NK.xc nP).trans (congrArg some (decide_eq_true rfl)), fun _ a ha => ?_, fun z => Bool.noConfusion z⟩
    refine ⟨_, rfl, rfl, rfl, dd, _, .str part, rfl, h3, (by simp [List.lookup_cons]), (by show 2 ≤ sizeLine; decide), fun t ht => ?_⟩
    have m23 := mG.trans m3
    exact k1 part ek (kind_tx ek) _ t (m23.trans (same_new ht)) (by cases e : H t with | none => rfl | some o => rw [m23 _ _ e] at ht; cases ht) upd_same
/-- as a reading of trees -/
theorem said_pu {CK : Addr} {ta : TE} {fa : FE} {E0 : XK} (ha : PuE ta fa) : PuE (tCall (spSaid CK) [] E0 (tCons ta tNil)) (fun env => (fa env).bind fun d => saidF CK [d]) := fun P σ H env c Q he hf e k => by
  obtain ⟨d, e1, e2⟩ := Option.bind_eq_some_iff.mp e
  refine ha P σ H env d _ he hf e1 fun v H1 m1 r1 => ?_
  unfold saidF at e2
  split at e2
  case h_2 => cases e2
  rename_i ds heq
  cases heq
  split at e2
  case isFalse => cases e2
  rename_i hd
  cases e2
  cases r1 with
  | @lst a us _ h hl hz hs =>
  have rr := RpL.of hl hs
  refine ⟨P, a, us, ds, rfl, (keep_some h).2, rr, hf.same m1, hd, fun ek H' x dx m hx h' => ?_, fun part ek ht H' t m hx h' => ?_⟩
  · refine k _ H' (m1.trans m) ?_
    unfold saidE
    rw [ek]
    have r2 := rr.mono (keep_same m)
    obtain ⟨n, g, m', s', h'', rfl⟩ := kindD_eq hd
    exact .ins (by rw [keep_at (hf _ (same_none m1 hx))]; exact h') r2.length rfl (by simp) r2.get
  · refine k _ H' (m1.trans m) ?_
    unfold saidE
    rw [ek]
    have r2 : RpL (keepH P H') [.str "refused", .str part] [.str "refused", .str part] := .cons (.str _ ⟨by decide +kernel, by decide +kernel⟩) (.cons (.str _ ht) .nil)
    exact .tup (by rw [keep_at (hf _ (same_none m1 hx))]; exact h') r2.length (by simp) r2.get
end
end K05

namespace K05
open PySem L2 XR VT ET
abbrev sLaw : Stmt := top 34
def spLaw (K : PySem.W.Frag) : Sp := fun vs H Q _ => ∃ (a : Addr) (ns : List Int), vs = [.ref a] ∧ SqL K H a (ns.map V.int) ∧ ns.length ≤ 63 ∧ ∀ H', Q (.bl true) H'
section
variable {w L : Addr} {i j q m : Nat} {Pr : Addr → Prop} {σ : L2.St} {H : Hp} {env : List (Option E)} {ds l0 : List E} {te : TE} {tl : TA} {f : NE} {D : Ends} {rest : TS} {Φ : E → Prop} {Ψ : List E → Prop} {K : PySem.W.Frag} {fa : FE} {fl : NA} {ta : TE} {tt : TT} {ft : FT} {t : TS}
theorem st_pu {d : E} (pu : PuE ta fa) (he : En (keepH Pr H) σ env) (hf : Fr Pr H) (e : fa env = some d) (k : ∀ v H1, Same H H1 → En (keepH Pr H1) (σ.set j (some v)) (env.set j (some d)) → Rp (keepH Pr H1) v d → rest D (σ.set j (some v)) H1) : tSeq (tAsg ta (gName j)) rest D σ H :=
  pu Pr σ H env _ _ he hf e fun v H1 m1 r1 => k v H1 m1 ((he.keepS m1).set r1) r1
theorem st_well {z : Int} {E0 : XK} (h3 : σ[3]? = some (some (.int z))) (k : ∀ p a b H', Same H H' → H p = none → Well H' p a b 0 → rest D (σ.set 4 (some (.ref p))) H') : tSeq (tAsg (tCall spWell [] E0 (tCons (tVar 3) tNil)) (gName 4)) rest D σ H := ⟨_, h3, z, rfl, k⟩
theorem st_said2 {CK l : Addr} {us : List V} {E0 : XK} (hv5 : σ[5]? = some (some (.ref l))) (hl : H l = some (.lst us)) (rl : RpL (keepH Pr H) us ds) (fr : Fr Pr H) (hk : kindE ds = none) (hd : kindD ds = true)
    (k : ∀ H8 H9 x1 dx1 x2 dx2, Same H H8 → H x1 = none → H8 x1 = some (.ins CK dx1 (flds.zip us)) → Same H8 H9 → H8 x2 = none → H9 x2 = some (.ins CK dx2 (flds.zip us)) → rest D ((σ.set 6 (some (.ref x1))).set 7 (some (.ref x2))) H9) :
    tSeq (tPar 6 7 (tCons (tCall (spSaid CK) [] E0 (tCons (tVar 5) tNil)) (tCons (tCall (spSaid CK) [] E0 (tCons (tVar 5) tNil)) tNil))) rest D σ H := by
  refine ⟨_, hv5, Pr, l, us, _, rfl, hl, rl, fr, hd, fun _ H8 x1 dx1 m8 hx1 h1 => ?_, fun part ek => by rw [hk] at ek; cases ek⟩
  refine ⟨_, hv5, Pr, l, us, _, rfl, m8 _ _ hl, rl.mono (keep_same m8), fr.same m8, hd, fun _ H9 x2 dx2 m9 hx2 h2 => ?_, fun part ek => by rw [hk] at ek; cases ek⟩
  exact ⟨_, _, rfl, k H8 H9 x1 dx1 x2 dx2 m8 hx1 h1 m9 hx2 h2⟩
theorem st_kept {CK x1 dx : Addr} {u0 u1 u2 u3 u4 : V} (hv6 : σ[6]? = some (some (.ref x1))) (h1 : H x1 = some (.ins CK dx (flds.zip [u0, u1, u2, u3, u4]))) (cK : Cls K CK) (nA : ∀ x ∈ flds, NoAttr K CK x) (k : ∀ p8, H p8 = none → rest D (σ.set 8 (some (.ref p8))) (upd H p8 (.lst [u0, u1, u2, u3, u4]))) :
    tSeq (tAsg (tLst (tCons (tFld K (tVar 6) "name") (tCons (tFld K (tVar 6) "given") (tCons (tFld K (tVar 6) "made") (tCons (tFld K (tVar 6) "single") (tCons (tFld K (tVar 6) "holds") tNil)))))) (gName 8)) rest D σ H := by
  have go : ∀ (f : Str) (u : V), f ∈ flds → (flds.zip [u0, u1, u2, u3, u4]).lookup f = some u → ∀ Q : VK, Q u H → tFld K (tVar 6) f σ H Q := fun f u hf hu Q q => ⟨_, hv6, x1, CK, dx, _, u, rfl, h1, cK, nA f hf, hu, q⟩
  dsimp only [tSeq, tAsg, tLst, tCons, tNil, gName]
  refine go "name" u0 (by decide +kernel) rfl _ ?_
  refine go "given" u1 (by decide +kernel) rfl _ ?_
  refine go "made" u2 (by decide +kernel) rfl _ ?_
  refine go "single" u3 (by decide +kernel) rfl _ ?_
  refine go "holds" u4 (by decide +kernel) rfl _ ?_
  exact ⟨(by show 5 ≤ sizeLine; decide), k⟩
theorem st_kif {p8 l : Addr} {us : List V} (hv8 : σ[8]? = some (some (.ref p8))) (hv5 : σ[5]? = some (some (.ref l))) (h8 : H p8 = some (.lst us)) (hl : H l = some (.lst us)) (hok : ∀ v ∈ us, okV v = true) (pu : PuT tt ft) (nd : Nd w i m Pr σ H env) (e : ft env = some false) (k : ∀ H1, But w H H1 → Nd w i m Pr σ H1 env → rest D σ H1) : tSeq (tIfS (tOr (tTest (tOp rNeId (tVar 8) (tVar 5))) tt) t tNext) rest D σ H := by
  refine ⟨_, hv8, _, hv5, p8, l, us, rfl, rfl, h8, hl, hok, false, rfl, iteF ?_⟩
  exact pu Pr σ H env _ _ nd.en nd.fr e fun H1 m1 => iteF (k H1 (But.of m1) (nd.next (But.of m1) (nd.wl.same m1)))
theorem st_via {t : TS} {F : L2.St → Hp → Prop} (h : t { D with nx := F } σ H) (k : ∀ σ' H', F σ' H' → rest D σ' H') : tSeq (tVia t) rest D σ H := ⟨F, h, k⟩
theorem st_put1 (hE : NdE i q te f) (nO : NdO w L i j m Pr σ H env ds) (hm : q ≤ m) (hf : f env Φ) (hk : 1 < ds.length) (k : ∀ d H2, (∀ H0, But w H0 H → H0 L = none → But w H0 H2) → NdO w L i j (m - q) Pr σ H2 env (ds.set 1 d) → Φ d → rest D σ H2) : tSeq (tAsg te (gSub (tVar j) (tC (.int 1)) rSetL)) rest D σ H :=
  st_put (kk := 1) (D := { D with nx := rest D }) hE nO hm hf hk k
theorem st_ifN (pu : PuT tt ft) (nd : Nd w i m Pr σ H env) (e : ft env = some false) (k : ∀ H1, But w H H1 → Nd w i m Pr σ H1 env → rest D σ H1) : tSeq (tIfS tt t tNext) rest D σ H :=
  pu Pr σ H env _ _ nd.en nd.fr e fun H1 m1 => iteF (k H1 (But.of m1) (nd.next (But.of m1) (nd.wl.same m1)))
theorem st_ifN1 (pu : PuT tt ft) (nd : Nd w i m Pr σ H env) (e : ft env = some false) (k : ∀ H1, But w H H1 → Nd w i m Pr σ H1 env → D.nx σ H1) : tIfS tt t tNext D σ H :=
  pu Pr σ H env _ _ nd.en nd.fr e fun H1 m1 => iteF (k H1 (But.of m1) (nd.next (But.of m1) (nd.wl.same m1)))
theorem st_par {j' : Nat} (hA : NdA i q tl fl) (nd : Nd w i m Pr σ H env) (hm : q ≤ m) (hf : fl env Ψ) (h2 : ∀ ds, Ψ ds → ds.length = 2) (ji : j ≠ i) (ji' : j' ≠ i) (k : ∀ v v' d d' H1, But w H H1 → Nd w i (m - q) Pr ((σ.set j (some v)).set j' (some v')) H1 ((env.set j (some d)).set j' (some d')) → Ψ [d, d'] → rest D ((σ.set j (some v)).set j' (some v')) H1) : tSeq (tPar j j' tl) rest D σ H :=
  nd_goA hA nd hm hf fun vs ds H1 B W r hd => by
    have h2' := h2 ds hd
    match ds, h2' with
    | [d, d'], _ =>
    cases r with
    | @cons v _ _ _ r1 r =>
    cases r with
    | @cons v' _ _ _ r2 r =>
    cases r
    have nd1 := nd.next B W
    exact ⟨v, v', rfl, k v v' d d' H1 B ((nd1.set ji r1).set ji' r2) hd⟩
/-- a new list that is handed over -/
theorem Nd.own' {p : Addr} {H' : Hp} {n n' : Nat} {vs : List V} (h : Nd w i n Pr σ H env) (ji : j ≠ i) (hj : j < env.length) (hp : H p = none) (B : But w H H') (W : Wl H' w n') (hL : H' p = some (.lst vs)) (r : RpL (keepH (fun b => Pr b ∧ b ≠ p) H') vs ds) : NdO w p i j n' (fun b => Pr b ∧ b ≠ p) (σ.set j (some (.ref p))) H' (env.set j none) ds := by
  have ne : p ≠ w := fun z => by
    obtain ⟨o, ho⟩ := h.wl.there
    rw [z, ho] at hp
    cases hp
  have mk : ∀ a u, keepH Pr H a = some u → keepH (fun b => Pr b ∧ b ≠ p) H' a = some u := fun a u e => by
    obtain ⟨pa, e'⟩ := keep_some e
    rw [keep_at ⟨pa, ne_of_none e' hp⟩]
    exact B _ _ e' fun z => h.nw (z ▸ pa)
  refine ⟨⟨?_, fun b hb => ?_, fun z => h.nw z.1, W, by rw [List.getElem?_set_ne ji]; exact h.at_⟩, ?_, fun z => z.2 rfl, ne, vs, hL, r⟩
  · refine ⟨by rw [List.length_set, List.length_set]; exact h.en.1, fun a d e => ?_⟩
    by_cases ha : j = a
    · subst ha
      have hl : j < env.length := by
        have := (List.getElem?_eq_some_iff.mp e).1
        rwa [List.length_set] at this
      rw [List.getElem?_set_self hl] at e
      cases e
    · rw [List.getElem?_set_ne ha] at e ⊢
      obtain ⟨v, h1, h2⟩ := h.en.2 a d e
      exact ⟨v, h1, h2.mono mk⟩
  · exact ⟨frB h.fr B W b hb, fun z => by rw [z, hL] at hb; cases hb⟩
  · rw [List.getElem?_set_self (by rw [h.en.1]; exact hj)]
theorem Nd.get {d : E} {n : Nat} (h : Nd w i n Pr σ H env) (e : env[j]? = some (some d)) : ∃ v, σ[j]? = some (some v) ∧ Rp (keepH Pr H) v d := h.en.2 j d e
theorem ixL_at {l : List E} {a : Nat} {d : E} (h : l[a]? = some d) : ixL (.lst l) (.int (a : Nat)) = some d := atI_nat h
theorem st_spo {a : Nat} {names mx : List Str} {rows ms : List E} {c0 c1 c2 c3 c4 : E} {E0 : XK} (nd : Nd w 4 m Pr σ H env) (h5 : env[5]? = some (some (.lst [c0, c1, c2, c3, c4]))) (h9 : env[9]? = some (some (.int (a : Nat)))) (kr : KindR names mx rows ms c0 c1 c2 c3 c4) (ha : a < 5) (hm : 50 ≤ m) (hj : 11 < env.length)
    (k : ∀ p o H', But w H H' → oddP rows ms a o → NdO w p 4 11 (m - 50) (fun b => Pr b ∧ b ≠ p) (σ.set 11 (some (.ref p))) H' (env.set 11 none) ([c0, c1, c2, c3, c4].set a o) → H p = none → rest D (σ.set 11 (some (.ref p))) H') :
    tSeq (tAsg (tCall (spSpo 50) [] E0 (tCons (tVar 4) (tCons (tVar 5) (tCons (tVar 9) tNil)))) (gName 11)) rest D σ H := by
  obtain ⟨v5, hv5, r5⟩ := nd.get h5
  obtain ⟨v9, hv9, r9⟩ := nd.get h9
  exact ⟨_, nd.at_, _, hv5, _, hv9, m - 50, Pr, w, [v5, v9], a, names, mx, rows, ms, c0, c1, c2, c3, c4, rfl, .cons r5 (.cons r9 .nil), nd.fr, nd.nw, nd.wl.le (by omega), kr, ha, fun p vs o H' hp B W ho h' r => k p o H' B ho (nd.own' (by decide) hj hp B W h' r) hp⟩
/-- xs[b] = spoilt(..)[b] -/
theorem st_spo2 {b : Nat} {names mx : List Str} {rows ms ds : List E} {c0 c1 c2 c3 c4 : E} {E0 : XK} (nO : NdO w L 4 11 m Pr σ H env ds) (h5 : env[5]? = some (some (.lst [c0, c1, c2, c3, c4]))) (h10 : env[10]? = some (some (.int (b : Nat)))) (kr : KindR names mx rows ms c0 c1 c2 c3 c4) (hb : b < 5) (hm : 50 ≤ m) (hl : ds.length = 5)
    (k : ∀ o H', But w H H' ∨ True → oddP rows ms b o → (∀ H0, But w H0 H → H0 L = none → But w H0 H') → NdO w L 4 11 (m - 50) Pr σ H' env (ds.set b o) → D.nx σ H') :
    tAsg (tOp (rIxL K) (tCall (spSpo 50) [] E0 (tCons (tVar 4) (tCons (tVar 5) (tCons (tVar 10) tNil)))) (tVar 10)) (gSub (tVar 11) (tVar 10) rSetL) D σ H := by
  have nd := nO.nd
  obtain ⟨v5, hv5, r5⟩ := nd.get h5
  obtain ⟨v10, hv10, r10⟩ := nd.get h10
  have e10 : v10 = .int (b : Nat) := by cases r10; rfl
  subst e10
  refine ⟨_, nd.at_, _, hv5, _, hv10, m - 50, Pr, w, [v5, .int (b : Nat)], b, names, mx, rows, ms, c0, c1, c2, c3, c4, rfl, .cons r5 (.cons r10 .nil), nd.fr, nd.nw, nd.wl.le (by omega), kr, hb, fun p vs o H' hp B W ho h' r => ?_⟩
  have hvl : vs.length = 5 := by rw [r.length, List.length_set]; rfl
  have hbv : b < vs.length := by omega
  have hvb := List.getElem?_eq_getElem hbv
  generalize vs[b] = v at hvb
  have rv : Rp (keepH (fun b => Pr b ∧ b ≠ p) H') v o := r.get b v o hvb (List.getElem?_set_self (by exact hb))
  have rv' : Rp (keepH Pr H') v o := rv.mono fun a u e => by
    obtain ⟨pa, e'⟩ := keep_some e
    rw [keep_at pa.1]
    exact e'
  have nO1 := nO.next B W
  obtain ⟨ws, g1, g2⟩ := nO1.vs
  have hwl := g2.length
  refine ⟨_, hv10, p, vs, (b : Nat), v, rfl, rfl, SqL.of h', atI_nat hvb, ?_⟩
  refine ⟨_, nO1.at_, _, hv10, L, ws, (b : Nat), b, rfl, rfl, g1, ?_, ?_⟩
  · unfold ixN
    rw [if_pos (by omega), if_pos (by omega)]
    rfl
  · refine k o _ (.inr trivial) ho (fun H0 B0 h0 => NdO.fresh (B0.trans B) h0) (nO1.put (RpL.of (by rw [List.length_set, List.length_set]; exact hwl) fun a v' d' h1 h2 => ?_))
    by_cases ha : b = a
    · subst ha
      rw [List.getElem?_set_self (by omega)] at h1 h2
      cases h1
      cases h2
      exact rv'
    · rw [List.getElem?_set_ne ha] at h1 h2
      exact g2.get a v' d' h1 h2
end
def chkF : Option E → Bool
  | some (.bl false) => true
  | _ => false
def subE : List (Option E) → List (Option E) → Prop
  | [], [] => True
  | none :: l, _ :: l' => subE l l'
  | some d :: l, e :: l' => e = some d ∧ subE l l'
  | _, _ => False
theorem subE_len : ∀ {l l' : List (Option E)}, subE l l' → l.length = l'.length
  | [], [], _ => rfl
  | none :: l, _ :: l', h => congrArg (· + 1) (subE_len (l := l) (l' := l') h)
  | some d :: l, e :: l', h => congrArg (· + 1) (subE_len h.2)
  | [], _ :: _, h => h.elim
  | none :: _, [], h => h.elim
  | some _ :: _, [], h => h.elim
theorem subE_at : ∀ {l l' : List (Option E)}, subE l l' → ∀ (i : Nat) (d : E), l[i]? = some (some d) → l'[i]? = some (some d)
  | none :: l, _ :: l', h, i + 1, d, e => subE_at (l := l) (l' := l') h i d e
  | some d :: l, e' :: l', h, 0, d', e => by
    cases e
    rw [h.1]
    rfl
  | some d :: l, e' :: l', h, i + 1, d', e => subE_at h.2 i d' e
  | none :: l, _ :: l', h, 0, d, e => by cases e
  | [], _, _, i, d, e => by cases e
  | none :: _, [], h, _, _, _ => h.elim
  | some _ :: _, [], h, _, _, _ => h.elim
theorem en_sub {H : Hp} {σ : L2.St} {env env' : List (Option E)} (h : En H σ env) (s : subE env' env) : En H σ env' := ⟨h.1.trans (subE_len s).symm, fun i d e => h.2 i d (subE_at s i d e)⟩
theorem cut_ints {ns : List Int} {y : V} {lo hi : Option Int} (h : y ∈ cutV (ns.map V.int) lo hi) : ∃ z, y = V.int z := by
  unfold cutV at h
  obtain ⟨z, _, e⟩ := List.mem_map.mp (List.mem_of_mem_drop (List.mem_of_mem_take h))
  exact ⟨z, e.symm⟩
theorem en_skip {H : Hp} {σ : L2.St} {env : List (Option E)} {j : Nat} {v : Option V} (h : En H σ env) (e : env[j]? = some none) : En H (σ.set j v) env := ⟨by rw [List.length_set]; exact h.1, fun i d e' => by
  by_cases ha : j = i
  · rw [← ha, e] at e'
    cases e'
  · rw [List.getElem?_set_ne ha]
    exact h.2 i d e'⟩
theorem kn_sub {x : Str} (h : x ∈ (["web", "a", "abcdefghijkl"] : List Str)) : x ∈ knames := by
  simp only [List.mem_cons, List.not_mem_nil, or_false] at h
  rcases h with rfl | rfl | rfl <;> decide +kernel
theorem chkF_eq {o : Option E} (h : chkF o = true) : o = some (.bl false) := by
  unfold chkF at h
  split at h
  · rfl
  · cases h
def parts5 : List Str := ["name", "given", "made", "single", "holds"]
section
variable {CS : List Addr} {CK : Addr} {names mx : List Str} {rows ms : List E} {n g m s h o r : E} {n' g' m' s' h' : E}
theorem eqU_at (hi : insOk CS o = true) (h0 : othF CK 5 [n, g, m, s, h] o = some r) : ET.eqU CK CS (veqF CK 5) (.ins CK flds [n, g, m, s, h]) o = some r := by
  show (if CK = CK ∧ insOk CS o = true then (if CK = CK ∧ flds = flds then othF CK 5 [n, g, m, s, h] o else none) else none) = _
  rw [if_pos ⟨rfl, hi⟩, if_pos ⟨rfl, rfl⟩]
  exact h0
theorem eq_of {b : Bool} (inC : CK ∈ CS) (f : Fit n g m s h) (f' : Fit n' g' m' s' h') (e : eqE 5 (.tup [n, g, m, s, h]) (.tup [n', g', m', s', h']) = b) : ET.eqU CK CS (veqF CK 5) (.ins CK flds [n, g, m, s, h]) (.ins CK flds [n', g', m', s', h']) = some (.bl b) := by
  refine eqU_at (decide_eq_true inC) ?_
  show (if CK = CK ∧ flds = flds then K05.eqF 5 [.tup [n, g, m, s, h], .tup [n', g', m', s', h']] else none) = _
  rw [if_pos ⟨rfl, rfl⟩, eqF_at f.q f'.q f.dp f'.dp, e]
theorem eq_self (inC : CK ∈ CS) (k : KindR names mx rows ms n g m s h) : ET.eqU CK CS (veqF CK 5) (.ins CK flds [n, g, m, s, h]) (.ins CK flds [n, g, m, s, h]) = some (.bl true) := eq_of inC k.fit k.fit k.refl
theorem ne_self (inC : CK ∈ CS) (k : KindR names mx rows ms n g m s h) : ET.neU CK CS (veqF CK 5) (.ins CK flds [n, g, m, s, h]) (.ins CK flds [n, g, m, s, h]) = some (.bl false) := mp true (bnd _ (eq_self inC k) rfl)
theorem eq_no (h0 : (match o with | .ins _ _ _ => false | _ => true) = true) : ET.eqU CK CS (veqF CK 5) (.ins CK flds [n, g, m, s, h]) o = some (.bl false) := by
  cases o <;> first | (cases h0; done) | exact eqU_at rfl rfl
end
theorem slT_tail (a : E) (r : List E) : (match E.tup (a :: r) with | .tup l => if HT.sIx l.length 0 (some 1) = 0 ∧ HT.sIx l.length l.length none = l.length then none else some (.tup (cutE l (some 1) none)) | _ => none) = some (E.tup r) := by
  show (if _ then _ else _) = _
  rw [if_neg fun z => ?_, cut1]
  have h := z.1
  rw [show ((1 : Int)) = ((1 : Nat) : Int) from rfl, HT.sIx_nat, List.length_cons] at h
  omega
theorem catT_ok {x : E} {l m : List E} (h : (x :: l).length + m.length ≤ 900) : catT (.tup (x :: l)) (.tup m) = some (.tup (x :: l ++ m)) := by
  show (if _ then _ else _) = _
  rw [if_pos h]
theorem neP_same {p : Str} (h : p ∈ parts5) : eqP true (.tup [.str "refused", .str p]) (.tup [.str "refused", .str p]) = some (.bl false) := by
  simp only [parts5, List.mem_cons, List.not_mem_nil, or_false] at h
  rcases h with rfl | rfl | rfl | rfl | rfl <;> exact chkF_eq (by decide +kernel)
theorem en_none {H : Hp} {σ : L2.St} {n : Nat} (h : σ.length = n) : En H σ (List.replicate n none) := ⟨by rw [h, List.length_replicate], fun i d e => by
  rw [List.getElem?_replicate] at e
  split at e
  · cases e
  · cases e⟩
theorem said_none {CK : Addr} {ds : List E} (k : kindE ds = none) (d : kindD ds = true) : saidF CK [.lst ds] = some (.ins CK flds ds) := by
  show (if kindD ds = true then some (saidE CK ds) else none) = _
  rw [if_pos d]
  unfold saidE
  rw [k]
theorem said_part {CK : Addr} {ds : List E} {p : Str} (k : kindE ds = some p) (d : kindD ds = true) : saidF CK [.lst ds] = some (.tup [.str "refused", .str p]) := by
  show (if kindD ds = true then some (saidE CK ds) else none) = _
  rw [if_pos d]
  unfold saidE
  rw [k]
theorem saidB {CK : Addr} : saidF CK [.lst [.str "net", .tup [], .tup [idT], .non, .tup []]] = some (.ins CK flds [.str "net", .tup [], .tup [idT], .non, .tup []]) := said_none (by decide +kernel) (by decide +kernel)
theorem saidB2 {CK : Addr} : saidF CK [.lst [.str "net", .tup [], .tup [], .non, .tup []]] = some (.tup [.str "refused", .str "made"]) := said_part (by decide +kernel) (by decide +kernel)
theorem isT_ins {CS : List Addr} {C : Addr} {ns : List Str} {ds : List E} (h : C ∈ CS) : isT CS "tuple" (.ins C ns ds) = some (.bl false) := if_pos h
theorem fld_is {C : Addr} {f : Str} {ds : List E} {d : E} (h : getF flds ds f = some d) : fldE C f (.ins C flds ds) = some d := (if_pos rfl).trans h
def OddK (a : Nat) (ds : List E) : Prop := kindD ds = true ∧ ∃ p : Str, parts5[a]? = some p ∧ kindE ds = some p
section
variable {names mx : List Str} {rows ms : List E} {n g m s h : E}
theorem odd_facts (kr : KindR names mx rows ms n g m s h) : (∀ o, oddP rows ms 0 o → nameE o = false ∧ pl o = true) ∧ (∀ o, oddP rows ms 1 o → gvsE o = false ∧ gvsD o = true) ∧ (∀ o, oddP rows ms 2 o → (madeE (nmsE g) (plsE g) o && decide ((itm g).length + (itm o).length ≤ 8)) = false ∧ (pl o && szE o && hdD o) = true) ∧
    (∀ o, oddP rows ms 3 o → sngE (nmsE g) o = false ∧ pl o = true) ∧ (∀ o, oddP rows ms 4 o → heldE (nmsE g) o = false ∧ (pl o && szE o) = true) := by
  have G := kr.good.1
  have hg := kr.g
  subst hg
  have hnm := G.nm
  refine ⟨fun o ho => odd0 o ho, fun o ho => ?_, fun o ho => ?_, fun o ho => ?_, fun o ho => ?_⟩
  · obtain ⟨a, b, c, d, rest, hr, ho⟩ := ho
    have gr := kr.gr
    rw [hr] at gr
    exact odd1 gr o ho
  · rw [hnm]
    exact odd2 kr.gr kr.mr ho
  · rw [hnm]
    exact odd3 kr.gr.n o ho
  · rw [hnm]
    exact odd4 kr.gr.n o ho
theorem spo_k (kr : KindR names mx rows ms n g m s h) {a : Nat} {o : E} (ha : a < 5) (ho : oddP rows ms a o) : OddK a ([n, g, m, s, h].set a o) := by
  have G := kr.good.1
  obtain ⟨f0, f1, f2, f3, f4⟩ := odd_facts kr
  match a, ha, ho with
  | 0, _, ho => exact ⟨kindD_of (f0 _ ho).2 G.gD G.mD G.sD G.hD, _, rfl, kind0 (f0 _ ho).1⟩
  | 1, _, ho => exact ⟨kindD_of G.nD (f1 _ ho).2 G.mD G.sD G.hD, _, rfl, kind1 G.n1 (f1 _ ho).1⟩
  | 2, _, ho => exact ⟨kindD_of G.nD G.gD (f2 _ ho).2 G.sD G.hD, _, rfl, kind2 G.n1 G.g1 (f2 _ ho).1⟩
  | 3, _, ho => exact ⟨kindD_of G.nD G.gD G.mD (f3 _ ho).2 G.hD, _, rfl, kind3 G.n1 G.g1 G.m1 (f3 _ ho).1⟩
  | 4, _, ho => exact ⟨kindD_of G.nD G.gD G.mD G.sD (f4 _ ho).2, _, rfl, kind4 G.n1 G.g1 G.m1 G.s1 (f4 _ ho).1⟩
theorem spo_kk (kr : KindR names mx rows ms n g m s h) {a b : Nat} {o o' : E} (hab : a < b) (hb : b < 5) (ho : oddP rows ms a o) (ho' : oddP rows ms b o') : OddK a (([n, g, m, s, h].set a o).set b o') := by
  have G := kr.good.1
  obtain ⟨f0, f1, f2, f3, f4⟩ := odd_facts kr
  match a, b, hab, hb, ho, ho' with
  | 0, 1, _, _, ho, ho' => exact ⟨kindD_of (f0 _ ho).2 (f1 _ ho').2 G.mD G.sD G.hD, _, rfl, kind0 (f0 _ ho).1⟩
  | 0, 2, _, _, ho, ho' => exact ⟨kindD_of (f0 _ ho).2 G.gD (f2 _ ho').2 G.sD G.hD, _, rfl, kind0 (f0 _ ho).1⟩
  | 0, 3, _, _, ho, ho' => exact ⟨kindD_of (f0 _ ho).2 G.gD G.mD (f3 _ ho').2 G.hD, _, rfl, kind0 (f0 _ ho).1⟩
  | 0, 4, _, _, ho, ho' => exact ⟨kindD_of (f0 _ ho).2 G.gD G.mD G.sD (f4 _ ho').2, _, rfl, kind0 (f0 _ ho).1⟩
  | 1, 2, _, _, ho, ho' => exact ⟨kindD_of G.nD (f1 _ ho).2 (f2 _ ho').2 G.sD G.hD, _, rfl, kind1 G.n1 (f1 _ ho).1⟩
  | 1, 3, _, _, ho, ho' => exact ⟨kindD_of G.nD (f1 _ ho).2 G.mD (f3 _ ho').2 G.hD, _, rfl, kind1 G.n1 (f1 _ ho).1⟩
  | 1, 4, _, _, ho, ho' => exact ⟨kindD_of G.nD (f1 _ ho).2 G.mD G.sD (f4 _ ho').2, _, rfl, kind1 G.n1 (f1 _ ho).1⟩
  | 2, 3, _, _, ho, ho' => exact ⟨kindD_of G.nD G.gD (f2 _ ho).2 (f3 _ ho').2 G.hD, _, rfl, kind2 G.n1 G.g1 (f2 _ ho).1⟩
  | 2, 4, _, _, ho, ho' => exact ⟨kindD_of G.nD G.gD (f2 _ ho).2 G.sD (f4 _ ho').2, _, rfl, kind2 G.n1 G.g1 (f2 _ ho).1⟩
  | 3, 4, _, _, ho, ho' => exact ⟨kindD_of G.nD G.gD G.mD (f3 _ ho).2 (f4 _ ho').2, _, rfl, kind3 G.n1 G.g1 G.m1 (f3 _ ho).1⟩
  | a + 4, b, hab, hb, _, _ => exact absurd hab (by omega)
end
section
variable {P : Program} {w : World} {K : PySem.W.Frag} {mg : Str → Option Value} {base : Heap}
variable {CS : List Addr}
theorem scLw : FnScope ["_law_script", "_law_parts", "_law_bare", "_law_cell", "_law_well_here", "_law_some", "_law_one_here", "_law_other", "_law_kept", "_law_at", "_law_more", "_law_spoilt_here", "_law_near", "_law_row", "_law_names", "_law_line", "_law_single_so", "_law_held", "_law_extra", "_law_letter"] ["_law_script"] (defScope sLaw) := ⟨rfl, rfl, rfl, by decide +kernel, rfl, by decide +kernel, by decide +kernel⟩
theorem ok_law {f fSa fW fKi fOn fDr fSp fVE CK : Addr} {fd dSa dW dKi dOn dDr dSp dVE : FuncData} (F : Fun K "law" "law" sLaw f fd) (T : Txt mg) (hC : ∀ C ∈ CS, CF K C) (inC : CK ∈ CS) (cK : Cls K CK) (nA : ∀ x ∈ flds, NoAttr K CK x)
    (hnT : ∀ t ∈ ["NoneType", "bool", "int", "str", "tuple", "dict", "list"], PySem.W.notFirst K CK (.type t) = true) (hnC : ∀ D ∈ CS, PySem.W.notFirst K CK (.ref D) = true)
    (GSa : FnOk P w K mg base CX0 5 fSa dSa ["_law_some"] (spSaid CK)) (gSa : mg "_law_said" = some (.ref fSa)) (kSa : PySem.W.keepIn K (.ref fSa) = true) (bSa : Binds K dSa ["_law_some"] [])
    (GW : FnOk P w K mg base CX0 1 fW dW ["_law_cell"] spWell) (gW : mg "_law_well" = some (.ref fW)) (kW : PySem.W.keepIn K (.ref fW) = true) (bW : Binds K dW ["_law_cell"] [])
    (GKi : FnOk P w K mg base CX0 4 fKi dKi ["_law_well_here", "_law_name"] (spN 500 kindN)) (gKi : mg "_law_kind" = some (.ref fKi)) (kKi : PySem.W.keepIn K (.ref fKi) = true) (bKi : Binds K dKi ["_law_well_here", "_law_name"] [])
    (GOn : FnOk P w K mg base CX0 2 fOn dOn ["_law_well_here", "_law_some"] (spN 1 oneN)) (gOn : mg "_law_one" = some (.ref fOn)) (kOn : PySem.W.keepIn K (.ref fOn) = true) (bOn : Binds K dOn ["_law_well_here", "_law_some"] [])
    (GDr : FnOk P w K mg base CX0 1 fDr dDr ["_law_well_here", "_law_below"] (spN 1 drawN)) (gDr : mg "_law_draw" = some (.ref fDr)) (kDr : PySem.W.keepIn K (.ref fDr) = true) (bDr : Binds K dDr ["_law_well_here", "_law_below"] [])
    (GSp : FnOk P w K mg base CX0 4 fSp dSp ["_law_well_here", "_law_some", "_law_at"] (spSpo 50)) (gSp : mg "_law_spoilt" = some (.ref fSp)) (kSp : PySem.W.keepIn K (.ref fSp) = true) (bSp : Binds K dSp ["_law_well_here", "_law_some", "_law_at"] [])
    (GVE : FnOk P w K mg base CX0 9 fVE dVE ["self", "other"] (spP (veqF CK 5))) (eVE : PySem.W.findIn K (.ref CK) "__eq__" = some (some (.ref fVE))) (iVE : PySem.W.isFn K (.ref fVE) = true) (bVE : Binds K dVE ["self", "other"] []) (nVE : PySem.W.findIn K (.ref CK) "__ne__" = some (some (.builtin "object.__ne__"))) (sVE : PySem.W.subIn K (.ref CK) (.type "object") = some true) :
    FnOk P w K mg base CX0 11 f fd ["_law_script"] (spLaw K) := by
  refine F.ok scLw (fun vs H Q E0 h => ?_) (fun cdv A outer s H vs Q E0 hr h => ?_)
  · obtain ⟨a, ns, rfl, _⟩ := h
    rfl
  have hrE1 : Room 10 _ := hr
  have hrE : Room 9 _ := hr.mono (by decide)
  have hr5 : Room 5 _ := hr.mono (by decide)
  have hr4 : Room 4 _ := hr.mono (by decide)
  have hr2 : Room 2 _ := hr.mono (by decide)
  have hr1 : Room 1 _ := hr.mono (by decide)
  refine ⟨_, (pss_cons (ps_set (i := 1) scLw.nd rfl (Or.inl rfl) (pe_lst (pa_cons pe_str (pa_cons pe_str (pa_cons pe_str (pa_cons pe_str (pa_cons pe_str pa_nil)))))))
      (pss_cons (ps_set (i := 2) scLw.nd rfl (Or.inl rfl) (pe_call GSa hr5 rfl gSa kSa bSa .nil pass0 (pa_cons (pe_lst (pa_cons pe_str (pa_cons (pe_tup pa_nil) (pa_cons (pe_tup (pa_cons (pe_tup (pa_cons pe_str (pa_cons (pe_tup (pa_cons pe_str pa_nil)) pa_nil))) pa_nil)) (pa_cons pe_non (pa_cons (pe_tup pa_nil) pa_nil)))))) pa_nil)))
      (pss_cons (ps_if (PW.pt (pw_or (pt_val (pe_callB (call_isiK (K := K) rfl) (by rfl) T.isi (by decide +kernel) (pa_cons (pv 2) (pa_cons (pe_bltn (v := .ty "tuple") (by rfl) T.tuple (by decide +kernel) rfl) pa_nil)))) (pw_or (pt_cmpR (op_neNilT rfl hr.units0) (pe_fldK (K := K) rfl (pv 2) rfl) (pe_tup pa_nil) (nomark _)) (pw_or1 (pt_cmpR (op_nePK (K := K) rfl hr.units) (pe_call GSa hr5 rfl gSa kSa bSa .nil pass0 (pa_cons (pe_lst (pa_cons pe_str (pa_cons (pe_tup pa_nil) (pa_cons (pe_tup pa_nil) (pa_cons pe_non (pa_cons (pe_tup pa_nil) pa_nil)))))) pa_nil)) (pe_tup (pa_cons pe_str (pa_cons pe_str pa_nil))) (nomark _)))))) (pss_one (ps_ret pe_bl)) pss_nil)
      (pss_cons (ps_for PassesOwn.never rfl (pi_lstK (K := K) rfl (pe_op op_cat (pe_slice (sl_lstK (K := K) rfl) (pv 0) po_none (po_some pe_int)) (pe_lst (pa_cons pe_int pa_nil)))) (pg_name (i := 3) scLw.nd rfl (Or.inl rfl))
        (pss_cons (ps_set (i := 4) scLw.nd rfl (Or.inl rfl) (pe_call GW hr1 rfl gW kW bW .nil pass0 (pa_cons (pv 3) pa_nil)))
        (pss_cons (ps_set (i := 5) scLw.nd rfl (Or.inl rfl) (pe_call GKi hr4 rfl gKi kKi bKi .nil pass0 (pa_cons (pv 4) (pa_cons (pe_call GOn hr2 rfl gOn kOn bOn .nil pass0 (pa_cons (pv 4) (pa_cons (pe_lst (pa_cons pe_str (pa_cons pe_str (pa_cons pe_str pa_nil)))) pa_nil))) pa_nil))))
        (pss_cons (ps_par (i := 6) (j := 7) (by rfl) scLw.nd rfl rfl (by decide) rfl rfl (pa_cons (pe_call GSa hr5 rfl gSa kSa bSa .nil pass0 (pa_cons (pv 5) pa_nil)) (pa_cons (pe_call GSa hr5 rfl gSa kSa bSa .nil pass0 (pa_cons (pv 5) pa_nil)) pa_nil)) (by rfl))
        (pss_cons (ps_if (PW.pt (pw_or (pt_val (pe_callB (call_isiK (K := K) rfl) (by rfl) T.isi (by decide +kernel) (pa_cons (pv 6) (pa_cons (pe_bltn (v := .ty "tuple") (by rfl) T.tuple (by decide +kernel) rfl) pa_nil)))) (pw_or (pt_not (pt_cmpR (op_eqUK (K := K) (C := CK) rfl GVE eVE iVE bVE hrE) (pv 6) (pv 7) (nomark _))) (pw_or1 (pt_cmpR (op_neUK (K := K) (C := CK) rfl GVE eVE iVE nVE sVE bVE hrE1) (pv 6) (pv 7) (nomark _)))))) (pss_one (ps_ret pe_bl)) pss_nil)
        (pss_cons (ps_set (i := 8) scLw.nd rfl (Or.inl rfl) (pe_lst (pa_cons (pe_fldK (K := K) rfl (pv 6) rfl) (pa_cons (pe_fldK (K := K) rfl (pv 6) rfl) (pa_cons (pe_fldK (K := K) rfl (pv 6) rfl) (pa_cons (pe_fldK (K := K) rfl (pv 6) rfl) (pa_cons (pe_fldK (K := K) rfl (pv 6) rfl) pa_nil)))))))
        (pss_cons (ps_if (PW.pt (pw_or (pt_cmpR (op_neId hr.units0) (pv 8) (pv 5) (nomark _)) (pw_or (pt_cmpR (op_eqUK (K := K) (C := CK) rfl GVE eVE iVE bVE hrE) (pv 6) (pv 8) (nomark _)) (pw_or1 (pt_cmpR (op_eqUK (K := K) (C := CK) rfl GVE eVE iVE bVE hrE) (pv 6) pe_non (nomark _)))))) (pss_one (ps_ret pe_bl)) pss_nil)
        (pss_cons (ps_par (i := 9) (j := 10) (by rfl) scLw.nd rfl rfl (by decide) rfl rfl (pa_cons (pe_call GDr hr1 rfl gDr kDr bDr .nil pass0 (pa_cons (pv 4) (pa_cons pe_int pa_nil))) (pa_cons (pe_call GDr hr1 rfl gDr kDr bDr .nil pass0 (pa_cons (pv 4) (pa_cons pe_int pa_nil))) pa_nil)) (by rfl))
        (pss_cons (ps_set (i := 11) scLw.nd rfl (Or.inl rfl) (pe_call GSp hr4 rfl gSp kSp bSp .nil pass0 (pa_cons (pv 4) (pa_cons (pv 5) (pa_cons (pv 9) pa_nil)))))
        (pss_cons (ps_via (ps_if (PW.pt (pw_and (pt_cmpR op_gt (pv 10) (pv 9) (nomark _)) (pw_and1 (pt_cmpR op_lt (pv 10) pe_int (nomark _))))) (pss_one (ps_asg (pe_ix (ix_lstK (K := K) rfl) (pe_call GSp hr4 rfl gSp kSp bSp .nil pass0 (pa_cons (pv 4) (pa_cons (pv 5) (pa_cons (pv 10) pa_nil)))) (pv 10) (fun _ _ => rfl)) (pg_sub (pv 11) (pv 10) set_list))) pss_nil))
        (pss_cons (ps_if (pt_cmpR (op_nePK (K := K) rfl hr.units) (pe_call GSa hr5 rfl gSa kSa bSa .nil pass0 (pa_cons (pv 11) pa_nil)) (pe_tup (pa_cons pe_str (pa_cons (pe_ix (ix_lstK (K := K) rfl) (pv 1) (pv 9) (fun _ _ => rfl)) pa_nil))) (nomark _)) (pss_one (ps_ret pe_bl)) pss_nil)
        (pss_cons (ps_set (i := 12) scLw.nd rfl (Or.inl rfl) (pe_callTy (call_lstK (K := K) rfl) (by rfl) T.list (by decide +kernel) (pa_cons (pv 5) pa_nil)))
        (pss_cons (ps_set (i := 13) scLw.nd rfl (Or.inl rfl) (pe_ix (ix_tupK (K := K) rfl) (pe_ix (ix_lstK (K := K) rfl) (pv 5) pe_int (fun _ _ => rfl)) pe_int (fun _ _ => rfl)))
        (pss_cons (ps_asg (pe_op (op_catTK (K := K) rfl) (pe_tup (pa_cons (pe_op (op_catTK (K := K) rfl) (pe_slice (sl_tupK (K := K) rfl) (pv 13) po_none (po_some pe_int)) (pe_tup (pa_cons (pe_not (pe_ix (ix_tupK (K := K) rfl) (pv 13) pe_int (fun _ _ => rfl))) (pa_cons (pe_ix (ix_tupK (K := K) rfl) (pv 13) pe_int (fun _ _ => rfl)) pa_nil)))) pa_nil)) (pe_slice (sl_tupK (K := K) rfl) (pe_ix (ix_lstK (K := K) rfl) (pv 5) pe_int (fun _ _ => rfl)) (po_some pe_int) po_none)) (pg_sub (pv 12) pe_int set_list))
        (pss_cons (ps_if (PW.pt (pw_or (pt_cmpR (op_eqUK (K := K) (C := CK) rfl GVE eVE iVE bVE hrE) (pe_call GSa hr5 rfl gSa kSa bSa .nil pass0 (pa_cons (pv 12) pa_nil)) (pv 6) (nomark _)) (pw_or1 (pt_cmpR (op_eqUK (K := K) (C := CK) rfl GVE eVE iVE bVE hrE) (pe_call GSa hr5 rfl gSa kSa bSa .nil pass0 (pa_cons (pe_op op_cat (pe_lst (pa_cons pe_str pa_nil)) (pe_slice (sl_lstK (K := K) rfl) (pv 5) (po_some pe_int) po_none)) pa_nil)) (pv 6) (nomark _))))) (pss_one (ps_ret pe_bl)) pss_nil)
        (pss_cons (ps_setLc (i := 14) (own := [("_law_line", 15)]) (g := gName 15) (tt := tYes) rfl scLw.nd rfl rfl (sw_true rfl rfl rfl (by decide +kernel)) (pi_tupK (K := K) rfl (pe_ix (ix_lstK (K := K) rfl) (pv 5) pe_int (fun _ _ => rfl))) (blkOk_by (own := [("_law_line", 15)]) (N := ["_law_script", "_law_parts", "_law_bare", "_law_cell", "_law_well_here", "_law_some", "_law_one_here", "_law_other", "_law_kept", "_law_at", "_law_more", "_law_spoilt_here", "_law_near", "_law_row", "_law_names", "_law_line", "_law_single_so", "_law_held", "_law_extra", "_law_letter"]) (sc := (defScope sLaw)) (by decide +kernel)) (fun _ _ _ _ _ => pg_name (i := 15) scLw.nd rfl (Or.inl rfl)) (fun _ _ _ _ _ => pts_nil) (fun _ _ _ _ _ => (pe_ix (ix_tupK (K := K) rfl) (pv 15) pe_int (fun _ _ => rfl))))
        (pss_cons (ps_set (i := 16) scLw.nd rfl (Or.inl rfl) (pe_ifExp (pt_cmpR op_isNo (pe_ix (ix_lstK (K := K) rfl) (pv 5) pe_int (fun _ _ => rfl)) pe_non (nomark _)) (pe_ix (ix_lstK (K := K) rfl) (pv 14) (pe_un un_neg pe_int) (fun _ _ => rfl)) pe_non))
        (pss_cons (ps_set (i := 17) scLw.nd rfl (Or.inl rfl) (pe_ifExp (pt_cmpR (op_eqNilT rfl hr.units0) (pe_ix (ix_lstK (K := K) rfl) (pv 5) pe_int (fun _ _ => rfl)) (pe_tup pa_nil) (nomark _)) (pe_callTy (call_tupK (K := K) rfl) (by rfl) T.tuple (by decide +kernel) (pa_cons (pv 14) pa_nil)) (pe_tup pa_nil)))
        (pss_cons (ps_if (PW.pt (pw_or (pt_cmpR (op_eqUK (K := K) (C := CK) rfl GVE eVE iVE bVE hrE) (pe_call GSa hr5 rfl gSa kSa bSa .nil pass0 (pa_cons (pe_op op_cat (pe_slice (sl_lstK (K := K) rfl) (pv 5) po_none (po_some pe_int)) (pe_lst (pa_cons (pv 16) (pa_cons (pe_ix (ix_lstK (K := K) rfl) (pv 5) pe_int (fun _ _ => rfl)) pa_nil)))) pa_nil)) (pv 6) (nomark _)) (pw_or1 (pt_cmpR (op_eqUK (K := K) (C := CK) rfl GVE eVE iVE bVE hrE) (pe_call GSa hr5 rfl gSa kSa bSa .nil pass0 (pa_cons (pe_op op_cat (pe_slice (sl_lstK (K := K) rfl) (pv 5) po_none (po_some pe_int)) (pe_lst (pa_cons (pv 17) pa_nil))) pa_nil)) (pv 6) (nomark _))))) (pss_one (ps_ret pe_bl)) pss_nil)
        (pss_cons (ps_setLc (i := 18) (own := [("_law_letter", 19)]) (g := gName 19) (tt := tYes) rfl scLw.nd rfl rfl (sw_true rfl rfl rfl (by decide +kernel)) (pi_str (pe_slice sl_str pe_str po_none (po_some (pe_op op_sub (pe_op op_sub pe_int (pe_callB (call_lenK (K := K) rfl) (by rfl) T.len (by decide +kernel) (pa_cons (pe_ix (ix_lstK (K := K) rfl) (pv 5) pe_int (fun _ _ => rfl)) pa_nil))) (pe_callB (call_lenK (K := K) rfl) (by rfl) T.len (by decide +kernel) (pa_cons (pe_ix (ix_lstK (K := K) rfl) (pv 5) pe_int (fun _ _ => rfl)) pa_nil)))))) (blkOk_by (own := [("_law_letter", 19)]) (N := ["_law_script", "_law_parts", "_law_bare", "_law_cell", "_law_well_here", "_law_some", "_law_one_here", "_law_other", "_law_kept", "_law_at", "_law_more", "_law_spoilt_here", "_law_near", "_law_row", "_law_names", "_law_line", "_law_single_so", "_law_held", "_law_extra", "_law_letter"]) (sc := (defScope sLaw)) (by decide +kernel)) (fun _ _ _ _ _ => pg_name (i := 19) scLw.nd rfl (Or.inl rfl)) (fun _ _ _ _ _ => pts_nil) (fun _ _ _ _ _ => (pe_tup (pa_cons (pe_op op_addSK pe_str (pv 19)) (pa_cons (pe_tup (pa_cons pe_str pa_nil)) pa_nil)))))
        (pss_one (ps_if (pt_cmpR (op_nePK (K := K) rfl hr.units) (pe_call GSa hr5 rfl gSa kSa bSa .nil pass0 (pa_cons (pe_op op_cat (pe_op op_cat (pe_slice (sl_lstK (K := K) rfl) (pv 5) po_none (po_some pe_int)) (pe_lst (pa_cons (pe_op (op_catTK (K := K) rfl) (pe_ix (ix_lstK (K := K) rfl) (pv 5) pe_int (fun _ _ => rfl)) (pe_callTy (call_tupK (K := K) rfl) (by rfl) T.tuple (by decide +kernel) (pa_cons (pv 18) pa_nil))) pa_nil))) (pe_slice (sl_lstK (K := K) rfl) (pv 5) (po_some pe_int) po_none)) pa_nil)) (pe_tup (pa_cons pe_str (pa_cons pe_str pa_nil))) (nomark _)) (pss_one (ps_ret pe_bl)) pss_nil))))))))))))))))))))))
      (pss_one (ps_ret pe_bl)))))), ?_⟩
  obtain ⟨a, ns, rfl, hS, hlen, k⟩ := h
  have en0 : En (keepH (fun _ => True) H) (L2.start ["_law_script", "_law_parts", "_law_bare", "_law_cell", "_law_well_here", "_law_some", "_law_one_here", "_law_other", "_law_kept", "_law_at", "_law_more", "_law_spoilt_here", "_law_near", "_law_row", "_law_names", "_law_line", "_law_single_so", "_law_held", "_law_extra", "_law_letter"] [.ref a]) [none, none, none, none, none, none, none, none, none, none, none, none, none, none, none, none, none, none, none, none] := en_none (n := 20) rfl
  have hσ0 : (L2.start ["_law_script", "_law_parts", "_law_bare", "_law_cell", "_law_well_here", "_law_some", "_law_one_here", "_law_other", "_law_kept", "_law_at", "_law_more", "_law_spoilt_here", "_law_near", "_law_row", "_law_names", "_law_line", "_law_single_so", "_law_held", "_law_extra", "_law_letter"] [.ref a])[0]? = some (some (.ref a)) := rfl
  generalize L2.start ["_law_script", "_law_parts", "_law_bare", "_law_cell", "_law_well_here", "_law_some", "_law_one_here", "_law_other", "_law_kept", "_law_at", "_law_more", "_law_spoilt_here", "_law_near", "_law_row", "_law_names", "_law_line", "_law_single_so", "_law_held", "_law_extra", "_law_letter"] [.ref a] = σ0 at en0 hσ0 ⊢
  have fr0 : ∀ H' : Hp, Fr (fun _ => True) H' := fun _ _ _ => trivial
  -- parts
  apply st_pu (he := en0) (hf := fr0 H) (d := .lst [.str "name", .str "given", .str "made", .str "single", .str "holds"])
  case pu => (repeat' first
    | with_reducible exact pu_var _ | with_reducible exact pu_non | with_reducible exact pu_bl _ | with_reducible exact pu_int _ | with_reducible exact pu_nil | with_reducible exact pu_next | with_reducible exact pu_yes
    | with_reducible apply pu_seq | with_reducible apply pu_ifS | with_reducible apply pu_ret | with_reducible apply pu_asg
    | with_reducible apply pu_and | with_reducible apply pu_or | with_reducible apply pu_not | with_reducible apply pu_test | with_reducible apply pu_b
    | with_reducible apply pu_andV | with_reducible apply pu_orV | with_reducible apply pu_notV | with_reducible apply pu_if
    | with_reducible apply pu_isi hC | with_reducible apply pu_cb (hr := pu_len) | with_reducible apply pu_cb (hr := pu_all) | with_reducible apply pu_cb (hr := pu_any) | with_reducible apply pu_cb (hr := pu_tupOf) | with_reducible apply pu_cb (hr := pu_lstOf)
    | with_reducible exact pu_dnil
    | exact pu_d1 _ _ _ (rpS ⟨by decide +kernel, by decide +kernel⟩)
    | exact pu_d1 _ _ _ rpI
    | exact pu_d1i _ _ _ (rpS ⟨by decide +kernel, by decide +kernel⟩)
    | exact pu_d2 _ _ _ _ _ _ (by decide +kernel) (rpS ⟨by decide +kernel, by decide +kernel⟩) (rpS ⟨by decide +kernel, by decide +kernel⟩)
    | with_reducible apply said_pu
    | with_reducible apply pu_fld cK (nA _ (by decide +kernel))
    | with_reducible apply pu_op (hr := pu_eqU hC hnT hnC veqF_bl)
    | with_reducible apply pu_op (hr := pu_neU hC hnT hnC)
    | with_reducible apply pu_op (hr := pu_eqNilT)
    | with_reducible apply pu_op (hr := pu_neNilT)
    | with_reducible apply pu_op (hr := pu_addS)
    | with_reducible apply pu_neg
    | with_reducible apply pu_slS
    | with_reducible apply pu_iStr
    | with_reducible apply pu_op (hr := pu_ixT) | with_reducible apply pu_op (hr := pu_ixL) | with_reducible apply pu_op (hr := pu_eqS) | with_reducible apply pu_op (hr := pu_neS) | with_reducible apply pu_op (hr := pu_in) | with_reducible apply pu_op (hr := pu_isNo) | with_reducible apply pu_op (hr := pu_notNo)
    | with_reducible apply pu_op (hr := pu_cm) | with_reducible apply pu_op (hr := pu_ar) | with_reducible apply pu_op (hr := pu_eqP) | with_reducible apply pu_op (hr := pu_neP) | with_reducible apply pu_op (hr := pu_catT) | with_reducible apply pu_op (hr := pu_catL)
    | with_reducible apply pu_chain pu_cm pu_cm | with_reducible apply pu_lcV | with_reducible apply pu_dcV | with_reducible apply pu_iTup | with_reducible apply pu_iLst
    | with_reducible apply pu_slT | with_reducible apply pu_slL | with_reducible exact pu_noPart | with_reducible exact pu_part _
    | exact pu_str _ ⟨by decide +kernel, by decide +kernel⟩ | with_reducible apply pu_call | with_reducible apply pu_tup | with_reducible apply pu_lst | with_reducible apply pu_cons | (with_reducible_and_instances rfl) | rfl)
  case e => rfl
  intro v1 H1 m1 en1 r1
  have hσ1 : (σ0.set 1 (some v1))[0]? = some (some (.ref a)) := by rw [List.getElem?_set_ne (by decide)]; exact hσ0
  generalize σ0.set 1 (some v1) = σ1 at en1 hσ1 ⊢
  -- bare
  apply st_pu (he := en1) (hf := fr0 H1) (d := .ins CK flds [.str "net", .tup [], .tup [idT], .non, .tup []])
  case pu => (repeat' first
    | with_reducible exact pu_var _ | with_reducible exact pu_non | with_reducible exact pu_bl _ | with_reducible exact pu_int _ | with_reducible exact pu_nil | with_reducible exact pu_next | with_reducible exact pu_yes
    | with_reducible apply pu_seq | with_reducible apply pu_ifS | with_reducible apply pu_ret | with_reducible apply pu_asg
    | with_reducible apply pu_and | with_reducible apply pu_or | with_reducible apply pu_not | with_reducible apply pu_test | with_reducible apply pu_b
    | with_reducible apply pu_andV | with_reducible apply pu_orV | with_reducible apply pu_notV | with_reducible apply pu_if
    | with_reducible apply pu_isi hC | with_reducible apply pu_cb (hr := pu_len) | with_reducible apply pu_cb (hr := pu_all) | with_reducible apply pu_cb (hr := pu_any) | with_reducible apply pu_cb (hr := pu_tupOf) | with_reducible apply pu_cb (hr := pu_lstOf)
    | with_reducible exact pu_dnil
    | exact pu_d1 _ _ _ (rpS ⟨by decide +kernel, by decide +kernel⟩)
    | exact pu_d1 _ _ _ rpI
    | exact pu_d1i _ _ _ (rpS ⟨by decide +kernel, by decide +kernel⟩)
    | exact pu_d2 _ _ _ _ _ _ (by decide +kernel) (rpS ⟨by decide +kernel, by decide +kernel⟩) (rpS ⟨by decide +kernel, by decide +kernel⟩)
    | with_reducible apply said_pu
    | with_reducible apply pu_fld cK (nA _ (by decide +kernel))
    | with_reducible apply pu_op (hr := pu_eqU hC hnT hnC veqF_bl)
    | with_reducible apply pu_op (hr := pu_neU hC hnT hnC)
    | with_reducible apply pu_op (hr := pu_eqNilT)
    | with_reducible apply pu_op (hr := pu_neNilT)
    | with_reducible apply pu_op (hr := pu_addS)
    | with_reducible apply pu_neg
    | with_reducible apply pu_slS
    | with_reducible apply pu_iStr
    | with_reducible apply pu_op (hr := pu_ixT) | with_reducible apply pu_op (hr := pu_ixL) | with_reducible apply pu_op (hr := pu_eqS) | with_reducible apply pu_op (hr := pu_neS) | with_reducible apply pu_op (hr := pu_in) | with_reducible apply pu_op (hr := pu_isNo) | with_reducible apply pu_op (hr := pu_notNo)
    | with_reducible apply pu_op (hr := pu_cm) | with_reducible apply pu_op (hr := pu_ar) | with_reducible apply pu_op (hr := pu_eqP) | with_reducible apply pu_op (hr := pu_neP) | with_reducible apply pu_op (hr := pu_catT) | with_reducible apply pu_op (hr := pu_catL)
    | with_reducible apply pu_chain pu_cm pu_cm | with_reducible apply pu_lcV | with_reducible apply pu_dcV | with_reducible apply pu_iTup | with_reducible apply pu_iLst
    | with_reducible apply pu_slT | with_reducible apply pu_slL | with_reducible exact pu_noPart | with_reducible exact pu_part _
    | exact pu_str _ ⟨by decide +kernel, by decide +kernel⟩ | with_reducible apply pu_call | with_reducible apply pu_tup | with_reducible apply pu_lst | with_reducible apply pu_cons | (with_reducible_and_instances rfl) | rfl)
  case e => exact bnd _ rfl saidB
  intro v2 H2 m2 en2 r2
  have hσ2 : (σ1.set 2 (some v2))[0]? = some (some (.ref a)) := by rw [List.getElem?_set_ne (by decide)]; exact hσ1
  generalize σ1.set 2 (some v2) = σ2 at en2 hσ2 ⊢
  apply step_if (he := en2) (hf := fr0 H2) (b := false)
  case pu => (repeat' first
    | with_reducible exact pu_var _ | with_reducible exact pu_non | with_reducible exact pu_bl _ | with_reducible exact pu_int _ | with_reducible exact pu_nil | with_reducible exact pu_next | with_reducible exact pu_yes
    | with_reducible apply pu_seq | with_reducible apply pu_ifS | with_reducible apply pu_ret | with_reducible apply pu_asg
    | with_reducible apply pu_and | with_reducible apply pu_or | with_reducible apply pu_not | with_reducible apply pu_test | with_reducible apply pu_b
    | with_reducible apply pu_andV | with_reducible apply pu_orV | with_reducible apply pu_notV | with_reducible apply pu_if
    | with_reducible apply pu_isi hC | with_reducible apply pu_cb (hr := pu_len) | with_reducible apply pu_cb (hr := pu_all) | with_reducible apply pu_cb (hr := pu_any) | with_reducible apply pu_cb (hr := pu_tupOf) | with_reducible apply pu_cb (hr := pu_lstOf)
    | with_reducible exact pu_dnil
    | exact pu_d1 _ _ _ (rpS ⟨by decide +kernel, by decide +kernel⟩)
    | exact pu_d1 _ _ _ rpI
    | exact pu_d1i _ _ _ (rpS ⟨by decide +kernel, by decide +kernel⟩)
    | exact pu_d2 _ _ _ _ _ _ (by decide +kernel) (rpS ⟨by decide +kernel, by decide +kernel⟩) (rpS ⟨by decide +kernel, by decide +kernel⟩)
    | with_reducible apply said_pu
    | with_reducible apply pu_fld cK (nA _ (by decide +kernel))
    | with_reducible apply pu_op (hr := pu_eqU hC hnT hnC veqF_bl)
    | with_reducible apply pu_op (hr := pu_neU hC hnT hnC)
    | with_reducible apply pu_op (hr := pu_eqNilT)
    | with_reducible apply pu_op (hr := pu_neNilT)
    | with_reducible apply pu_op (hr := pu_addS)
    | with_reducible apply pu_neg
    | with_reducible apply pu_slS
    | with_reducible apply pu_iStr
    | with_reducible apply pu_op (hr := pu_ixT) | with_reducible apply pu_op (hr := pu_ixL) | with_reducible apply pu_op (hr := pu_eqS) | with_reducible apply pu_op (hr := pu_neS) | with_reducible apply pu_op (hr := pu_in) | with_reducible apply pu_op (hr := pu_isNo) | with_reducible apply pu_op (hr := pu_notNo)
    | with_reducible apply pu_op (hr := pu_cm) | with_reducible apply pu_op (hr := pu_ar) | with_reducible apply pu_op (hr := pu_eqP) | with_reducible apply pu_op (hr := pu_neP) | with_reducible apply pu_op (hr := pu_catT) | with_reducible apply pu_op (hr := pu_catL)
    | with_reducible apply pu_chain pu_cm pu_cm | with_reducible apply pu_lcV | with_reducible apply pu_dcV | with_reducible apply pu_iTup | with_reducible apply pu_iLst
    | with_reducible apply pu_slT | with_reducible apply pu_slL | with_reducible exact pu_noPart | with_reducible exact pu_part _
    | exact pu_str _ ⟨by decide +kernel, by decide +kernel⟩ | with_reducible apply pu_call | with_reducible apply pu_tup | with_reducible apply pu_lst | with_reducible apply pu_cons | (with_reducible_and_instances rfl) | rfl)
  case e => exact bF (bnd (.bl false) (bnd _ rfl (isT_ins inC)) rfl) (bF (bnd (.bl false) (bnd (.tup []) (bnd _ rfl (fld_is rfl)) (bnd (.tup []) rfl rfl)) rfl) (bnd (.bl false) (bnd _ (bnd _ rfl saidB2) (bnd _ rfl (neP_same (by decide +kernel)))) rfl))
  case hT => intro z; cases z
  rintro _ H3 m3
  have hS3 := (m1.trans (m2.trans m3)).seq hS
  have en3 := en2.keepS m3
  show tSeq _ _ _ σ2 H3
  refine ⟨_, hσ2, 10, rfl, a, _, rfl, hS3, fun q0 hq0 => ?_⟩
  have n0 := same_new (o := .lst (cutV (ns.map V.int) none (some 10))) hq0
  refine ⟨(by show 1 ≤ sizeLine; decide), fun q1 hq1 => ?_⟩
  have n1 := same_new (o := .lst [.int 0]) hq1
  have lc := cutV_length (ns.map V.int) none (some 10)
  rw [List.length_map] at lc
  refine ⟨q0, q1, _, _, rfl, rfl, n1 _ _ upd_same, upd_same, ?_, fun q2 hq2 => ?_⟩
  · rw [sizeLine_eq]
    show _ + 1 ≤ _
    omega
  have hints : ∀ y ∈ cutV (ns.map V.int) none (some 10) ++ [.int 0], ∃ z, y = V.int z := fun y hy => by
    rcases List.mem_append.mp hy with h | h
    · exact cut_ints h
    · exact ⟨0, by simpa using h⟩
  generalize hLs : cutV (ns.map V.int) none (some 10) ++ [.int 0] = Ls at hints ⊢
  have f2 : (upd _ q2 (.lst Ls)) q2 = _ := at_new hq2
  have n2 := (n0.trans n1).trans (same_new (o := .lst Ls) hq2)
  generalize (upd _ q2 (.lst Ls)) = G2 at f2 n2 ⊢
  have en4 : En (keepH (fun _ => True) G2) σ2 [none, some (.lst (parts5.map E.str)), none, none, none, none, none, none, none, none, none, none, none, none, none, none, none, none, none, none] := en_sub (en3.keepS n2) (by show _ ∧ True; exact ⟨rfl, trivial⟩)
  clear n0 n1 lc en0 en1 en2 en3
  refine ⟨q2, rfl, ⟨_, SqL.of f2⟩, for_list (K := K) (a := q2) (xs := Ls)
    (fun i σ H' => H' q2 = some (.lst Ls) ∧ En (keepH (fun _ => True) H') σ [none, some (.lst (parts5.map E.str)), none, none, none, none, none, none, none, none, none, none, none, none, none, none, none, none, none, none])
    ⟨f2, en4⟩ (fun i σ H' _ m => SqL.of m.1) ?_ ?_⟩
  rotate_left
  · rintro σ H5 _
    exact k H5
  rintro i y σ H5 hi ⟨q5, en5⟩
  obtain ⟨z, rfl⟩ := hints y (List.mem_of_getElem? hi)
  clear hS hS3 hσ2 hσ1 hσ0 f2 n2 en4 r1 r2
  have en6 := en5.set (i := 3) (Rp.int (H := keepH (fun _ => True) H5) z)
  show tSeq (tAsg _ (gName 4)) _ _ (σ.set 3 (some (V.int z))) H5
  generalize σ.set 3 (some (V.int z)) = σ6 at en6 ⊢
  obtain ⟨v3, hσ6, r3⟩ := en6.2 3 (.int z) rfl
  cases r3
  -- the well
  refine st_well hσ6 fun p a' b' H6 m6 hp W6 => ?_
  have nd6 : Nd p 4 1000000000000000 (fun b => b ≠ p) (σ6.set 4 (some (.ref p))) H6 [none, some (.lst (parts5.map E.str)), none, some (.int z), none, none, none, none, none, none, none, none, none, none, none, none, none, none, none, none] := by
    refine ⟨en_skip (j := 4) (en6.mono fun b o e => ?_) rfl, fun b hb => ?_, fun z => z rfl, ⟨a', b', 0, W6, by decide⟩, ?_⟩
    · have e' := (keep_some e).2
      rw [keep_at (P := fun b => b ≠ p) (show b ≠ p from ne_of_none e' hp)]
      exact m6 _ _ e'
    · intro z
      rw [z, W6.at_] at hb
      cases hb
    · rw [List.getElem?_set_self (by rw [en6.1]; show 4 < 20; decide)]
  have start : ∀ (H' : Hp) (σ' : L2.St) (env : List (Option E)) (n : Nat) (Pr : Addr → Prop), But p H6 H' → Nd p 4 n Pr σ' H' env → subE [none, some (.lst (parts5.map E.str)), none, none, none, none, none, none, none, none, none, none, none, none, none, none, none, none, none, none] env → H' q2 = some (.lst Ls) ∧ En (keepH (fun _ => True) H') σ' [none, some (.lst (parts5.map E.str)), none, none, none, none, none, none, none, none, none, none, none, none, none, none, none, none, none, none] := fun H' σ' env n Pr B nd s =>
    ⟨B _ _ (m6 _ _ q5) (ne_of_none q5 hp), en_sub (nd.en.mono fun b o e => by rw [keep_at trivial]; exact (keep_some e).2) s⟩
  generalize σ6.set 4 (some (V.ref p)) = σ7 at nd6 ⊢
  clear en6 en5 W6 hσ6
  obtain ⟨Pr, hPr⟩ : ∃ Pr : Addr → Prop, Pr = fun b => b ≠ p := ⟨_, rfl⟩
  rw [← hPr] at nd6
  clear hPr
  -- some
  apply st_set (nd := nd6) (Φ := fun d => ∃ names mx rows ms n g m s h, d = .lst [n, g, m, s, h] ∧ KindR names mx rows ms n g m s h ∧ ∃ x ∈ (["web", "a", "abcdefghijkl"] : List Str), n = .str x)
  case hE => (repeat' first
    | with_reducible exact nd_next | with_reducible exact nd_nil
    | with_reducible apply nd_ret | with_reducible apply nd_seq | with_reducible apply nd_ifS | (with_reducible apply nd_asg (ij := by decide))
    | ((with_reducible apply nd_pu); ((repeat' first
    | with_reducible exact pu_var _ | with_reducible exact pu_non | with_reducible exact pu_bl _ | with_reducible exact pu_int _ | with_reducible exact pu_nil | with_reducible exact pu_next | with_reducible exact pu_yes
    | with_reducible apply pu_seq | with_reducible apply pu_ifS | with_reducible apply pu_ret | with_reducible apply pu_asg
    | with_reducible apply pu_and | with_reducible apply pu_or | with_reducible apply pu_not | with_reducible apply pu_test | with_reducible apply pu_b
    | with_reducible apply pu_andV | with_reducible apply pu_orV | with_reducible apply pu_notV | with_reducible apply pu_if
    | with_reducible apply pu_isi hC | with_reducible apply pu_cb (hr := pu_len) | with_reducible apply pu_cb (hr := pu_all) | with_reducible apply pu_cb (hr := pu_any) | with_reducible apply pu_cb (hr := pu_tupOf) | with_reducible apply pu_cb (hr := pu_lstOf)
    | with_reducible exact pu_dnil
    | exact pu_d1 _ _ _ (rpS ⟨by decide +kernel, by decide +kernel⟩)
    | exact pu_d1 _ _ _ rpI
    | exact pu_d1i _ _ _ (rpS ⟨by decide +kernel, by decide +kernel⟩)
    | exact pu_d2 _ _ _ _ _ _ (by decide +kernel) (rpS ⟨by decide +kernel, by decide +kernel⟩) (rpS ⟨by decide +kernel, by decide +kernel⟩)
    | with_reducible apply said_pu
    | with_reducible apply pu_fld cK (nA _ (by decide +kernel))
    | with_reducible apply pu_op (hr := pu_eqU hC hnT hnC veqF_bl)
    | with_reducible apply pu_op (hr := pu_neU hC hnT hnC)
    | with_reducible apply pu_op (hr := pu_eqNilT)
    | with_reducible apply pu_op (hr := pu_neNilT)
    | with_reducible apply pu_op (hr := pu_addS)
    | with_reducible apply pu_neg
    | with_reducible apply pu_slS
    | with_reducible apply pu_iStr
    | with_reducible apply pu_op (hr := pu_ixT) | with_reducible apply pu_op (hr := pu_ixL) | with_reducible apply pu_op (hr := pu_eqS) | with_reducible apply pu_op (hr := pu_neS) | with_reducible apply pu_op (hr := pu_in) | with_reducible apply pu_op (hr := pu_isNo) | with_reducible apply pu_op (hr := pu_notNo)
    | with_reducible apply pu_op (hr := pu_cm) | with_reducible apply pu_op (hr := pu_ar) | with_reducible apply pu_op (hr := pu_eqP) | with_reducible apply pu_op (hr := pu_neP) | with_reducible apply pu_op (hr := pu_catT) | with_reducible apply pu_op (hr := pu_catL)
    | with_reducible apply pu_chain pu_cm pu_cm | with_reducible apply pu_lcV | with_reducible apply pu_dcV | with_reducible apply pu_iTup | with_reducible apply pu_iLst
    | with_reducible apply pu_slT | with_reducible apply pu_slL | with_reducible exact pu_noPart | with_reducible exact pu_part _
    | exact pu_str _ ⟨by decide +kernel, by decide +kernel⟩ | with_reducible apply pu_call | with_reducible apply pu_tup | with_reducible apply pu_lst | with_reducible apply pu_cons | (with_reducible_and_instances rfl) | rfl)); done)
    | ((with_reducible apply nd_pt); ((repeat' first
    | with_reducible exact pu_var _ | with_reducible exact pu_non | with_reducible exact pu_bl _ | with_reducible exact pu_int _ | with_reducible exact pu_nil | with_reducible exact pu_next | with_reducible exact pu_yes
    | with_reducible apply pu_seq | with_reducible apply pu_ifS | with_reducible apply pu_ret | with_reducible apply pu_asg
    | with_reducible apply pu_and | with_reducible apply pu_or | with_reducible apply pu_not | with_reducible apply pu_test | with_reducible apply pu_b
    | with_reducible apply pu_andV | with_reducible apply pu_orV | with_reducible apply pu_notV | with_reducible apply pu_if
    | with_reducible apply pu_isi hC | with_reducible apply pu_cb (hr := pu_len) | with_reducible apply pu_cb (hr := pu_all) | with_reducible apply pu_cb (hr := pu_any) | with_reducible apply pu_cb (hr := pu_tupOf) | with_reducible apply pu_cb (hr := pu_lstOf)
    | with_reducible exact pu_dnil
    | exact pu_d1 _ _ _ (rpS ⟨by decide +kernel, by decide +kernel⟩)
    | exact pu_d1 _ _ _ rpI
    | exact pu_d1i _ _ _ (rpS ⟨by decide +kernel, by decide +kernel⟩)
    | exact pu_d2 _ _ _ _ _ _ (by decide +kernel) (rpS ⟨by decide +kernel, by decide +kernel⟩) (rpS ⟨by decide +kernel, by decide +kernel⟩)
    | with_reducible apply said_pu
    | with_reducible apply pu_fld cK (nA _ (by decide +kernel))
    | with_reducible apply pu_op (hr := pu_eqU hC hnT hnC veqF_bl)
    | with_reducible apply pu_op (hr := pu_neU hC hnT hnC)
    | with_reducible apply pu_op (hr := pu_eqNilT)
    | with_reducible apply pu_op (hr := pu_neNilT)
    | with_reducible apply pu_op (hr := pu_addS)
    | with_reducible apply pu_neg
    | with_reducible apply pu_slS
    | with_reducible apply pu_iStr
    | with_reducible apply pu_op (hr := pu_ixT) | with_reducible apply pu_op (hr := pu_ixL) | with_reducible apply pu_op (hr := pu_eqS) | with_reducible apply pu_op (hr := pu_neS) | with_reducible apply pu_op (hr := pu_in) | with_reducible apply pu_op (hr := pu_isNo) | with_reducible apply pu_op (hr := pu_notNo)
    | with_reducible apply pu_op (hr := pu_cm) | with_reducible apply pu_op (hr := pu_ar) | with_reducible apply pu_op (hr := pu_eqP) | with_reducible apply pu_op (hr := pu_neP) | with_reducible apply pu_op (hr := pu_catT) | with_reducible apply pu_op (hr := pu_catL)
    | with_reducible apply pu_chain pu_cm pu_cm | with_reducible apply pu_lcV | with_reducible apply pu_dcV | with_reducible apply pu_iTup | with_reducible apply pu_iLst
    | with_reducible apply pu_slT | with_reducible apply pu_slL | with_reducible exact pu_noPart | with_reducible exact pu_part _
    | exact pu_str _ ⟨by decide +kernel, by decide +kernel⟩ | with_reducible apply pu_call | with_reducible apply pu_tup | with_reducible apply pu_lst | with_reducible apply pu_cons | (with_reducible_and_instances rfl) | rfl)); done)
    | with_reducible apply nd_if | with_reducible apply nd_test | with_reducible apply nd_call | with_reducible apply nd_cons
    | with_reducible apply nd_op (hr := pu_ar) | with_reducible apply nd_op (hr := pu_cm) | with_reducible apply nd_op (hr := pu_eqS) | with_reducible apply nd_tup | with_reducible apply nd_lst)
  case hm => exact Nat.le_trans (by decide : _ ≤ 600) (by decide)
  case hf =>
    refine ⟨_, rfl, (by decide : 0 < 3), fun d hd => ?_⟩
    obtain ⟨x, hx, rfl⟩ := List.mem_map.mp (show d ∈ (["web", "a", "abcdefghijkl"] : List Str).map E.str from hd)
    exact ⟨kn_sub hx, fun names mx rows ms n g m s h kr en => ⟨names, mx, rows, ms, n, g, m, s, h, rfl, kr, x, hx, en⟩⟩
  case ji => decide
  rintro v5 d5 H7 B7 nd7 ⟨names, mx, rows, ms, n, g, m, s', h', rfl, kr, hn3⟩
  generalize σ7.set 5 (some v5) = σ8 at nd7 ⊢
  have nd7 : Nd p 4 900000000000000 Pr σ8 H7 [none, some (.lst (parts5.map E.str)), none, some (.int z), none, some (.lst [n, g, m, s', h']), none, none, none, none, none, none, none, none, none, none, none, none, none, none] := nd7.le (by decide)
  have fit := kr.fit
  -- one_here, other
  obtain ⟨v5', hv5, r5⟩ := nd7.get (j := 5) rfl
  cases r5 with
  | @lst l us _ hl hul _ hus =>
  have hl' := (keep_some hl).2
  have pl' := (keep_some hl).1
  have rl := RpL.of hul hus
  refine st_said2 hv5 hl' rl nd7.fr fit.k fit.d fun H8 H9 x1 dx1 x2 dx2 m8 hx1 h1 m9 hx2 h2 => ?_
  have m79 := m8.trans m9
  have rl9 := rl.mono (keep_same (P := Pr) m79)
  have hl9 := m79 _ _ hl'
  have nep : ∀ x : Addr, H7 x = none → Pr x := fun x hx => nd7.fr x hx
  have i1 : Rp (keepH Pr H9) (.ref x1) (.ins CK flds [n, g, m, s', h']) := .ins (by rw [keep_at (nep _ hx1)]; exact m9 _ _ h1) rl9.length rfl (by simp) rl9.get
  have i2 : Rp (keepH Pr H9) (.ref x2) (.ins CK flds [n, g, m, s', h']) := .ins (by rw [keep_at (nep _ (same_none m8 hx2))]; exact h2) rl9.length rfl (by simp) rl9.get
  have h19 := m9 _ _ h1
  have nd9 := ((nd7.next (But.of m79) (nd7.wl.same m79)).set (j := 6) (by decide) i1).set (j := 7) (by decide) i2
  have hv5 : (((σ8.set 6 (some (.ref x1))).set 7 (some (.ref x2))))[5]? = some (some (.ref l)) := by rw [List.getElem?_set_ne (by decide), List.getElem?_set_ne (by decide)]; exact hv5
  have hv6 : (((σ8.set 6 (some (.ref x1))).set 7 (some (.ref x2))))[6]? = some (some (.ref x1)) := by rw [List.getElem?_set_ne (by decide), List.getElem?_set_self (by rw [nd7.en.1]; show 6 < 20; decide)]
  have B9 := B7.trans (But.of (w := p) m79)
  have hx1' := hx1
  clear m8 m9 h1 h2 hx2 rl hl hul hus hl' nd7 nd6 i1 i2 m79
  generalize (σ8.set 6 (some (.ref x1))).set 7 (some (.ref x2)) = σ9 at nd9 hv5 hv6 ⊢
  -- they are equal
  apply st_ifN (nd := nd9)
  case pu => (repeat' first
    | with_reducible exact pu_var _ | with_reducible exact pu_non | with_reducible exact pu_bl _ | with_reducible exact pu_int _ | with_reducible exact pu_nil | with_reducible exact pu_next | with_reducible exact pu_yes
    | with_reducible apply pu_seq | with_reducible apply pu_ifS | with_reducible apply pu_ret | with_reducible apply pu_asg
    | with_reducible apply pu_and | with_reducible apply pu_or | with_reducible apply pu_not | with_reducible apply pu_test | with_reducible apply pu_b
    | with_reducible apply pu_andV | with_reducible apply pu_orV | with_reducible apply pu_notV | with_reducible apply pu_if
    | with_reducible apply pu_isi hC | with_reducible apply pu_cb (hr := pu_len) | with_reducible apply pu_cb (hr := pu_all) | with_reducible apply pu_cb (hr := pu_any) | with_reducible apply pu_cb (hr := pu_tupOf) | with_reducible apply pu_cb (hr := pu_lstOf)
    | with_reducible exact pu_dnil
    | exact pu_d1 _ _ _ (rpS ⟨by decide +kernel, by decide +kernel⟩)
    | exact pu_d1 _ _ _ rpI
    | exact pu_d1i _ _ _ (rpS ⟨by decide +kernel, by decide +kernel⟩)
    | exact pu_d2 _ _ _ _ _ _ (by decide +kernel) (rpS ⟨by decide +kernel, by decide +kernel⟩) (rpS ⟨by decide +kernel, by decide +kernel⟩)
    | with_reducible apply said_pu
    | with_reducible apply pu_fld cK (nA _ (by decide +kernel))
    | with_reducible apply pu_op (hr := pu_eqU hC hnT hnC veqF_bl)
    | with_reducible apply pu_op (hr := pu_neU hC hnT hnC)
    | with_reducible apply pu_op (hr := pu_eqNilT)
    | with_reducible apply pu_op (hr := pu_neNilT)
    | with_reducible apply pu_op (hr := pu_addS)
    | with_reducible apply pu_neg
    | with_reducible apply pu_slS
    | with_reducible apply pu_iStr
    | with_reducible apply pu_op (hr := pu_ixT) | with_reducible apply pu_op (hr := pu_ixL) | with_reducible apply pu_op (hr := pu_eqS) | with_reducible apply pu_op (hr := pu_neS) | with_reducible apply pu_op (hr := pu_in) | with_reducible apply pu_op (hr := pu_isNo) | with_reducible apply pu_op (hr := pu_notNo)
    | with_reducible apply pu_op (hr := pu_cm) | with_reducible apply pu_op (hr := pu_ar) | with_reducible apply pu_op (hr := pu_eqP) | with_reducible apply pu_op (hr := pu_neP) | with_reducible apply pu_op (hr := pu_catT) | with_reducible apply pu_op (hr := pu_catL)
    | with_reducible apply pu_chain pu_cm pu_cm | with_reducible apply pu_lcV | with_reducible apply pu_dcV | with_reducible apply pu_iTup | with_reducible apply pu_iLst
    | with_reducible apply pu_slT | with_reducible apply pu_slL | with_reducible exact pu_noPart | with_reducible exact pu_part _
    | exact pu_str _ ⟨by decide +kernel, by decide +kernel⟩ | with_reducible apply pu_call | with_reducible apply pu_tup | with_reducible apply pu_lst | with_reducible apply pu_cons | (with_reducible_and_instances rfl) | rfl)
  case e => exact bF (bnd (.bl false) (bnd _ rfl (isT_ins inC)) rfl) (bF (mp true (bnd (.bl true) (bnd _ rfl (bnd _ rfl (eq_self inC kr))) rfl)) (bnd (.bl false) (bnd _ rfl (bnd _ rfl (ne_self inC kr))) rfl))
  intro H10 B10 nd10
  -- kept
  have h110 := B10 _ _ h19 (fun z => by subst z; exact nd9.nw (nep _ hx1'))
  have hl10 := B10 _ _ hl9 (fun z => by subst z; exact nd9.nw pl')
  have rl10 := rl9.but nd9.nw B10
  match us, rl10, h110, hl10 with
  | [u0, u1, u2, u3, u4], rl10, h110, hl10 =>
  apply st_kept (hv6 := hv6) (h1 := h110) (cK := cK) (nA := nA)
  intro p8 hp8
  have n8 := same_new (o := .lst [u0, u1, u2, u3, u4]) hp8
  have rp8 : Rp (keepH Pr (upd H10 p8 (.lst [u0, u1, u2, u3, u4]))) (.ref p8) (.lst [n, g, m, s', h']) := .lst (by rw [keep_at (nd10.fr p8 hp8)]; exact upd_same) rfl (by simp) (rl10.mono (keep_same n8)).get
  have h8 : (upd H10 p8 (.lst [u0, u1, u2, u3, u4])) p8 = some (.lst [u0, u1, u2, u3, u4]) := upd_same
  have hl11 := n8 _ _ hl10
  have nd11 := (nd10.next (But.of n8) (nd10.wl.same n8)).set (j := 8) (by decide) rp8
  have hv8 : (σ9.set 8 (some (V.ref p8)))[8]? = some (some (.ref p8)) := by rw [List.getElem?_set_self (by rw [nd10.en.1]; show 8 < 20; decide)]
  have hv5 : (σ9.set 8 (some (V.ref p8)))[5]? = some (some (.ref l)) := by rw [List.getElem?_set_ne (by decide)]; exact hv5
  have B11 := (B9.trans B10).trans (But.of (w := p) n8)
  clear h110 hl10 nd10 nd9 rp8 n8
  generalize (σ9.set 8 (some (V.ref p8))) = σ10 at nd11 hv8 hv5 ⊢
  generalize (upd H10 p8 (.lst [u0, u1, u2, u3, u4])) = H11 at nd11 h8 hl11 B11 ⊢
  -- the same objects; no list, no None
  apply st_kif (hv8 := hv8) (hv5 := hv5) (h8 := h8) (hl := hl11) (hok := rpl_ok rl10) (nd := nd11)
  case pu => (repeat' first
    | with_reducible exact pu_var _ | with_reducible exact pu_non | with_reducible exact pu_bl _ | with_reducible exact pu_int _ | with_reducible exact pu_nil | with_reducible exact pu_next | with_reducible exact pu_yes
    | with_reducible apply pu_seq | with_reducible apply pu_ifS | with_reducible apply pu_ret | with_reducible apply pu_asg
    | with_reducible apply pu_and | with_reducible apply pu_or | with_reducible apply pu_not | with_reducible apply pu_test | with_reducible apply pu_b
    | with_reducible apply pu_andV | with_reducible apply pu_orV | with_reducible apply pu_notV | with_reducible apply pu_if
    | with_reducible apply pu_isi hC | with_reducible apply pu_cb (hr := pu_len) | with_reducible apply pu_cb (hr := pu_all) | with_reducible apply pu_cb (hr := pu_any) | with_reducible apply pu_cb (hr := pu_tupOf) | with_reducible apply pu_cb (hr := pu_lstOf)
    | with_reducible exact pu_dnil
    | exact pu_d1 _ _ _ (rpS ⟨by decide +kernel, by decide +kernel⟩)
    | exact pu_d1 _ _ _ rpI
    | exact pu_d1i _ _ _ (rpS ⟨by decide +kernel, by decide +kernel⟩)
    | exact pu_d2 _ _ _ _ _ _ (by decide +kernel) (rpS ⟨by decide +kernel, by decide +kernel⟩) (rpS ⟨by decide +kernel, by decide +kernel⟩)
    | with_reducible apply said_pu
    | with_reducible apply pu_fld cK (nA _ (by decide +kernel))
    | with_reducible apply pu_op (hr := pu_eqU hC hnT hnC veqF_bl)
    | with_reducible apply pu_op (hr := pu_neU hC hnT hnC)
    | with_reducible apply pu_op (hr := pu_eqNilT)
    | with_reducible apply pu_op (hr := pu_neNilT)
    | with_reducible apply pu_op (hr := pu_addS)
    | with_reducible apply pu_neg
    | with_reducible apply pu_slS
    | with_reducible apply pu_iStr
    | with_reducible apply pu_op (hr := pu_ixT) | with_reducible apply pu_op (hr := pu_ixL) | with_reducible apply pu_op (hr := pu_eqS) | with_reducible apply pu_op (hr := pu_neS) | with_reducible apply pu_op (hr := pu_in) | with_reducible apply pu_op (hr := pu_isNo) | with_reducible apply pu_op (hr := pu_notNo)
    | with_reducible apply pu_op (hr := pu_cm) | with_reducible apply pu_op (hr := pu_ar) | with_reducible apply pu_op (hr := pu_eqP) | with_reducible apply pu_op (hr := pu_neP) | with_reducible apply pu_op (hr := pu_catT) | with_reducible apply pu_op (hr := pu_catL)
    | with_reducible apply pu_chain pu_cm pu_cm | with_reducible apply pu_lcV | with_reducible apply pu_dcV | with_reducible apply pu_iTup | with_reducible apply pu_iLst
    | with_reducible apply pu_slT | with_reducible apply pu_slL | with_reducible exact pu_noPart | with_reducible exact pu_part _
    | exact pu_str _ ⟨by decide +kernel, by decide +kernel⟩ | with_reducible apply pu_call | with_reducible apply pu_tup | with_reducible apply pu_lst | with_reducible apply pu_cons | (with_reducible_and_instances rfl) | rfl)
  case e => exact bF (bnd (.bl false) (bnd _ rfl (bnd _ rfl (eq_no rfl))) rfl) (bnd (.bl false) (bnd _ rfl (bnd _ rfl (eq_no rfl))) rfl)
  intro H12 B12 nd12
  -- which part
  apply st_par (nd := nd12) (Ψ := fun l => ∃ a b : Nat, l = [.int a, .int b] ∧ a < 5 ∧ b < 10)
  case hA => (repeat' first
    | with_reducible exact nd_next | with_reducible exact nd_nil
    | with_reducible apply nd_ret | with_reducible apply nd_seq | with_reducible apply nd_ifS | (with_reducible apply nd_asg (ij := by decide))
    | ((with_reducible apply nd_pu); ((repeat' first
    | with_reducible exact pu_var _ | with_reducible exact pu_non | with_reducible exact pu_bl _ | with_reducible exact pu_int _ | with_reducible exact pu_nil | with_reducible exact pu_next | with_reducible exact pu_yes
    | with_reducible apply pu_seq | with_reducible apply pu_ifS | with_reducible apply pu_ret | with_reducible apply pu_asg
    | with_reducible apply pu_and | with_reducible apply pu_or | with_reducible apply pu_not | with_reducible apply pu_test | with_reducible apply pu_b
    | with_reducible apply pu_andV | with_reducible apply pu_orV | with_reducible apply pu_notV | with_reducible apply pu_if
    | with_reducible apply pu_isi hC | with_reducible apply pu_cb (hr := pu_len) | with_reducible apply pu_cb (hr := pu_all) | with_reducible apply pu_cb (hr := pu_any) | with_reducible apply pu_cb (hr := pu_tupOf) | with_reducible apply pu_cb (hr := pu_lstOf)
    | with_reducible exact pu_dnil
    | exact pu_d1 _ _ _ (rpS ⟨by decide +kernel, by decide +kernel⟩)
    | exact pu_d1 _ _ _ rpI
    | exact pu_d1i _ _ _ (rpS ⟨by decide +kernel, by decide +kernel⟩)
    | exact pu_d2 _ _ _ _ _ _ (by decide +kernel) (rpS ⟨by decide +kernel, by decide +kernel⟩) (rpS ⟨by decide +kernel, by decide +kernel⟩)
    | with_reducible apply said_pu
    | with_reducible apply pu_fld cK (nA _ (by decide +kernel))
    | with_reducible apply pu_op (hr := pu_eqU hC hnT hnC veqF_bl)
    | with_reducible apply pu_op (hr := pu_neU hC hnT hnC)
    | with_reducible apply pu_op (hr := pu_eqNilT)
    | with_reducible apply pu_op (hr := pu_neNilT)
    | with_reducible apply pu_op (hr := pu_addS)
    | with_reducible apply pu_neg
    | with_reducible apply pu_slS
    | with_reducible apply pu_iStr
    | with_reducible apply pu_op (hr := pu_ixT) | with_reducible apply pu_op (hr := pu_ixL) | with_reducible apply pu_op (hr := pu_eqS) | with_reducible apply pu_op (hr := pu_neS) | with_reducible apply pu_op (hr := pu_in) | with_reducible apply pu_op (hr := pu_isNo) | with_reducible apply pu_op (hr := pu_notNo)
    | with_reducible apply pu_op (hr := pu_cm) | with_reducible apply pu_op (hr := pu_ar) | with_reducible apply pu_op (hr := pu_eqP) | with_reducible apply pu_op (hr := pu_neP) | with_reducible apply pu_op (hr := pu_catT) | with_reducible apply pu_op (hr := pu_catL)
    | with_reducible apply pu_chain pu_cm pu_cm | with_reducible apply pu_lcV | with_reducible apply pu_dcV | with_reducible apply pu_iTup | with_reducible apply pu_iLst
    | with_reducible apply pu_slT | with_reducible apply pu_slL | with_reducible exact pu_noPart | with_reducible exact pu_part _
    | exact pu_str _ ⟨by decide +kernel, by decide +kernel⟩ | with_reducible apply pu_call | with_reducible apply pu_tup | with_reducible apply pu_lst | with_reducible apply pu_cons | (with_reducible_and_instances rfl) | rfl)); done)
    | ((with_reducible apply nd_pt); ((repeat' first
    | with_reducible exact pu_var _ | with_reducible exact pu_non | with_reducible exact pu_bl _ | with_reducible exact pu_int _ | with_reducible exact pu_nil | with_reducible exact pu_next | with_reducible exact pu_yes
    | with_reducible apply pu_seq | with_reducible apply pu_ifS | with_reducible apply pu_ret | with_reducible apply pu_asg
    | with_reducible apply pu_and | with_reducible apply pu_or | with_reducible apply pu_not | with_reducible apply pu_test | with_reducible apply pu_b
    | with_reducible apply pu_andV | with_reducible apply pu_orV | with_reducible apply pu_notV | with_reducible apply pu_if
    | with_reducible apply pu_isi hC | with_reducible apply pu_cb (hr := pu_len) | with_reducible apply pu_cb (hr := pu_all) | with_reducible apply pu_cb (hr := pu_any) | with_reducible apply pu_cb (hr := pu_tupOf) | with_reducible apply pu_cb (hr := pu_lstOf)
    | with_reducible exact pu_dnil
    | exact pu_d1 _ _ _ (rpS ⟨by decide +kernel, by decide +kernel⟩)
    | exact pu_d1 _ _ _ rpI
    | exact pu_d1i _ _ _ (rpS ⟨by decide +kernel, by decide +kernel⟩)
    | exact pu_d2 _ _ _ _ _ _ (by decide +kernel) (rpS ⟨by decide +kernel, by decide +kernel⟩) (rpS ⟨by decide +kernel, by decide +kernel⟩)
    | with_reducible apply said_pu
    | with_reducible apply pu_fld cK (nA _ (by decide +kernel))
    | with_reducible apply pu_op (hr := pu_eqU hC hnT hnC veqF_bl)
    | with_reducible apply pu_op (hr := pu_neU hC hnT hnC)
    | with_reducible apply pu_op (hr := pu_eqNilT)
    | with_reducible apply pu_op (hr := pu_neNilT)
    | with_reducible apply pu_op (hr := pu_addS)
    | with_reducible apply pu_neg
    | with_reducible apply pu_slS
    | with_reducible apply pu_iStr
    | with_reducible apply pu_op (hr := pu_ixT) | with_reducible apply pu_op (hr := pu_ixL) | with_reducible apply pu_op (hr := pu_eqS) | with_reducible apply pu_op (hr := pu_neS) | with_reducible apply pu_op (hr := pu_in) | with_reducible apply pu_op (hr := pu_isNo) | with_reducible apply pu_op (hr := pu_notNo)
    | with_reducible apply pu_op (hr := pu_cm) | with_reducible apply pu_op (hr := pu_ar) | with_reducible apply pu_op (hr := pu_eqP) | with_reducible apply pu_op (hr := pu_neP) | with_reducible apply pu_op (hr := pu_catT) | with_reducible apply pu_op (hr := pu_catL)
    | with_reducible apply pu_chain pu_cm pu_cm | with_reducible apply pu_lcV | with_reducible apply pu_dcV | with_reducible apply pu_iTup | with_reducible apply pu_iLst
    | with_reducible apply pu_slT | with_reducible apply pu_slL | with_reducible exact pu_noPart | with_reducible exact pu_part _
    | exact pu_str _ ⟨by decide +kernel, by decide +kernel⟩ | with_reducible apply pu_call | with_reducible apply pu_tup | with_reducible apply pu_lst | with_reducible apply pu_cons | (with_reducible_and_instances rfl) | rfl)); done)
    | with_reducible apply nd_if | with_reducible apply nd_test | with_reducible apply nd_call | with_reducible apply nd_cons
    | with_reducible apply nd_op (hr := pu_ar) | with_reducible apply nd_op (hr := pu_cm) | with_reducible apply nd_op (hr := pu_eqS) | with_reducible apply nd_tup | with_reducible apply nd_lst)
  case hm => exact Nat.le_trans (by decide : _ ≤ 600) (by decide)
  case hf => exact ⟨_, rfl, by decide, by decide, fun d d0 d1 => ⟨_, rfl, by decide, by decide, fun e e0 e1 => ⟨d.toNat, e.toNat, by rw [Int.toNat_of_nonneg d0, Int.toNat_of_nonneg e0], by omega, by omega⟩⟩⟩
  case h2 => rintro ds ⟨a, b, rfl, _⟩; rfl
  case ji => decide
  case ji' => decide
  rintro v9 v10 d9 d10 H13 B13 nd13 ⟨at_, more, e9, hat, hmore⟩
  cases e9
  generalize ((σ10.set 9 (some v9)).set 10 (some v10)) = σ11 at nd13 ⊢
  have nd13 : Nd p 4 800000000000000 Pr σ11 H13 [none, some (.lst (parts5.map E.str)), none, some (.int z), none, some (.lst [n, g, m, s', h']), some (.ins CK flds [n, g, m, s', h']), some (.ins CK flds [n, g, m, s', h']), some (.lst [n, g, m, s', h']), some (.int at_), some (.int more), none, none, none, none, none, none, none, none, none] := nd13.le (by decide)
  have B13' := (B11.trans B12).trans B13
  -- spoilt
  apply st_spo (nd := nd13) (kr := kr) (ha := hat) (h5 := rfl) (h9 := rfl)
  case hm => decide
  case hj => show 11 < 20; decide
  intro pL o H14 B14 ho nO14 hpL
  generalize (σ11.set 11 (some (V.ref pL))) = σ12 at nO14 ⊢
  have nO14 : NdO p pL 4 11 700000000000000 (fun b => Pr b ∧ b ≠ pL) σ12 H14 [none, some (.lst (parts5.map E.str)), none, some (.int z), none, some (.lst [n, g, m, s', h']), some (.ins CK flds [n, g, m, s', h']), some (.ins CK flds [n, g, m, s', h']), some (.lst [n, g, m, s', h']), some (.int at_), some (.int more), none, none, none, none, none, none, none, none, none] ([n, g, m, s', h'].set at_ o) := nO14.le (by decide)
  refine st_via (F := fun σ' H' => σ' = σ12 ∧ But p H13 H' ∧ ∃ ds2, ds2.length = 5 ∧ OddK at_ ds2 ∧ NdO p pL 4 11 600000000000000 (fun b => Pr b ∧ b ≠ pL) σ12 H' [none, some (.lst (parts5.map E.str)), none, some (.int z), none, some (.lst [n, g, m, s', h']), some (.ins CK flds [n, g, m, s', h']), some (.ins CK flds [n, g, m, s', h']), some (.lst [n, g, m, s', h']), some (.int at_), some (.int more), none, none, none, none, none, none, none, none, none] ds2) ?_ ?_
  · by_cases hb : at_ < more ∧ more < 5
    · apply st_ifO1 (b := true) (nO := nO14)
      case pu => (repeat' first
    | with_reducible exact pu_var _ | with_reducible exact pu_non | with_reducible exact pu_bl _ | with_reducible exact pu_int _ | with_reducible exact pu_nil | with_reducible exact pu_next | with_reducible exact pu_yes
    | with_reducible apply pu_seq | with_reducible apply pu_ifS | with_reducible apply pu_ret | with_reducible apply pu_asg
    | with_reducible apply pu_and | with_reducible apply pu_or | with_reducible apply pu_not | with_reducible apply pu_test | with_reducible apply pu_b
    | with_reducible apply pu_andV | with_reducible apply pu_orV | with_reducible apply pu_notV | with_reducible apply pu_if
    | with_reducible apply pu_isi hC | with_reducible apply pu_cb (hr := pu_len) | with_reducible apply pu_cb (hr := pu_all) | with_reducible apply pu_cb (hr := pu_any) | with_reducible apply pu_cb (hr := pu_tupOf) | with_reducible apply pu_cb (hr := pu_lstOf)
    | with_reducible exact pu_dnil
    | exact pu_d1 _ _ _ (rpS ⟨by decide +kernel, by decide +kernel⟩)
    | exact pu_d1 _ _ _ rpI
    | exact pu_d1i _ _ _ (rpS ⟨by decide +kernel, by decide +kernel⟩)
    | exact pu_d2 _ _ _ _ _ _ (by decide +kernel) (rpS ⟨by decide +kernel, by decide +kernel⟩) (rpS ⟨by decide +kernel, by decide +kernel⟩)
    | with_reducible apply said_pu
    | with_reducible apply pu_fld cK (nA _ (by decide +kernel))
    | with_reducible apply pu_op (hr := pu_eqU hC hnT hnC veqF_bl)
    | with_reducible apply pu_op (hr := pu_neU hC hnT hnC)
    | with_reducible apply pu_op (hr := pu_eqNilT)
    | with_reducible apply pu_op (hr := pu_neNilT)
    | with_reducible apply pu_op (hr := pu_addS)
    | with_reducible apply pu_neg
    | with_reducible apply pu_slS
    | with_reducible apply pu_iStr
    | with_reducible apply pu_op (hr := pu_ixT) | with_reducible apply pu_op (hr := pu_ixL) | with_reducible apply pu_op (hr := pu_eqS) | with_reducible apply pu_op (hr := pu_neS) | with_reducible apply pu_op (hr := pu_in) | with_reducible apply pu_op (hr := pu_isNo) | with_reducible apply pu_op (hr := pu_notNo)
    | with_reducible apply pu_op (hr := pu_cm) | with_reducible apply pu_op (hr := pu_ar) | with_reducible apply pu_op (hr := pu_eqP) | with_reducible apply pu_op (hr := pu_neP) | with_reducible apply pu_op (hr := pu_catT) | with_reducible apply pu_op (hr := pu_catL)
    | with_reducible apply pu_chain pu_cm pu_cm | with_reducible apply pu_lcV | with_reducible apply pu_dcV | with_reducible apply pu_iTup | with_reducible apply pu_iLst
    | with_reducible apply pu_slT | with_reducible apply pu_slL | with_reducible exact pu_noPart | with_reducible exact pu_part _
    | exact pu_str _ ⟨by decide +kernel, by decide +kernel⟩ | with_reducible apply pu_call | with_reducible apply pu_tup | with_reducible apply pu_lst | with_reducible apply pu_cons | (with_reducible_and_instances rfl) | rfl)
      case e => exact bT (by show some (decide ((at_ : Int) < (more : Int))) = some true; rw [decide_eq_true (by omega)]) (by show some (decide ((more : Int) < 5)) = some true; rw [decide_eq_true (by omega)])
      case hF => intro z; cases z
      rintro _ H15 B15 nO15
      apply st_spo2 (nO := nO15) (kr := kr) (hb := hb.2) (h5 := rfl) (h10 := rfl)
      case hm => decide
      case hl => rw [List.length_set]; rfl
      intro o2 H16 _ ho2 BB nO16
      exact ⟨rfl, BB H13 (B14.trans B15) hpL, _, by rw [List.length_set, List.length_set]; rfl, spo_kk kr hb.1 hb.2 ho ho2, nO16.le (by decide)⟩
    · apply st_ifO1 (b := false) (nO := nO14)
      case pu => (repeat' first
    | with_reducible exact pu_var _ | with_reducible exact pu_non | with_reducible exact pu_bl _ | with_reducible exact pu_int _ | with_reducible exact pu_nil | with_reducible exact pu_next | with_reducible exact pu_yes
    | with_reducible apply pu_seq | with_reducible apply pu_ifS | with_reducible apply pu_ret | with_reducible apply pu_asg
    | with_reducible apply pu_and | with_reducible apply pu_or | with_reducible apply pu_not | with_reducible apply pu_test | with_reducible apply pu_b
    | with_reducible apply pu_andV | with_reducible apply pu_orV | with_reducible apply pu_notV | with_reducible apply pu_if
    | with_reducible apply pu_isi hC | with_reducible apply pu_cb (hr := pu_len) | with_reducible apply pu_cb (hr := pu_all) | with_reducible apply pu_cb (hr := pu_any) | with_reducible apply pu_cb (hr := pu_tupOf) | with_reducible apply pu_cb (hr := pu_lstOf)
    | with_reducible exact pu_dnil
    | exact pu_d1 _ _ _ (rpS ⟨by decide +kernel, by decide +kernel⟩)
    | exact pu_d1 _ _ _ rpI
    | exact pu_d1i _ _ _ (rpS ⟨by decide +kernel, by decide +kernel⟩)
    | exact pu_d2 _ _ _ _ _ _ (by decide +kernel) (rpS ⟨by decide +kernel, by decide +kernel⟩) (rpS ⟨by decide +kernel, by decide +kernel⟩)
    | with_reducible apply said_pu
    | with_reducible apply pu_fld cK (nA _ (by decide +kernel))
    | with_reducible apply pu_op (hr := pu_eqU hC hnT hnC veqF_bl)
    | with_reducible apply pu_op (hr := pu_neU hC hnT hnC)
    | with_reducible apply pu_op (hr := pu_eqNilT)
    | with_reducible apply pu_op (hr := pu_neNilT)
    | with_reducible apply pu_op (hr := pu_addS)
    | with_reducible apply pu_neg
    | with_reducible apply pu_slS
    | with_reducible apply pu_iStr
    | with_reducible apply pu_op (hr := pu_ixT) | with_reducible apply pu_op (hr := pu_ixL) | with_reducible apply pu_op (hr := pu_eqS) | with_reducible apply pu_op (hr := pu_neS) | with_reducible apply pu_op (hr := pu_in) | with_reducible apply pu_op (hr := pu_isNo) | with_reducible apply pu_op (hr := pu_notNo)
    | with_reducible apply pu_op (hr := pu_cm) | with_reducible apply pu_op (hr := pu_ar) | with_reducible apply pu_op (hr := pu_eqP) | with_reducible apply pu_op (hr := pu_neP) | with_reducible apply pu_op (hr := pu_catT) | with_reducible apply pu_op (hr := pu_catL)
    | with_reducible apply pu_chain pu_cm pu_cm | with_reducible apply pu_lcV | with_reducible apply pu_dcV | with_reducible apply pu_iTup | with_reducible apply pu_iLst
    | with_reducible apply pu_slT | with_reducible apply pu_slL | with_reducible exact pu_noPart | with_reducible exact pu_part _
    | exact pu_str _ ⟨by decide +kernel, by decide +kernel⟩ | with_reducible apply pu_call | with_reducible apply pu_tup | with_reducible apply pu_lst | with_reducible apply pu_cons | (with_reducible_and_instances rfl) | rfl)
      case e =>
        by_cases h1 : at_ < more
        · exact bT (by show some (decide ((at_ : Int) < (more : Int))) = some true; rw [decide_eq_true (by omega)]) (by show some (decide ((more : Int) < 5)) = some false; rw [decide_eq_false (by omega)])
        · exact bF (by show some (decide ((at_ : Int) < (more : Int))) = some false; rw [decide_eq_false (by omega)]) rfl
      case hT => intro z; cases z
      rintro _ H15 B15 nO15
      exact ⟨rfl, B14.trans B15, _, by rw [List.length_set]; rfl, spo_k kr hat ho, nO15.le (by decide)⟩
  rintro σ' H16 ⟨hσ, B16, ds2, hl2, ⟨kd2, part, hpart, ke2⟩, nO16⟩
  rw [hσ]
  clear hσ σ'
  have nd16 := nO16.free (by omega) (fun b hb => (nO16.nd.fr b hb).1) (nd13.fr pL hpL) nd13.nw rfl
  have B16' := B13'.trans B16
  clear nO16 nO14 nd13 nd12 nd11 B14
  apply st_ifN (nd := nd16)
  case pu => (repeat' first
    | with_reducible exact pu_var _ | with_reducible exact pu_non | with_reducible exact pu_bl _ | with_reducible exact pu_int _ | with_reducible exact pu_nil | with_reducible exact pu_next | with_reducible exact pu_yes
    | with_reducible apply pu_seq | with_reducible apply pu_ifS | with_reducible apply pu_ret | with_reducible apply pu_asg
    | with_reducible apply pu_and | with_reducible apply pu_or | with_reducible apply pu_not | with_reducible apply pu_test | with_reducible apply pu_b
    | with_reducible apply pu_andV | with_reducible apply pu_orV | with_reducible apply pu_notV | with_reducible apply pu_if
    | with_reducible apply pu_isi hC | with_reducible apply pu_cb (hr := pu_len) | with_reducible apply pu_cb (hr := pu_all) | with_reducible apply pu_cb (hr := pu_any) | with_reducible apply pu_cb (hr := pu_tupOf) | with_reducible apply pu_cb (hr := pu_lstOf)
    | with_reducible exact pu_dnil
    | exact pu_d1 _ _ _ (rpS ⟨by decide +kernel, by decide +kernel⟩)
    | exact pu_d1 _ _ _ rpI
    | exact pu_d1i _ _ _ (rpS ⟨by decide +kernel, by decide +kernel⟩)
    | exact pu_d2 _ _ _ _ _ _ (by decide +kernel) (rpS ⟨by decide +kernel, by decide +kernel⟩) (rpS ⟨by decide +kernel, by decide +kernel⟩)
    | with_reducible apply said_pu
    | with_reducible apply pu_fld cK (nA _ (by decide +kernel))
    | with_reducible apply pu_op (hr := pu_eqU hC hnT hnC veqF_bl)
    | with_reducible apply pu_op (hr := pu_neU hC hnT hnC)
    | with_reducible apply pu_op (hr := pu_eqNilT)
    | with_reducible apply pu_op (hr := pu_neNilT)
    | with_reducible apply pu_op (hr := pu_addS)
    | with_reducible apply pu_neg
    | with_reducible apply pu_slS
    | with_reducible apply pu_iStr
    | with_reducible apply pu_op (hr := pu_ixT) | with_reducible apply pu_op (hr := pu_ixL) | with_reducible apply pu_op (hr := pu_eqS) | with_reducible apply pu_op (hr := pu_neS) | with_reducible apply pu_op (hr := pu_in) | with_reducible apply pu_op (hr := pu_isNo) | with_reducible apply pu_op (hr := pu_notNo)
    | with_reducible apply pu_op (hr := pu_cm) | with_reducible apply pu_op (hr := pu_ar) | with_reducible apply pu_op (hr := pu_eqP) | with_reducible apply pu_op (hr := pu_neP) | with_reducible apply pu_op (hr := pu_catT) | with_reducible apply pu_op (hr := pu_catL)
    | with_reducible apply pu_chain pu_cm pu_cm | with_reducible apply pu_lcV | with_reducible apply pu_dcV | with_reducible apply pu_iTup | with_reducible apply pu_iLst
    | with_reducible apply pu_slT | with_reducible apply pu_slL | with_reducible exact pu_noPart | with_reducible exact pu_part _
    | exact pu_str _ ⟨by decide +kernel, by decide +kernel⟩ | with_reducible apply pu_call | with_reducible apply pu_tup | with_reducible apply pu_lst | with_reducible apply pu_cons | (with_reducible_and_instances rfl) | rfl)
  case e => exact bnd (.bl false) (bnd _ (bnd _ rfl (said_part ke2 kd2)) (bnd (E.tup [E.str "refused", E.str part]) (bnd ([E.str "refused", E.str part] : List E) (bnd (E.str "refused") rfl (mp ([E.str part] : List E) (bnd (E.str part) (bnd _ rfl (bnd _ rfl (ixL_at (by rw [List.getElem?_map, hpart]; rfl)))) rfl))) rfl) (neP_same (List.mem_of_getElem? hpart)))) rfl
  intro H17 B17 nd17
  have nd17 : Nd p 4 500000000000000 Pr σ12 H17 [none, some (.lst (parts5.map E.str)), none, some (.int z), none, some (.lst [n, g, m, s', h']), some (.ins CK flds [n, g, m, s', h']), some (.ins CK flds [n, g, m, s', h']), some (.lst [n, g, m, s', h']), some (.int at_), some (.int more), some (.lst ds2), none, none, none, none, none, none, none, none] := nd17.le (by decide)
  have B17' := B16'.trans B17
  obtain ⟨a1, b1, c1, t1, rest, hrows, krf, nef⟩ := kr.flip
  have hg : g = .tup (.tup [a1, b1, .bl c1, t1] :: rest) := by rw [kr.g, hrows]
  have hr4 : rows.length ≤ 4 := by rw [← kr.gr.a.len]; exact (pref_n4 kr.gr.n).2.2.1
  have hm3 : ms.length ≤ 3 := (kr.mr.good kr.gr).2.2
  have hrest : rest.length ≤ 3 := by rw [hrows] at hr4; simpa using hr4
  -- near
  apply st_lstOf (ha := pu_var 5) (nd := nd17)
  case hf => exact rfl
  case ji => decide
  case hj => show 12 < 20; decide
  intro L3 H18 hL3 B18 nO18
  generalize (σ12.set 12 (some (V.ref L3))) = σ13 at nO18 ⊢
  have nO18 : NdO p L3 4 12 500000000000000 (fun b => Pr b ∧ b ≠ L3) σ13 H18 [none, some (.lst (parts5.map E.str)), none, some (.int z), none, some (.lst [n, g, m, s', h']), some (.ins CK flds [n, g, m, s', h']), some (.ins CK flds [n, g, m, s', h']), some (.lst [n, g, m, s', h']), some (.int at_), some (.int more), some (.lst ds2), none, none, none, none, none, none, none, none] [n, g, m, s', h'] := nO18
  apply st_setO (nO := nO18) (Φ := fun d => d = .tup [a1, b1, .bl c1, t1])
  case hE => (repeat' first
    | with_reducible exact nd_next | with_reducible exact nd_nil
    | with_reducible apply nd_ret | with_reducible apply nd_seq | with_reducible apply nd_ifS | (with_reducible apply nd_asg (ij := by decide))
    | ((with_reducible apply nd_pu); ((repeat' first
    | with_reducible exact pu_var _ | with_reducible exact pu_non | with_reducible exact pu_bl _ | with_reducible exact pu_int _ | with_reducible exact pu_nil | with_reducible exact pu_next | with_reducible exact pu_yes
    | with_reducible apply pu_seq | with_reducible apply pu_ifS | with_reducible apply pu_ret | with_reducible apply pu_asg
    | with_reducible apply pu_and | with_reducible apply pu_or | with_reducible apply pu_not | with_reducible apply pu_test | with_reducible apply pu_b
    | with_reducible apply pu_andV | with_reducible apply pu_orV | with_reducible apply pu_notV | with_reducible apply pu_if
    | with_reducible apply pu_isi hC | with_reducible apply pu_cb (hr := pu_len) | with_reducible apply pu_cb (hr := pu_all) | with_reducible apply pu_cb (hr := pu_any) | with_reducible apply pu_cb (hr := pu_tupOf) | with_reducible apply pu_cb (hr := pu_lstOf)
    | with_reducible exact pu_dnil
    | exact pu_d1 _ _ _ (rpS ⟨by decide +kernel, by decide +kernel⟩)
    | exact pu_d1 _ _ _ rpI
    | exact pu_d1i _ _ _ (rpS ⟨by decide +kernel, by decide +kernel⟩)
    | exact pu_d2 _ _ _ _ _ _ (by decide +kernel) (rpS ⟨by decide +kernel, by decide +kernel⟩) (rpS ⟨by decide +kernel, by decide +kernel⟩)
    | with_reducible apply said_pu
    | with_reducible apply pu_fld cK (nA _ (by decide +kernel))
    | with_reducible apply pu_op (hr := pu_eqU hC hnT hnC veqF_bl)
    | with_reducible apply pu_op (hr := pu_neU hC hnT hnC)
    | with_reducible apply pu_op (hr := pu_eqNilT)
    | with_reducible apply pu_op (hr := pu_neNilT)
    | with_reducible apply pu_op (hr := pu_addS)
    | with_reducible apply pu_neg
    | with_reducible apply pu_slS
    | with_reducible apply pu_iStr
    | with_reducible apply pu_op (hr := pu_ixT) | with_reducible apply pu_op (hr := pu_ixL) | with_reducible apply pu_op (hr := pu_eqS) | with_reducible apply pu_op (hr := pu_neS) | with_reducible apply pu_op (hr := pu_in) | with_reducible apply pu_op (hr := pu_isNo) | with_reducible apply pu_op (hr := pu_notNo)
    | with_reducible apply pu_op (hr := pu_cm) | with_reducible apply pu_op (hr := pu_ar) | with_reducible apply pu_op (hr := pu_eqP) | with_reducible apply pu_op (hr := pu_neP) | with_reducible apply pu_op (hr := pu_catT) | with_reducible apply pu_op (hr := pu_catL)
    | with_reducible apply pu_chain pu_cm pu_cm | with_reducible apply pu_lcV | with_reducible apply pu_dcV | with_reducible apply pu_iTup | with_reducible apply pu_iLst
    | with_reducible apply pu_slT | with_reducible apply pu_slL | with_reducible exact pu_noPart | with_reducible exact pu_part _
    | exact pu_str _ ⟨by decide +kernel, by decide +kernel⟩ | with_reducible apply pu_call | with_reducible apply pu_tup | with_reducible apply pu_lst | with_reducible apply pu_cons | (with_reducible_and_instances rfl) | rfl)); done)
    | ((with_reducible apply nd_pt); ((repeat' first
    | with_reducible exact pu_var _ | with_reducible exact pu_non | with_reducible exact pu_bl _ | with_reducible exact pu_int _ | with_reducible exact pu_nil | with_reducible exact pu_next | with_reducible exact pu_yes
    | with_reducible apply pu_seq | with_reducible apply pu_ifS | with_reducible apply pu_ret | with_reducible apply pu_asg
    | with_reducible apply pu_and | with_reducible apply pu_or | with_reducible apply pu_not | with_reducible apply pu_test | with_reducible apply pu_b
    | with_reducible apply pu_andV | with_reducible apply pu_orV | with_reducible apply pu_notV | with_reducible apply pu_if
    | with_reducible apply pu_isi hC | with_reducible apply pu_cb (hr := pu_len) | with_reducible apply pu_cb (hr := pu_all) | with_reducible apply pu_cb (hr := pu_any) | with_reducible apply pu_cb (hr := pu_tupOf) | with_reducible apply pu_cb (hr := pu_lstOf)
    | with_reducible exact pu_dnil
    | exact pu_d1 _ _ _ (rpS ⟨by decide +kernel, by decide +kernel⟩)
    | exact pu_d1 _ _ _ rpI
    | exact pu_d1i _ _ _ (rpS ⟨by decide +kernel, by decide +kernel⟩)
    | exact pu_d2 _ _ _ _ _ _ (by decide +kernel) (rpS ⟨by decide +kernel, by decide +kernel⟩) (rpS ⟨by decide +kernel, by decide +kernel⟩)
    | with_reducible apply said_pu
    | with_reducible apply pu_fld cK (nA _ (by decide +kernel))
    | with_reducible apply pu_op (hr := pu_eqU hC hnT hnC veqF_bl)
    | with_reducible apply pu_op (hr := pu_neU hC hnT hnC)
    | with_reducible apply pu_op (hr := pu_eqNilT)
    | with_reducible apply pu_op (hr := pu_neNilT)
    | with_reducible apply pu_op (hr := pu_addS)
    | with_reducible apply pu_neg
    | with_reducible apply pu_slS
    | with_reducible apply pu_iStr
    | with_reducible apply pu_op (hr := pu_ixT) | with_reducible apply pu_op (hr := pu_ixL) | with_reducible apply pu_op (hr := pu_eqS) | with_reducible apply pu_op (hr := pu_neS) | with_reducible apply pu_op (hr := pu_in) | with_reducible apply pu_op (hr := pu_isNo) | with_reducible apply pu_op (hr := pu_notNo)
    | with_reducible apply pu_op (hr := pu_cm) | with_reducible apply pu_op (hr := pu_ar) | with_reducible apply pu_op (hr := pu_eqP) | with_reducible apply pu_op (hr := pu_neP) | with_reducible apply pu_op (hr := pu_catT) | with_reducible apply pu_op (hr := pu_catL)
    | with_reducible apply pu_chain pu_cm pu_cm | with_reducible apply pu_lcV | with_reducible apply pu_dcV | with_reducible apply pu_iTup | with_reducible apply pu_iLst
    | with_reducible apply pu_slT | with_reducible apply pu_slL | with_reducible exact pu_noPart | with_reducible exact pu_part _
    | exact pu_str _ ⟨by decide +kernel, by decide +kernel⟩ | with_reducible apply pu_call | with_reducible apply pu_tup | with_reducible apply pu_lst | with_reducible apply pu_cons | (with_reducible_and_instances rfl) | rfl)); done)
    | with_reducible apply nd_if | with_reducible apply nd_test | with_reducible apply nd_call | with_reducible apply nd_cons
    | with_reducible apply nd_op (hr := pu_ar) | with_reducible apply nd_op (hr := pu_cm) | with_reducible apply nd_op (hr := pu_eqS) | with_reducible apply nd_tup | with_reducible apply nd_lst)
  case hm => exact Nat.zero_le _
  case hf => exact ⟨_, bnd _ (bnd _ rfl rfl) (bnd _ rfl (by rw [hg]; exact ix0 _ _)), rfl⟩
  case ji => decide
  case jl => decide
  rintro v13 _ H19 B19 nO19 rfl
  generalize (σ13.set 13 (some v13)) = σ14 at nO19 ⊢
  have nO19 : NdO p L3 4 12 500000000000000 (fun b => Pr b ∧ b ≠ L3) σ14 H19 [none, some (.lst (parts5.map E.str)), none, some (.int z), none, some (.lst [n, g, m, s', h']), some (.ins CK flds [n, g, m, s', h']), some (.ins CK flds [n, g, m, s', h']), some (.lst [n, g, m, s', h']), some (.int at_), some (.int more), some (.lst ds2), none, some (.tup [a1, b1, .bl c1, t1]), none, none, none, none, none, none] [n, g, m, s', h'] := nO19
  apply st_put1 (nO := nO19) (Φ := fun d => d = .tup (.tup [a1, b1, .bl (!c1), t1] :: rest))
  case hE => (repeat' first
    | with_reducible exact nd_next | with_reducible exact nd_nil
    | with_reducible apply nd_ret | with_reducible apply nd_seq | with_reducible apply nd_ifS | (with_reducible apply nd_asg (ij := by decide))
    | ((with_reducible apply nd_pu); ((repeat' first
    | with_reducible exact pu_var _ | with_reducible exact pu_non | with_reducible exact pu_bl _ | with_reducible exact pu_int _ | with_reducible exact pu_nil | with_reducible exact pu_next | with_reducible exact pu_yes
    | with_reducible apply pu_seq | with_reducible apply pu_ifS | with_reducible apply pu_ret | with_reducible apply pu_asg
    | with_reducible apply pu_and | with_reducible apply pu_or | with_reducible apply pu_not | with_reducible apply pu_test | with_reducible apply pu_b
    | with_reducible apply pu_andV | with_reducible apply pu_orV | with_reducible apply pu_notV | with_reducible apply pu_if
    | with_reducible apply pu_isi hC | with_reducible apply pu_cb (hr := pu_len) | with_reducible apply pu_cb (hr := pu_all) | with_reducible apply pu_cb (hr := pu_any) | with_reducible apply pu_cb (hr := pu_tupOf) | with_reducible apply pu_cb (hr := pu_lstOf)
    | with_reducible exact pu_dnil
    | exact pu_d1 _ _ _ (rpS ⟨by decide +kernel, by decide +kernel⟩)
    | exact pu_d1 _ _ _ rpI
    | exact pu_d1i _ _ _ (rpS ⟨by decide +kernel, by decide +kernel⟩)
    | exact pu_d2 _ _ _ _ _ _ (by decide +kernel) (rpS ⟨by decide +kernel, by decide +kernel⟩) (rpS ⟨by decide +kernel, by decide +kernel⟩)
    | with_reducible apply said_pu
    | with_reducible apply pu_fld cK (nA _ (by decide +kernel))
    | with_reducible apply pu_op (hr := pu_eqU hC hnT hnC veqF_bl)
    | with_reducible apply pu_op (hr := pu_neU hC hnT hnC)
    | with_reducible apply pu_op (hr := pu_eqNilT)
    | with_reducible apply pu_op (hr := pu_neNilT)
    | with_reducible apply pu_op (hr := pu_addS)
    | with_reducible apply pu_neg
    | with_reducible apply pu_slS
    | with_reducible apply pu_iStr
    | with_reducible apply pu_op (hr := pu_ixT) | with_reducible apply pu_op (hr := pu_ixL) | with_reducible apply pu_op (hr := pu_eqS) | with_reducible apply pu_op (hr := pu_neS) | with_reducible apply pu_op (hr := pu_in) | with_reducible apply pu_op (hr := pu_isNo) | with_reducible apply pu_op (hr := pu_notNo)
    | with_reducible apply pu_op (hr := pu_cm) | with_reducible apply pu_op (hr := pu_ar) | with_reducible apply pu_op (hr := pu_eqP) | with_reducible apply pu_op (hr := pu_neP) | with_reducible apply pu_op (hr := pu_catT) | with_reducible apply pu_op (hr := pu_catL)
    | with_reducible apply pu_chain pu_cm pu_cm | with_reducible apply pu_lcV | with_reducible apply pu_dcV | with_reducible apply pu_iTup | with_reducible apply pu_iLst
    | with_reducible apply pu_slT | with_reducible apply pu_slL | with_reducible exact pu_noPart | with_reducible exact pu_part _
    | exact pu_str _ ⟨by decide +kernel, by decide +kernel⟩ | with_reducible apply pu_call | with_reducible apply pu_tup | with_reducible apply pu_lst | with_reducible apply pu_cons | (with_reducible_and_instances rfl) | rfl)); done)
    | ((with_reducible apply nd_pt); ((repeat' first
    | with_reducible exact pu_var _ | with_reducible exact pu_non | with_reducible exact pu_bl _ | with_reducible exact pu_int _ | with_reducible exact pu_nil | with_reducible exact pu_next | with_reducible exact pu_yes
    | with_reducible apply pu_seq | with_reducible apply pu_ifS | with_reducible apply pu_ret | with_reducible apply pu_asg
    | with_reducible apply pu_and | with_reducible apply pu_or | with_reducible apply pu_not | with_reducible apply pu_test | with_reducible apply pu_b
    | with_reducible apply pu_andV | with_reducible apply pu_orV | with_reducible apply pu_notV | with_reducible apply pu_if
    | with_reducible apply pu_isi hC | with_reducible apply pu_cb (hr := pu_len) | with_reducible apply pu_cb (hr := pu_all) | with_reducible apply pu_cb (hr := pu_any) | with_reducible apply pu_cb (hr := pu_tupOf) | with_reducible apply pu_cb (hr := pu_lstOf)
    | with_reducible exact pu_dnil
    | exact pu_d1 _ _ _ (rpS ⟨by decide +kernel, by decide +kernel⟩)
    | exact pu_d1 _ _ _ rpI
    | exact pu_d1i _ _ _ (rpS ⟨by decide +kernel, by decide +kernel⟩)
    | exact pu_d2 _ _ _ _ _ _ (by decide +kernel) (rpS ⟨by decide +kernel, by decide +kernel⟩) (rpS ⟨by decide +kernel, by decide +kernel⟩)
    | with_reducible apply said_pu
    | with_reducible apply pu_fld cK (nA _ (by decide +kernel))
    | with_reducible apply pu_op (hr := pu_eqU hC hnT hnC veqF_bl)
    | with_reducible apply pu_op (hr := pu_neU hC hnT hnC)
    | with_reducible apply pu_op (hr := pu_eqNilT)
    | with_reducible apply pu_op (hr := pu_neNilT)
    | with_reducible apply pu_op (hr := pu_addS)
    | with_reducible apply pu_neg
    | with_reducible apply pu_slS
    | with_reducible apply pu_iStr
    | with_reducible apply pu_op (hr := pu_ixT) | with_reducible apply pu_op (hr := pu_ixL) | with_reducible apply pu_op (hr := pu_eqS) | with_reducible apply pu_op (hr := pu_neS) | with_reducible apply pu_op (hr := pu_in) | with_reducible apply pu_op (hr := pu_isNo) | with_reducible apply pu_op (hr := pu_notNo)
    | with_reducible apply pu_op (hr := pu_cm) | with_reducible apply pu_op (hr := pu_ar) | with_reducible apply pu_op (hr := pu_eqP) | with_reducible apply pu_op (hr := pu_neP) | with_reducible apply pu_op (hr := pu_catT) | with_reducible apply pu_op (hr := pu_catL)
    | with_reducible apply pu_chain pu_cm pu_cm | with_reducible apply pu_lcV | with_reducible apply pu_dcV | with_reducible apply pu_iTup | with_reducible apply pu_iLst
    | with_reducible apply pu_slT | with_reducible apply pu_slL | with_reducible exact pu_noPart | with_reducible exact pu_part _
    | exact pu_str _ ⟨by decide +kernel, by decide +kernel⟩ | with_reducible apply pu_call | with_reducible apply pu_tup | with_reducible apply pu_lst | with_reducible apply pu_cons | (with_reducible_and_instances rfl) | rfl)); done)
    | with_reducible apply nd_if | with_reducible apply nd_test | with_reducible apply nd_call | with_reducible apply nd_cons
    | with_reducible apply nd_op (hr := pu_ar) | with_reducible apply nd_op (hr := pu_cm) | with_reducible apply nd_op (hr := pu_eqS) | with_reducible apply nd_tup | with_reducible apply nd_lst)
  case hm => exact Nat.zero_le _
  case hf =>
    exact ⟨_, bnd (E.tup [E.tup [a1, b1, .bl (!c1), t1]]) rfl (bnd (E.tup rest) (bnd g rfl (by rw [hg]; exact slT_tail _ _)) (catT_ok (by show 1 + _ ≤ 900; omega))), rfl⟩
  case hk => show 1 < 5; decide
  rintro _ H20 B20 nO20 rfl
  have nd20 := nO20.free (by show 5 ≤ 900; decide) (fun b hb => (nO20.nd.fr b hb).1) (nd17.fr L3 hL3) nd17.nw rfl
  have nd20 : Nd p 4 400000000000000 Pr σ14 H20 [none, some (.lst (parts5.map E.str)), none, some (.int z), none, some (.lst [n, g, m, s', h']), some (.ins CK flds [n, g, m, s', h']), some (.ins CK flds [n, g, m, s', h']), some (.lst [n, g, m, s', h']), some (.int at_), some (.int more), some (.lst ds2), some (.lst [n, .tup (.tup [a1, b1, .bl (!c1), t1] :: rest), m, s', h']), some (.tup [a1, b1, .bl c1, t1]), none, none, none, none, none, none] := nd20.le (by decide)
  have B20' := B17'.trans (B20 H17 (B18.trans B19) hL3)
  clear nO20 nO19 nO18 nd17 nd16
  obtain ⟨krn, nen⟩ := kr.net hn3
  apply st_ifN (nd := nd20)
  case pu => (repeat' first
    | with_reducible exact pu_var _ | with_reducible exact pu_non | with_reducible exact pu_bl _ | with_reducible exact pu_int _ | with_reducible exact pu_nil | with_reducible exact pu_next | with_reducible exact pu_yes
    | with_reducible apply pu_seq | with_reducible apply pu_ifS | with_reducible apply pu_ret | with_reducible apply pu_asg
    | with_reducible apply pu_and | with_reducible apply pu_or | with_reducible apply pu_not | with_reducible apply pu_test | with_reducible apply pu_b
    | with_reducible apply pu_andV | with_reducible apply pu_orV | with_reducible apply pu_notV | with_reducible apply pu_if
    | with_reducible apply pu_isi hC | with_reducible apply pu_cb (hr := pu_len) | with_reducible apply pu_cb (hr := pu_all) | with_reducible apply pu_cb (hr := pu_any) | with_reducible apply pu_cb (hr := pu_tupOf) | with_reducible apply pu_cb (hr := pu_lstOf)
    | with_reducible exact pu_dnil
    | exact pu_d1 _ _ _ (rpS ⟨by decide +kernel, by decide +kernel⟩)
    | exact pu_d1 _ _ _ rpI
    | exact pu_d1i _ _ _ (rpS ⟨by decide +kernel, by decide +kernel⟩)
    | exact pu_d2 _ _ _ _ _ _ (by decide +kernel) (rpS ⟨by decide +kernel, by decide +kernel⟩) (rpS ⟨by decide +kernel, by decide +kernel⟩)
    | with_reducible apply said_pu
    | with_reducible apply pu_fld cK (nA _ (by decide +kernel))
    | with_reducible apply pu_op (hr := pu_eqU hC hnT hnC veqF_bl)
    | with_reducible apply pu_op (hr := pu_neU hC hnT hnC)
    | with_reducible apply pu_op (hr := pu_eqNilT)
    | with_reducible apply pu_op (hr := pu_neNilT)
    | with_reducible apply pu_op (hr := pu_addS)
    | with_reducible apply pu_neg
    | with_reducible apply pu_slS
    | with_reducible apply pu_iStr
    | with_reducible apply pu_op (hr := pu_ixT) | with_reducible apply pu_op (hr := pu_ixL) | with_reducible apply pu_op (hr := pu_eqS) | with_reducible apply pu_op (hr := pu_neS) | with_reducible apply pu_op (hr := pu_in) | with_reducible apply pu_op (hr := pu_isNo) | with_reducible apply pu_op (hr := pu_notNo)
    | with_reducible apply pu_op (hr := pu_cm) | with_reducible apply pu_op (hr := pu_ar) | with_reducible apply pu_op (hr := pu_eqP) | with_reducible apply pu_op (hr := pu_neP) | with_reducible apply pu_op (hr := pu_catT) | with_reducible apply pu_op (hr := pu_catL)
    | with_reducible apply pu_chain pu_cm pu_cm | with_reducible apply pu_lcV | with_reducible apply pu_dcV | with_reducible apply pu_iTup | with_reducible apply pu_iLst
    | with_reducible apply pu_slT | with_reducible apply pu_slL | with_reducible exact pu_noPart | with_reducible exact pu_part _
    | exact pu_str _ ⟨by decide +kernel, by decide +kernel⟩ | with_reducible apply pu_call | with_reducible apply pu_tup | with_reducible apply pu_lst | with_reducible apply pu_cons | (with_reducible_and_instances rfl) | rfl)
  case e => exact bF (bnd (.bl false) (bnd _ (bnd _ rfl (said_none krf.fit.k krf.fit.d)) (bnd _ rfl (eq_of inC krf.fit kr.fit nef))) rfl) (bnd (.bl false) (bnd _ (bnd (.lst [.str "net", g, m, s', h']) rfl (said_none krn.fit.k krn.fit.d)) (bnd _ rfl (eq_of inC krn.fit kr.fit nen))) rfl)
  intro H21 B21 nd21
  have B21' := B20'.trans B21
  have hrow := row_four kr.gr.a
  -- names
  apply st_set (nd := nd21) (Φ := fun d => d = .lst (names.map E.str))
  case hE => (repeat' first
    | with_reducible exact nd_next | with_reducible exact nd_nil
    | with_reducible apply nd_ret | with_reducible apply nd_seq | with_reducible apply nd_ifS | (with_reducible apply nd_asg (ij := by decide))
    | ((with_reducible apply nd_pu); ((repeat' first
    | with_reducible exact pu_var _ | with_reducible exact pu_non | with_reducible exact pu_bl _ | with_reducible exact pu_int _ | with_reducible exact pu_nil | with_reducible exact pu_next | with_reducible exact pu_yes
    | with_reducible apply pu_seq | with_reducible apply pu_ifS | with_reducible apply pu_ret | with_reducible apply pu_asg
    | with_reducible apply pu_and | with_reducible apply pu_or | with_reducible apply pu_not | with_reducible apply pu_test | with_reducible apply pu_b
    | with_reducible apply pu_andV | with_reducible apply pu_orV | with_reducible apply pu_notV | with_reducible apply pu_if
    | with_reducible apply pu_isi hC | with_reducible apply pu_cb (hr := pu_len) | with_reducible apply pu_cb (hr := pu_all) | with_reducible apply pu_cb (hr := pu_any) | with_reducible apply pu_cb (hr := pu_tupOf) | with_reducible apply pu_cb (hr := pu_lstOf)
    | with_reducible exact pu_dnil
    | exact pu_d1 _ _ _ (rpS ⟨by decide +kernel, by decide +kernel⟩)
    | exact pu_d1 _ _ _ rpI
    | exact pu_d1i _ _ _ (rpS ⟨by decide +kernel, by decide +kernel⟩)
    | exact pu_d2 _ _ _ _ _ _ (by decide +kernel) (rpS ⟨by decide +kernel, by decide +kernel⟩) (rpS ⟨by decide +kernel, by decide +kernel⟩)
    | with_reducible apply said_pu
    | with_reducible apply pu_fld cK (nA _ (by decide +kernel))
    | with_reducible apply pu_op (hr := pu_eqU hC hnT hnC veqF_bl)
    | with_reducible apply pu_op (hr := pu_neU hC hnT hnC)
    | with_reducible apply pu_op (hr := pu_eqNilT)
    | with_reducible apply pu_op (hr := pu_neNilT)
    | with_reducible apply pu_op (hr := pu_addS)
    | with_reducible apply pu_neg
    | with_reducible apply pu_slS
    | with_reducible apply pu_iStr
    | with_reducible apply pu_op (hr := pu_ixT) | with_reducible apply pu_op (hr := pu_ixL) | with_reducible apply pu_op (hr := pu_eqS) | with_reducible apply pu_op (hr := pu_neS) | with_reducible apply pu_op (hr := pu_in) | with_reducible apply pu_op (hr := pu_isNo) | with_reducible apply pu_op (hr := pu_notNo)
    | with_reducible apply pu_op (hr := pu_cm) | with_reducible apply pu_op (hr := pu_ar) | with_reducible apply pu_op (hr := pu_eqP) | with_reducible apply pu_op (hr := pu_neP) | with_reducible apply pu_op (hr := pu_catT) | with_reducible apply pu_op (hr := pu_catL)
    | with_reducible apply pu_chain pu_cm pu_cm | with_reducible apply pu_lcV | with_reducible apply pu_dcV | with_reducible apply pu_iTup | with_reducible apply pu_iLst
    | with_reducible apply pu_slT | with_reducible apply pu_slL | with_reducible exact pu_noPart | with_reducible exact pu_part _
    | exact pu_str _ ⟨by decide +kernel, by decide +kernel⟩ | with_reducible apply pu_call | with_reducible apply pu_tup | with_reducible apply pu_lst | with_reducible apply pu_cons | (with_reducible_and_instances rfl) | rfl)); done)
    | ((with_reducible apply nd_pt); ((repeat' first
    | with_reducible exact pu_var _ | with_reducible exact pu_non | with_reducible exact pu_bl _ | with_reducible exact pu_int _ | with_reducible exact pu_nil | with_reducible exact pu_next | with_reducible exact pu_yes
    | with_reducible apply pu_seq | with_reducible apply pu_ifS | with_reducible apply pu_ret | with_reducible apply pu_asg
    | with_reducible apply pu_and | with_reducible apply pu_or | with_reducible apply pu_not | with_reducible apply pu_test | with_reducible apply pu_b
    | with_reducible apply pu_andV | with_reducible apply pu_orV | with_reducible apply pu_notV | with_reducible apply pu_if
    | with_reducible apply pu_isi hC | with_reducible apply pu_cb (hr := pu_len) | with_reducible apply pu_cb (hr := pu_all) | with_reducible apply pu_cb (hr := pu_any) | with_reducible apply pu_cb (hr := pu_tupOf) | with_reducible apply pu_cb (hr := pu_lstOf)
    | with_reducible exact pu_dnil
    | exact pu_d1 _ _ _ (rpS ⟨by decide +kernel, by decide +kernel⟩)
    | exact pu_d1 _ _ _ rpI
    | exact pu_d1i _ _ _ (rpS ⟨by decide +kernel, by decide +kernel⟩)
    | exact pu_d2 _ _ _ _ _ _ (by decide +kernel) (rpS ⟨by decide +kernel, by decide +kernel⟩) (rpS ⟨by decide +kernel, by decide +kernel⟩)
    | with_reducible apply said_pu
    | with_reducible apply pu_fld cK (nA _ (by decide +kernel))
    | with_reducible apply pu_op (hr := pu_eqU hC hnT hnC veqF_bl)
    | with_reducible apply pu_op (hr := pu_neU hC hnT hnC)
    | with_reducible apply pu_op (hr := pu_eqNilT)
    | with_reducible apply pu_op (hr := pu_neNilT)
    | with_reducible apply pu_op (hr := pu_addS)
    | with_reducible apply pu_neg
    | with_reducible apply pu_slS
    | with_reducible apply pu_iStr
    | with_reducible apply pu_op (hr := pu_ixT) | with_reducible apply pu_op (hr := pu_ixL) | with_reducible apply pu_op (hr := pu_eqS) | with_reducible apply pu_op (hr := pu_neS) | with_reducible apply pu_op (hr := pu_in) | with_reducible apply pu_op (hr := pu_isNo) | with_reducible apply pu_op (hr := pu_notNo)
    | with_reducible apply pu_op (hr := pu_cm) | with_reducible apply pu_op (hr := pu_ar) | with_reducible apply pu_op (hr := pu_eqP) | with_reducible apply pu_op (hr := pu_neP) | with_reducible apply pu_op (hr := pu_catT) | with_reducible apply pu_op (hr := pu_catL)
    | with_reducible apply pu_chain pu_cm pu_cm | with_reducible apply pu_lcV | with_reducible apply pu_dcV | with_reducible apply pu_iTup | with_reducible apply pu_iLst
    | with_reducible apply pu_slT | with_reducible apply pu_slL | with_reducible exact pu_noPart | with_reducible exact pu_part _
    | exact pu_str _ ⟨by decide +kernel, by decide +kernel⟩ | with_reducible apply pu_call | with_reducible apply pu_tup | with_reducible apply pu_lst | with_reducible apply pu_cons | (with_reducible_and_instances rfl) | rfl)); done)
    | with_reducible apply nd_if | with_reducible apply nd_test | with_reducible apply nd_call | with_reducible apply nd_cons
    | with_reducible apply nd_op (hr := pu_ar) | with_reducible apply nd_op (hr := pu_cm) | with_reducible apply nd_op (hr := pu_eqS) | with_reducible apply nd_tup | with_reducible apply nd_lst)
  case hm => exact Nat.zero_le _
  case hf =>
    refine ⟨_, bnd rows (bnd (.tup rows) (bnd _ rfl (bnd _ rfl (congrArg some kr.g))) (by show (if rows.length ≤ 900 then some rows else none) = some rows; rw [if_pos (by omega)])) (mp _ (lcE_filter (fun _ => true) frst _ (fun x hx => rfl) fun x hx _ => ?_)), ?_⟩
    · obtain ⟨a, b, c, d, rfl⟩ := hrow x hx
      rfl
    · rw [List.filter_eq_self.mpr fun _ _ => rfl]
      exact congrArg E.lst kr.gr.good.2.2.2.2.2.2
  case ji => decide
  rintro v14 _ H22 B22 nd22 rfl
  generalize (σ14.set 14 (some v14)) = σ15 at nd22 ⊢
  have nd22 : Nd p 4 300000000000000 Pr σ15 H22 [none, some (.lst (parts5.map E.str)), none, some (.int z), none, some (.lst [n, g, m, s', h']), some (.ins CK flds [n, g, m, s', h']), some (.ins CK flds [n, g, m, s', h']), some (.lst [n, g, m, s', h']), some (.int at_), some (.int more), some (.lst ds2), some (.lst [n, .tup (.tup [a1, b1, .bl (!c1), t1] :: rest), m, s', h']), some (.tup [a1, b1, .bl c1, t1]), some (.lst (names.map E.str)), none, none, none, none, none] := nd22.le (by decide)
  -- single_so
  apply st_set (nd := nd22) (Φ := fun d => ∃ y ∈ names, (s' = .non ∧ d = .str y) ∨ (s' ≠ .non ∧ d = .non))
  case hE => (repeat' first
    | with_reducible exact nd_next | with_reducible exact nd_nil
    | with_reducible apply nd_ret | with_reducible apply nd_seq | with_reducible apply nd_ifS | (with_reducible apply nd_asg (ij := by decide))
    | ((with_reducible apply nd_pu); ((repeat' first
    | with_reducible exact pu_var _ | with_reducible exact pu_non | with_reducible exact pu_bl _ | with_reducible exact pu_int _ | with_reducible exact pu_nil | with_reducible exact pu_next | with_reducible exact pu_yes
    | with_reducible apply pu_seq | with_reducible apply pu_ifS | with_reducible apply pu_ret | with_reducible apply pu_asg
    | with_reducible apply pu_and | with_reducible apply pu_or | with_reducible apply pu_not | with_reducible apply pu_test | with_reducible apply pu_b
    | with_reducible apply pu_andV | with_reducible apply pu_orV | with_reducible apply pu_notV | with_reducible apply pu_if
    | with_reducible apply pu_isi hC | with_reducible apply pu_cb (hr := pu_len) | with_reducible apply pu_cb (hr := pu_all) | with_reducible apply pu_cb (hr := pu_any) | with_reducible apply pu_cb (hr := pu_tupOf) | with_reducible apply pu_cb (hr := pu_lstOf)
    | with_reducible exact pu_dnil
    | exact pu_d1 _ _ _ (rpS ⟨by decide +kernel, by decide +kernel⟩)
    | exact pu_d1 _ _ _ rpI
    | exact pu_d1i _ _ _ (rpS ⟨by decide +kernel, by decide +kernel⟩)
    | exact pu_d2 _ _ _ _ _ _ (by decide +kernel) (rpS ⟨by decide +kernel, by decide +kernel⟩) (rpS ⟨by decide +kernel, by decide +kernel⟩)
    | with_reducible apply said_pu
    | with_reducible apply pu_fld cK (nA _ (by decide +kernel))
    | with_reducible apply pu_op (hr := pu_eqU hC hnT hnC veqF_bl)
    | with_reducible apply pu_op (hr := pu_neU hC hnT hnC)
    | with_reducible apply pu_op (hr := pu_eqNilT)
    | with_reducible apply pu_op (hr := pu_neNilT)
    | with_reducible apply pu_op (hr := pu_addS)
    | with_reducible apply pu_neg
    | with_reducible apply pu_slS
    | with_reducible apply pu_iStr
    | with_reducible apply pu_op (hr := pu_ixT) | with_reducible apply pu_op (hr := pu_ixL) | with_reducible apply pu_op (hr := pu_eqS) | with_reducible apply pu_op (hr := pu_neS) | with_reducible apply pu_op (hr := pu_in) | with_reducible apply pu_op (hr := pu_isNo) | with_reducible apply pu_op (hr := pu_notNo)
    | with_reducible apply pu_op (hr := pu_cm) | with_reducible apply pu_op (hr := pu_ar) | with_reducible apply pu_op (hr := pu_eqP) | with_reducible apply pu_op (hr := pu_neP) | with_reducible apply pu_op (hr := pu_catT) | with_reducible apply pu_op (hr := pu_catL)
    | with_reducible apply pu_chain pu_cm pu_cm | with_reducible apply pu_lcV | with_reducible apply pu_dcV | with_reducible apply pu_iTup | with_reducible apply pu_iLst
    | with_reducible apply pu_slT | with_reducible apply pu_slL | with_reducible exact pu_noPart | with_reducible exact pu_part _
    | exact pu_str _ ⟨by decide +kernel, by decide +kernel⟩ | with_reducible apply pu_call | with_reducible apply pu_tup | with_reducible apply pu_lst | with_reducible apply pu_cons | (with_reducible_and_instances rfl) | rfl)); done)
    | ((with_reducible apply nd_pt); ((repeat' first
    | with_reducible exact pu_var _ | with_reducible exact pu_non | with_reducible exact pu_bl _ | with_reducible exact pu_int _ | with_reducible exact pu_nil | with_reducible exact pu_next | with_reducible exact pu_yes
    | with_reducible apply pu_seq | with_reducible apply pu_ifS | with_reducible apply pu_ret | with_reducible apply pu_asg
    | with_reducible apply pu_and | with_reducible apply pu_or | with_reducible apply pu_not | with_reducible apply pu_test | with_reducible apply pu_b
    | with_reducible apply pu_andV | with_reducible apply pu_orV | with_reducible apply pu_notV | with_reducible apply pu_if
    | with_reducible apply pu_isi hC | with_reducible apply pu_cb (hr := pu_len) | with_reducible apply pu_cb (hr := pu_all) | with_reducible apply pu_cb (hr := pu_any) | with_reducible apply pu_cb (hr := pu_tupOf) | with_reducible apply pu_cb (hr := pu_lstOf)
    | with_reducible exact pu_dnil
    | exact pu_d1 _ _ _ (rpS ⟨by decide +kernel, by decide +kernel⟩)
    | exact pu_d1 _ _ _ rpI
    | exact pu_d1i _ _ _ (rpS ⟨by decide +kernel, by decide +kernel⟩)
    | exact pu_d2 _ _ _ _ _ _ (by decide +kernel) (rpS ⟨by decide +kernel, by decide +kernel⟩) (rpS ⟨by decide +kernel, by decide +kernel⟩)
    | with_reducible apply said_pu
    | with_reducible apply pu_fld cK (nA _ (by decide +kernel))
    | with_reducible apply pu_op (hr := pu_eqU hC hnT hnC veqF_bl)
    | with_reducible apply pu_op (hr := pu_neU hC hnT hnC)
    | with_reducible apply pu_op (hr := pu_eqNilT)
    | with_reducible apply pu_op (hr := pu_neNilT)
    | with_reducible apply pu_op (hr := pu_addS)
    | with_reducible apply pu_neg
    | with_reducible apply pu_slS
    | with_reducible apply pu_iStr
    | with_reducible apply pu_op (hr := pu_ixT) | with_reducible apply pu_op (hr := pu_ixL) | with_reducible apply pu_op (hr := pu_eqS) | with_reducible apply pu_op (hr := pu_neS) | with_reducible apply pu_op (hr := pu_in) | with_reducible apply pu_op (hr := pu_isNo) | with_reducible apply pu_op (hr := pu_notNo)
    | with_reducible apply pu_op (hr := pu_cm) | with_reducible apply pu_op (hr := pu_ar) | with_reducible apply pu_op (hr := pu_eqP) | with_reducible apply pu_op (hr := pu_neP) | with_reducible apply pu_op (hr := pu_catT) | with_reducible apply pu_op (hr := pu_catL)
    | with_reducible apply pu_chain pu_cm pu_cm | with_reducible apply pu_lcV | with_reducible apply pu_dcV | with_reducible apply pu_iTup | with_reducible apply pu_iLst
    | with_reducible apply pu_slT | with_reducible apply pu_slL | with_reducible exact pu_noPart | with_reducible exact pu_part _
    | exact pu_str _ ⟨by decide +kernel, by decide +kernel⟩ | with_reducible apply pu_call | with_reducible apply pu_tup | with_reducible apply pu_lst | with_reducible apply pu_cons | (with_reducible_and_instances rfl) | rfl)); done)
    | with_reducible apply nd_if | with_reducible apply nd_test | with_reducible apply nd_call | with_reducible apply nd_cons
    | with_reducible apply nd_op (hr := pu_ar) | with_reducible apply nd_op (hr := pu_cm) | with_reducible apply nd_op (hr := pu_eqS) | with_reducible apply nd_tup | with_reducible apply nd_lst)
  case hm => exact Nat.zero_le _
  case hf =>
    rcases kr.s with hs | ⟨y, hy, hs⟩
    · have hn := kr.gr.n
      clear B22 B21 B20' B18 B19
      simp only [prefs, List.mem_cons, List.not_mem_nil, or_false] at hn
      rcases hn with hn | hn | hn | hn <;> rw [hn, hs] <;> exact ⟨_, bT rfl rfl, _, by decide +kernel, .inl ⟨rfl, rfl⟩⟩
    · rw [hs]
      exact ⟨_, bF rfl rfl, y, hy, .inr ⟨(fun z => by cases z), rfl⟩⟩
  case ji => decide
  rintro v16 d16 H23 B23 nd23 ⟨y16, hy16, h16⟩
  generalize (σ15.set 16 (some v16)) = σ16 at nd23 ⊢
  have nd23 : Nd p 4 300000000000000 Pr σ16 H23 [none, some (.lst (parts5.map E.str)), none, some (.int z), none, some (.lst [n, g, m, s', h']), some (.ins CK flds [n, g, m, s', h']), some (.ins CK flds [n, g, m, s', h']), some (.lst [n, g, m, s', h']), some (.int at_), some (.int more), some (.lst ds2), some (.lst [n, .tup (.tup [a1, b1, .bl (!c1), t1] :: rest), m, s', h']), some (.tup [a1, b1, .bl c1, t1]), some (.lst (names.map E.str)), none, some d16, none, none, none] := nd23.le (by decide)
  obtain ⟨krs, nes⟩ := kr.single hy16 h16
  -- held
  apply st_set (nd := nd23) (Φ := fun d => (h' = .tup [] ∧ d = .tup (names.map E.str)) ∨ (h' ≠ .tup [] ∧ d = .tup []))
  case hE => (repeat' first
    | with_reducible exact nd_next | with_reducible exact nd_nil
    | with_reducible apply nd_ret | with_reducible apply nd_seq | with_reducible apply nd_ifS | (with_reducible apply nd_asg (ij := by decide))
    | ((with_reducible apply nd_pu); ((repeat' first
    | with_reducible exact pu_var _ | with_reducible exact pu_non | with_reducible exact pu_bl _ | with_reducible exact pu_int _ | with_reducible exact pu_nil | with_reducible exact pu_next | with_reducible exact pu_yes
    | with_reducible apply pu_seq | with_reducible apply pu_ifS | with_reducible apply pu_ret | with_reducible apply pu_asg
    | with_reducible apply pu_and | with_reducible apply pu_or | with_reducible apply pu_not | with_reducible apply pu_test | with_reducible apply pu_b
    | with_reducible apply pu_andV | with_reducible apply pu_orV | with_reducible apply pu_notV | with_reducible apply pu_if
    | with_reducible apply pu_isi hC | with_reducible apply pu_cb (hr := pu_len) | with_reducible apply pu_cb (hr := pu_all) | with_reducible apply pu_cb (hr := pu_any) | with_reducible apply pu_cb (hr := pu_tupOf) | with_reducible apply pu_cb (hr := pu_lstOf)
    | with_reducible exact pu_dnil
    | exact pu_d1 _ _ _ (rpS ⟨by decide +kernel, by decide +kernel⟩)
    | exact pu_d1 _ _ _ rpI
    | exact pu_d1i _ _ _ (rpS ⟨by decide +kernel, by decide +kernel⟩)
    | exact pu_d2 _ _ _ _ _ _ (by decide +kernel) (rpS ⟨by decide +kernel, by decide +kernel⟩) (rpS ⟨by decide +kernel, by decide +kernel⟩)
    | with_reducible apply said_pu
    | with_reducible apply pu_fld cK (nA _ (by decide +kernel))
    | with_reducible apply pu_op (hr := pu_eqU hC hnT hnC veqF_bl)
    | with_reducible apply pu_op (hr := pu_neU hC hnT hnC)
    | with_reducible apply pu_op (hr := pu_eqNilT)
    | with_reducible apply pu_op (hr := pu_neNilT)
    | with_reducible apply pu_op (hr := pu_addS)
    | with_reducible apply pu_neg
    | with_reducible apply pu_slS
    | with_reducible apply pu_iStr
    | with_reducible apply pu_op (hr := pu_ixT) | with_reducible apply pu_op (hr := pu_ixL) | with_reducible apply pu_op (hr := pu_eqS) | with_reducible apply pu_op (hr := pu_neS) | with_reducible apply pu_op (hr := pu_in) | with_reducible apply pu_op (hr := pu_isNo) | with_reducible apply pu_op (hr := pu_notNo)
    | with_reducible apply pu_op (hr := pu_cm) | with_reducible apply pu_op (hr := pu_ar) | with_reducible apply pu_op (hr := pu_eqP) | with_reducible apply pu_op (hr := pu_neP) | with_reducible apply pu_op (hr := pu_catT) | with_reducible apply pu_op (hr := pu_catL)
    | with_reducible apply pu_chain pu_cm pu_cm | with_reducible apply pu_lcV | with_reducible apply pu_dcV | with_reducible apply pu_iTup | with_reducible apply pu_iLst
    | with_reducible apply pu_slT | with_reducible apply pu_slL | with_reducible exact pu_noPart | with_reducible exact pu_part _
    | exact pu_str _ ⟨by decide +kernel, by decide +kernel⟩ | with_reducible apply pu_call | with_reducible apply pu_tup | with_reducible apply pu_lst | with_reducible apply pu_cons | (with_reducible_and_instances rfl) | rfl)); done)
    | ((with_reducible apply nd_pt); ((repeat' first
    | with_reducible exact pu_var _ | with_reducible exact pu_non | with_reducible exact pu_bl _ | with_reducible exact pu_int _ | with_reducible exact pu_nil | with_reducible exact pu_next | with_reducible exact pu_yes
    | with_reducible apply pu_seq | with_reducible apply pu_ifS | with_reducible apply pu_ret | with_reducible apply pu_asg
    | with_reducible apply pu_and | with_reducible apply pu_or | with_reducible apply pu_not | with_reducible apply pu_test | with_reducible apply pu_b
    | with_reducible apply pu_andV | with_reducible apply pu_orV | with_reducible apply pu_notV | with_reducible apply pu_if
    | with_reducible apply pu_isi hC | with_reducible apply pu_cb (hr := pu_len) | with_reducible apply pu_cb (hr := pu_all) | with_reducible apply pu_cb (hr := pu_any) | with_reducible apply pu_cb (hr := pu_tupOf) | with_reducible apply pu_cb (hr := pu_lstOf)
    | with_reducible exact pu_dnil
    | exact pu_d1 _ _ _ (rpS ⟨by decide +kernel, by decide +kernel⟩)
    | exact pu_d1 _ _ _ rpI
    | exact pu_d1i _ _ _ (rpS ⟨by decide +kernel, by decide +kernel⟩)
    | exact pu_d2 _ _ _ _ _ _ (by decide +kernel) (rpS ⟨by decide +kernel, by decide +kernel⟩) (rpS ⟨by decide +kernel, by decide +kernel⟩)
    | with_reducible apply said_pu
    | with_reducible apply pu_fld cK (nA _ (by decide +kernel))
    | with_reducible apply pu_op (hr := pu_eqU hC hnT hnC veqF_bl)
    | with_reducible apply pu_op (hr := pu_neU hC hnT hnC)
    | with_reducible apply pu_op (hr := pu_eqNilT)
    | with_reducible apply pu_op (hr := pu_neNilT)
    | with_reducible apply pu_op (hr := pu_addS)
    | with_reducible apply pu_neg
    | with_reducible apply pu_slS
    | with_reducible apply pu_iStr
    | with_reducible apply pu_op (hr := pu_ixT) | with_reducible apply pu_op (hr := pu_ixL) | with_reducible apply pu_op (hr := pu_eqS) | with_reducible apply pu_op (hr := pu_neS) | with_reducible apply pu_op (hr := pu_in) | with_reducible apply pu_op (hr := pu_isNo) | with_reducible apply pu_op (hr := pu_notNo)
    | with_reducible apply pu_op (hr := pu_cm) | with_reducible apply pu_op (hr := pu_ar) | with_reducible apply pu_op (hr := pu_eqP) | with_reducible apply pu_op (hr := pu_neP) | with_reducible apply pu_op (hr := pu_catT) | with_reducible apply pu_op (hr := pu_catL)
    | with_reducible apply pu_chain pu_cm pu_cm | with_reducible apply pu_lcV | with_reducible apply pu_dcV | with_reducible apply pu_iTup | with_reducible apply pu_iLst
    | with_reducible apply pu_slT | with_reducible apply pu_slL | with_reducible exact pu_noPart | with_reducible exact pu_part _
    | exact pu_str _ ⟨by decide +kernel, by decide +kernel⟩ | with_reducible apply pu_call | with_reducible apply pu_tup | with_reducible apply pu_lst | with_reducible apply pu_cons | (with_reducible_and_instances rfl) | rfl)); done)
    | with_reducible apply nd_if | with_reducible apply nd_test | with_reducible apply nd_call | with_reducible apply nd_cons
    | with_reducible apply nd_op (hr := pu_ar) | with_reducible apply nd_op (hr := pu_cm) | with_reducible apply nd_op (hr := pu_eqS) | with_reducible apply nd_tup | with_reducible apply nd_lst)
  case hm => exact Nat.zero_le _
  case hf =>
    obtain ⟨hs, hh, _⟩ := kr.h
    cases hs with
    | nil =>
      rw [hh]
      exact ⟨_, bT rfl (bnd [.lst (names.map E.str)] rfl (tup_ok (by rw [List.length_map]; have := (pref_n4 kr.gr.n).2.2.1; omega))), .inl ⟨rfl, rfl⟩⟩
    | cons x hs =>
      rw [hh]
      exact ⟨_, bF rfl rfl, .inr ⟨(fun z => by cases z), rfl⟩⟩
  case ji => decide
  rintro v17 d17 H24 B24 nd24 h17
  generalize (σ16.set 17 (some v17)) = σ17 at nd24 ⊢
  have nd24 : Nd p 4 300000000000000 Pr σ17 H24 [none, some (.lst (parts5.map E.str)), none, some (.int z), none, some (.lst [n, g, m, s', h']), some (.ins CK flds [n, g, m, s', h']), some (.ins CK flds [n, g, m, s', h']), some (.lst [n, g, m, s', h']), some (.int at_), some (.int more), some (.lst ds2), some (.lst [n, .tup (.tup [a1, b1, .bl (!c1), t1] :: rest), m, s', h']), some (.tup [a1, b1, .bl c1, t1]), some (.lst (names.map E.str)), none, some d16, some d17, none, none] := nd24.le (by decide)
  obtain ⟨krh, neh⟩ := kr.held h17
  apply st_ifN (nd := nd24)
  case pu => (repeat' first
    | with_reducible exact pu_var _ | with_reducible exact pu_non | with_reducible exact pu_bl _ | with_reducible exact pu_int _ | with_reducible exact pu_nil | with_reducible exact pu_next | with_reducible exact pu_yes
    | with_reducible apply pu_seq | with_reducible apply pu_ifS | with_reducible apply pu_ret | with_reducible apply pu_asg
    | with_reducible apply pu_and | with_reducible apply pu_or | with_reducible apply pu_not | with_reducible apply pu_test | with_reducible apply pu_b
    | with_reducible apply pu_andV | with_reducible apply pu_orV | with_reducible apply pu_notV | with_reducible apply pu_if
    | with_reducible apply pu_isi hC | with_reducible apply pu_cb (hr := pu_len) | with_reducible apply pu_cb (hr := pu_all) | with_reducible apply pu_cb (hr := pu_any) | with_reducible apply pu_cb (hr := pu_tupOf) | with_reducible apply pu_cb (hr := pu_lstOf)
    | with_reducible exact pu_dnil
    | exact pu_d1 _ _ _ (rpS ⟨by decide +kernel, by decide +kernel⟩)
    | exact pu_d1 _ _ _ rpI
    | exact pu_d1i _ _ _ (rpS ⟨by decide +kernel, by decide +kernel⟩)
    | exact pu_d2 _ _ _ _ _ _ (by decide +kernel) (rpS ⟨by decide +kernel, by decide +kernel⟩) (rpS ⟨by decide +kernel, by decide +kernel⟩)
    | with_reducible apply said_pu
    | with_reducible apply pu_fld cK (nA _ (by decide +kernel))
    | with_reducible apply pu_op (hr := pu_eqU hC hnT hnC veqF_bl)
    | with_reducible apply pu_op (hr := pu_neU hC hnT hnC)
    | with_reducible apply pu_op (hr := pu_eqNilT)
    | with_reducible apply pu_op (hr := pu_neNilT)
    | with_reducible apply pu_op (hr := pu_addS)
    | with_reducible apply pu_neg
    | with_reducible apply pu_slS
    | with_reducible apply pu_iStr
    | with_reducible apply pu_op (hr := pu_ixT) | with_reducible apply pu_op (hr := pu_ixL) | with_reducible apply pu_op (hr := pu_eqS) | with_reducible apply pu_op (hr := pu_neS) | with_reducible apply pu_op (hr := pu_in) | with_reducible apply pu_op (hr := pu_isNo) | with_reducible apply pu_op (hr := pu_notNo)
    | with_reducible apply pu_op (hr := pu_cm) | with_reducible apply pu_op (hr := pu_ar) | with_reducible apply pu_op (hr := pu_eqP) | with_reducible apply pu_op (hr := pu_neP) | with_reducible apply pu_op (hr := pu_catT) | with_reducible apply pu_op (hr := pu_catL)
    | with_reducible apply pu_chain pu_cm pu_cm | with_reducible apply pu_lcV | with_reducible apply pu_dcV | with_reducible apply pu_iTup | with_reducible apply pu_iLst
    | with_reducible apply pu_slT | with_reducible apply pu_slL | with_reducible exact pu_noPart | with_reducible exact pu_part _
    | exact pu_str _ ⟨by decide +kernel, by decide +kernel⟩ | with_reducible apply pu_call | with_reducible apply pu_tup | with_reducible apply pu_lst | with_reducible apply pu_cons | (with_reducible_and_instances rfl) | rfl)
  case e => exact bF (bnd (.bl false) (bnd _ (bnd (.lst [n, g, m, d16, h']) rfl (said_none krs.fit.k krs.fit.d)) (bnd _ rfl (eq_of inC krs.fit kr.fit nes))) rfl) (bnd (.bl false) (bnd _ (bnd (.lst [n, g, m, s', d17]) rfl (said_none krh.fit.k krh.fit.d)) (bnd _ rfl (eq_of inC krh.fit kr.fit neh))) rfl)
  intro H25 B25 nd25
  -- one more
  apply st_set (nd := nd25) (Φ := fun d => ∃ ex, d = .lst ex ∧ (∀ e ∈ ex, pl e = true) ∧ rows.length + (ms.length + 1) + ex.length = 9)
  case hE => (repeat' first
    | with_reducible exact nd_next | with_reducible exact nd_nil
    | with_reducible apply nd_ret | with_reducible apply nd_seq | with_reducible apply nd_ifS | (with_reducible apply nd_asg (ij := by decide))
    | ((with_reducible apply nd_pu); ((repeat' first
    | with_reducible exact pu_var _ | with_reducible exact pu_non | with_reducible exact pu_bl _ | with_reducible exact pu_int _ | with_reducible exact pu_nil | with_reducible exact pu_next | with_reducible exact pu_yes
    | with_reducible apply pu_seq | with_reducible apply pu_ifS | with_reducible apply pu_ret | with_reducible apply pu_asg
    | with_reducible apply pu_and | with_reducible apply pu_or | with_reducible apply pu_not | with_reducible apply pu_test | with_reducible apply pu_b
    | with_reducible apply pu_andV | with_reducible apply pu_orV | with_reducible apply pu_notV | with_reducible apply pu_if
    | with_reducible apply pu_isi hC | with_reducible apply pu_cb (hr := pu_len) | with_reducible apply pu_cb (hr := pu_all) | with_reducible apply pu_cb (hr := pu_any) | with_reducible apply pu_cb (hr := pu_tupOf) | with_reducible apply pu_cb (hr := pu_lstOf)
    | with_reducible exact pu_dnil
    | exact pu_d1 _ _ _ (rpS ⟨by decide +kernel, by decide +kernel⟩)
    | exact pu_d1 _ _ _ rpI
    | exact pu_d1i _ _ _ (rpS ⟨by decide +kernel, by decide +kernel⟩)
    | exact pu_d2 _ _ _ _ _ _ (by decide +kernel) (rpS ⟨by decide +kernel, by decide +kernel⟩) (rpS ⟨by decide +kernel, by decide +kernel⟩)
    | with_reducible apply said_pu
    | with_reducible apply pu_fld cK (nA _ (by decide +kernel))
    | with_reducible apply pu_op (hr := pu_eqU hC hnT hnC veqF_bl)
    | with_reducible apply pu_op (hr := pu_neU hC hnT hnC)
    | with_reducible apply pu_op (hr := pu_eqNilT)
    | with_reducible apply pu_op (hr := pu_neNilT)
    | with_reducible apply pu_op (hr := pu_addS)
    | with_reducible apply pu_neg
    | with_reducible apply pu_slS
    | with_reducible apply pu_iStr
    | with_reducible apply pu_op (hr := pu_ixT) | with_reducible apply pu_op (hr := pu_ixL) | with_reducible apply pu_op (hr := pu_eqS) | with_reducible apply pu_op (hr := pu_neS) | with_reducible apply pu_op (hr := pu_in) | with_reducible apply pu_op (hr := pu_isNo) | with_reducible apply pu_op (hr := pu_notNo)
    | with_reducible apply pu_op (hr := pu_cm) | with_reducible apply pu_op (hr := pu_ar) | with_reducible apply pu_op (hr := pu_eqP) | with_reducible apply pu_op (hr := pu_neP) | with_reducible apply pu_op (hr := pu_catT) | with_reducible apply pu_op (hr := pu_catL)
    | with_reducible apply pu_chain pu_cm pu_cm | with_reducible apply pu_lcV | with_reducible apply pu_dcV | with_reducible apply pu_iTup | with_reducible apply pu_iLst
    | with_reducible apply pu_slT | with_reducible apply pu_slL | with_reducible exact pu_noPart | with_reducible exact pu_part _
    | exact pu_str _ ⟨by decide +kernel, by decide +kernel⟩ | with_reducible apply pu_call | with_reducible apply pu_tup | with_reducible apply pu_lst | with_reducible apply pu_cons | (with_reducible_and_instances rfl) | rfl)); done)
    | ((with_reducible apply nd_pt); ((repeat' first
    | with_reducible exact pu_var _ | with_reducible exact pu_non | with_reducible exact pu_bl _ | with_reducible exact pu_int _ | with_reducible exact pu_nil | with_reducible exact pu_next | with_reducible exact pu_yes
    | with_reducible apply pu_seq | with_reducible apply pu_ifS | with_reducible apply pu_ret | with_reducible apply pu_asg
    | with_reducible apply pu_and | with_reducible apply pu_or | with_reducible apply pu_not | with_reducible apply pu_test | with_reducible apply pu_b
    | with_reducible apply pu_andV | with_reducible apply pu_orV | with_reducible apply pu_notV | with_reducible apply pu_if
    | with_reducible apply pu_isi hC | with_reducible apply pu_cb (hr := pu_len) | with_reducible apply pu_cb (hr := pu_all) | with_reducible apply pu_cb (hr := pu_any) | with_reducible apply pu_cb (hr := pu_tupOf) | with_reducible apply pu_cb (hr := pu_lstOf)
    | with_reducible exact pu_dnil
    | exact pu_d1 _ _ _ (rpS ⟨by decide +kernel, by decide +kernel⟩)
    | exact pu_d1 _ _ _ rpI
    | exact pu_d1i _ _ _ (rpS ⟨by decide +kernel, by decide +kernel⟩)
    | exact pu_d2 _ _ _ _ _ _ (by decide +kernel) (rpS ⟨by decide +kernel, by decide +kernel⟩) (rpS ⟨by decide +kernel, by decide +kernel⟩)
    | with_reducible apply said_pu
    | with_reducible apply pu_fld cK (nA _ (by decide +kernel))
    | with_reducible apply pu_op (hr := pu_eqU hC hnT hnC veqF_bl)
    | with_reducible apply pu_op (hr := pu_neU hC hnT hnC)
    | with_reducible apply pu_op (hr := pu_eqNilT)
    | with_reducible apply pu_op (hr := pu_neNilT)
    | with_reducible apply pu_op (hr := pu_addS)
    | with_reducible apply pu_neg
    | with_reducible apply pu_slS
    | with_reducible apply pu_iStr
    | with_reducible apply pu_op (hr := pu_ixT) | with_reducible apply pu_op (hr := pu_ixL) | with_reducible apply pu_op (hr := pu_eqS) | with_reducible apply pu_op (hr := pu_neS) | with_reducible apply pu_op (hr := pu_in) | with_reducible apply pu_op (hr := pu_isNo) | with_reducible apply pu_op (hr := pu_notNo)
    | with_reducible apply pu_op (hr := pu_cm) | with_reducible apply pu_op (hr := pu_ar) | with_reducible apply pu_op (hr := pu_eqP) | with_reducible apply pu_op (hr := pu_neP) | with_reducible apply pu_op (hr := pu_catT) | with_reducible apply pu_op (hr := pu_catL)
    | with_reducible apply pu_chain pu_cm pu_cm | with_reducible apply pu_lcV | with_reducible apply pu_dcV | with_reducible apply pu_iTup | with_reducible apply pu_iLst
    | with_reducible apply pu_slT | with_reducible apply pu_slL | with_reducible exact pu_noPart | with_reducible exact pu_part _
    | exact pu_str _ ⟨by decide +kernel, by decide +kernel⟩ | with_reducible apply pu_call | with_reducible apply pu_tup | with_reducible apply pu_lst | with_reducible apply pu_cons | (with_reducible_and_instances rfl) | rfl)); done)
    | with_reducible apply nd_if | with_reducible apply nd_test | with_reducible apply nd_call | with_reducible apply nd_cons
    | with_reducible apply nd_op (hr := pu_ar) | with_reducible apply nd_op (hr := pu_cm) | with_reducible apply nd_op (hr := pu_eqS) | with_reducible apply nd_tup | with_reducible apply nd_lst)
  case hm => exact Nat.zero_le _
  case hf =>
    obtain ⟨zs, hz1, hz2⟩ := chrK (k := 8 - rows.length - ms.length) (by omega)
    refine ⟨_, bnd _ (bnd (E.str zs) (bnd (E.str "abcdefgh") rfl (bnd (E.int ((8 - rows.length - ms.length : Nat) : Int)) (bnd (E.int (9 - (rows.length : Int))) (bnd (E.int 9) rfl (bnd (E.int (rows.length : Int)) (bnd ([E.tup rows] : List E) (bnd (E.tup rows) (bnd _ rfl (bnd _ rfl (congrArg some kr.g))) rfl) rfl) rfl)) (bnd (E.int ((idT :: ms).length : Int)) (bnd ([E.tup (idT :: ms)] : List E) (bnd (E.tup (idT :: ms)) (bnd _ rfl (bnd _ rfl (congrArg some kr.m))) rfl) rfl) ?ar)) hz1)) hz2) (mp _ (lcE_filter (fun _ => true) gLong _ (fun _ _ => rfl) fun x hx _ => ?lg)), _, rfl, fun e he => ?_, ?_⟩
    case ar =>
      show some (E.int (9 - (rows.length : Int) - ((idT :: ms).length : Int))) = _
      rw [List.length_cons]
      congr 2
      omega
    case lg =>
      obtain ⟨c, hc, rfl⟩ := List.mem_map.mp hx
      exact bnd [.str ("a" ++ c), .tup [.str "mark"]] (bnd _ (bnd _ rfl (bnd _ rfl (add_chr (List.mem_of_mem_take hc)))) rfl) rfl
    · obtain ⟨x, hx, rfl⟩ := List.mem_map.mp he
      obtain ⟨c, hc, rfl⟩ := List.mem_map.mp (List.mem_filter.mp hx).1
      rfl
    · rw [List.length_map, List.filter_eq_self.mpr fun _ _ => rfl, List.length_map, List.length_take, show chars.length = 8 from rfl]
      omega
  case ji => decide
  rintro v18 _ H26 B26 nd26 ⟨ex, rfl, hex, hexl⟩
  generalize (σ17.set 18 (some v18)) = σ18 at nd26 ⊢
  obtain ⟨ke, kde⟩ := kr.extra hex hexl
  apply st_ifN1 (nd := nd26)
  case pu => (repeat' first
    | with_reducible exact pu_var _ | with_reducible exact pu_non | with_reducible exact pu_bl _ | with_reducible exact pu_int _ | with_reducible exact pu_nil | with_reducible exact pu_next | with_reducible exact pu_yes
    | with_reducible apply pu_seq | with_reducible apply pu_ifS | with_reducible apply pu_ret | with_reducible apply pu_asg
    | with_reducible apply pu_and | with_reducible apply pu_or | with_reducible apply pu_not | with_reducible apply pu_test | with_reducible apply pu_b
    | with_reducible apply pu_andV | with_reducible apply pu_orV | with_reducible apply pu_notV | with_reducible apply pu_if
    | with_reducible apply pu_isi hC | with_reducible apply pu_cb (hr := pu_len) | with_reducible apply pu_cb (hr := pu_all) | with_reducible apply pu_cb (hr := pu_any) | with_reducible apply pu_cb (hr := pu_tupOf) | with_reducible apply pu_cb (hr := pu_lstOf)
    | with_reducible exact pu_dnil
    | exact pu_d1 _ _ _ (rpS ⟨by decide +kernel, by decide +kernel⟩)
    | exact pu_d1 _ _ _ rpI
    | exact pu_d1i _ _ _ (rpS ⟨by decide +kernel, by decide +kernel⟩)
    | exact pu_d2 _ _ _ _ _ _ (by decide +kernel) (rpS ⟨by decide +kernel, by decide +kernel⟩) (rpS ⟨by decide +kernel, by decide +kernel⟩)
    | with_reducible apply said_pu
    | with_reducible apply pu_fld cK (nA _ (by decide +kernel))
    | with_reducible apply pu_op (hr := pu_eqU hC hnT hnC veqF_bl)
    | with_reducible apply pu_op (hr := pu_neU hC hnT hnC)
    | with_reducible apply pu_op (hr := pu_eqNilT)
    | with_reducible apply pu_op (hr := pu_neNilT)
    | with_reducible apply pu_op (hr := pu_addS)
    | with_reducible apply pu_neg
    | with_reducible apply pu_slS
    | with_reducible apply pu_iStr
    | with_reducible apply pu_op (hr := pu_ixT) | with_reducible apply pu_op (hr := pu_ixL) | with_reducible apply pu_op (hr := pu_eqS) | with_reducible apply pu_op (hr := pu_neS) | with_reducible apply pu_op (hr := pu_in) | with_reducible apply pu_op (hr := pu_isNo) | with_reducible apply pu_op (hr := pu_notNo)
    | with_reducible apply pu_op (hr := pu_cm) | with_reducible apply pu_op (hr := pu_ar) | with_reducible apply pu_op (hr := pu_eqP) | with_reducible apply pu_op (hr := pu_neP) | with_reducible apply pu_op (hr := pu_catT) | with_reducible apply pu_op (hr := pu_catL)
    | with_reducible apply pu_chain pu_cm pu_cm | with_reducible apply pu_lcV | with_reducible apply pu_dcV | with_reducible apply pu_iTup | with_reducible apply pu_iLst
    | with_reducible apply pu_slT | with_reducible apply pu_slL | with_reducible exact pu_noPart | with_reducible exact pu_part _
    | exact pu_str _ ⟨by decide +kernel, by decide +kernel⟩ | with_reducible apply pu_call | with_reducible apply pu_tup | with_reducible apply pu_lst | with_reducible apply pu_cons | (with_reducible_and_instances rfl) | rfl)
  case e =>
    exact bnd (.bl false) (bnd (E.tup [E.str "refused", E.str "made"]) (bnd (E.lst [n, g, E.tup (idT :: ms ++ ex), s', h']) (bnd (E.lst [n, g, E.tup (idT :: ms ++ ex)]) (bnd (E.lst [n, g]) rfl (bnd (E.lst [E.tup (idT :: ms ++ ex)]) (bnd ([E.tup (idT :: ms ++ ex)] : List E) (bnd (E.tup (idT :: ms ++ ex)) (bnd m rfl (bnd (E.tup ex) (bnd ([E.lst ex] : List E) rfl (tup_ok (by omega))) (by rw [kr.m]; exact catT_ok (by rw [List.length_cons]; omega)))) rfl) rfl) rfl)) (bnd (E.lst [s', h']) rfl rfl)) (said_part ke kde)) (bnd _ rfl (neP_same (by decide +kernel)))) rfl
  intro H27 B27 nd27
  exact start H27 _ _ _ Pr ((B21'.trans ((((B22.trans B23).trans B24).trans B25).trans B26)).trans B27) nd27 (by show _ ∧ True; exact ⟨rfl, trivial⟩)
end
end K05

namespace K05
open PySem L2 XR VT ET
theorem isC {K : PySem.W.Frag} {C : Addr} (i : PySem.W.isClsIn K C = true) (ty : PySem.W.typeIn K (.ref C) = some (.type "type")) : ((PySem.W.clsIn K C).isSome && PySem.W.typeIn K (.ref C) == some (.type "type")) = true := by
  have i2 : (PySem.W.clsIn K C).isSome = true := i
  rw [i2, ty]
  rfl
theorem kit_tyC {K : PySem.W.Frag} {C : Addr} {t : String} {b : Bool} (i : PySem.W.isClsIn K C = true) (ty : PySem.W.typeIn K (.ref C) = some (.type "type")) (h : (PySem.W.subIn K (.type t) (.ref C)) = some b) : PySem.W.kitOne K (.type t) (.ref C) = some b := by
  show (if (Value.type t == Value.ref C) = true then some true else if ((PySem.W.clsIn K C).isSome && PySem.W.typeIn K (.ref C) == some (.type "type")) = true then PySem.W.subIn K (.type t) (.ref C) else none) = _
  rw [if_neg (by intro z; exact Value.noConfusion (beq_iff_eq.mp z)), if_pos (isC i ty), h]
theorem kit_self {K : PySem.W.Frag} {C : Addr} : PySem.W.kitOne K (.ref C) (.ref C) = some true := by
  show (if (Value.ref C == Value.ref C) = true then some true else if ((PySem.W.clsIn K C).isSome && PySem.W.typeIn K (.ref C) == some (.type "type")) = true then PySem.W.mroIn K C (.ref C) else none) = _
  rw [if_pos (beq_self_eq_true _)]
theorem kit_CT {K : PySem.W.Frag} {C : Addr} {t : String} {b : Bool} (m : PySem.W.kitMeta t = true) (h : PySem.W.mroIn K C (.type t) = some b) : PySem.W.kitOne K (.ref C) (.type t) = some b := by
  show (if (Value.ref C == Value.type t) = true then some true else if PySem.W.kitMeta t = true then PySem.W.mroIn K C (.type t) else none) = _
  rw [if_neg (by intro z; exact Value.noConfusion (beq_iff_eq.mp z)), if_pos m, h]
theorem kit_CC {K : PySem.W.Frag} {C D : Addr} {b : Bool} (ne : C ≠ D) (i : PySem.W.isClsIn K D = true) (ty : PySem.W.typeIn K (.ref D) = some (.type "type")) (h : PySem.W.mroIn K C (.ref D) = some b) : PySem.W.kitOne K (.ref C) (.ref D) = some b := by
  show (if (Value.ref C == Value.ref D) = true then some true else if ((PySem.W.clsIn K D).isSome && PySem.W.typeIn K (.ref D) == some (.type "type")) = true then PySem.W.mroIn K C (.ref D) else none) = _
  rw [if_neg (by intro z; exact ne (Value.ref.inj (beq_iff_eq.mp z))), if_pos (isC i ty), h]
theorem eqF0 {P : Program} {w : World} {K : PySem.W.Frag} {mg : Str → Option Value} {base : Heap} {k : Nat} {f : Addr} {fd : FuncData} : FnOk P w K mg base CX0 k f fd ["one", "other"] (spP (eqF 0)) := by
  have no : ∀ vs H Q E0, spP (eqF 0) vs H Q E0 → False := fun vs H Q E0 ⟨P, ds, d, r, fr, e, k⟩ => by
    unfold K05.eqF at e
    split at e
    · rw [if_neg (by simp)] at e
      cases e
    · cases e
  exact ⟨fun vs H Q E h => (no _ _ _ _ h).elim, fun A o s H args us vs Q E hr e0 hb r hs => (no _ _ _ _ hs).elim⟩
theorem walk {l : PySem.W.OpenLaw} {q : Program} {loose : List Str} {XP : (Str → Option Value) → Heap → Prop} {YP : World → Heap → Prop} {d : DefRec} {K : Params → PySem.W.Frag} (hn : l.most = some 63) (hdf : d.params.defaults = [])
    (hY : ∀ (w : World) (h : Heap), YP w h → (K w.params).In h)
    (F : ∀ (w : World) (mg : Str → Option Value) (fa : Addr) (h : Heap), (K w.params).In h → h.Ns mainGlobals mg → mg d.name = some (.ref fa) →
      ∃ fd : FuncData, (∀ (s : Shared) (u : Value), BindsTo s fd ⟨[u], []⟩ [("_law_script", u)]) ∧ ∀ base : Heap, (K w.params).In base → base.Ns mainGlobals mg → FnOk l.prog w (K w.params) mg base CX0 11 fa fd ["_law_script"] (spLaw (K w.params))) :
    PySem.W.WalkO q loose XP YP l.row.toRowW d [] (fun f vs => PySem.call f vs) :=
  L2.walk_of (n := 63) (k := 11) (x := "_law_script") (CX := fun _ => CX0) (sp := fun w => spLaw (K w.params)) hn (by decide) hdf ⟨rfl, by decide, by decide⟩ hY F (fun _ _ a ns hl _ hS => ⟨a, ns, rfl, hS, hl, fun _ => rfl⟩) fun _ _ _ _ _ z => z
theorem all_mk {l : PySem.W.OpenLaw} {w : World} {K : PySem.W.Frag} {h : Heap} {mg : Str → Option Value} {fa : Addr} (X : K.In h) (G : h.Ns mainGlobals mg) (hfa : mg "law" = some (.ref fa))
    {CK CV CU CP CN aS : Addr}
    {tL tM tN tS0 tS1 tS2 : Tok} {nS : Nat} {slS : Array (Option Value)}
    {dS : Option Addr}
    {finteg : Addr} {odinteg aninteg : Option Addr} {slinteg : Array (Option Value)} {ocinteg kVinteg dcinteg pminteg ctinteg cdinteg : Value}
    {fname : Addr} {odname anname : Option Addr} {slname : Array (Option Value)} {ocname kVname dcname pmname ctname cdname : Value}
    {ftag : Addr} {odtag antag : Option Addr} {sltag : Array (Option Value)} {octag kVtag dctag pmtag cttag cdtag : Value}
    {fsort : Addr} {odsort ansort : Option Addr} {slsort : Array (Option Value)} {ocsort kVsort dcsort pmsort ctsort cdsort : Value}
    {feq : Addr} {odeq aneq : Option Addr} {sleq : Array (Option Value)} {oceq kVeq dceq pmeq cteq cdeq : Value}
    {ftabl : Addr} {odtabl antabl : Option Addr} {sltabl : Array (Option Value)} {octabl kVtabl dctabl pmtabl cttabl cdtabl : Value}
    {fgivn : Addr} {odgivn angivn : Option Addr} {slgivn : Array (Option Value)} {ocgivn kVgivn dcgivn pmgivn ctgivn cdgivn : Value}
    {funl : Addr} {odunl anunl : Option Addr} {slunl : Array (Option Value)} {ocunl kVunl dcunl pmunl ctunl cdunl : Value}
    {frule : Addr} {odrule anrule : Option Addr} {slrule : Array (Option Value)} {ocrule kVrule dcrule pmrule ctrule cdrule : Value}
    {fmadf : Addr} {odmadf anmadf : Option Addr} {slmadf : Array (Option Value)} {ocmadf kVmadf dcmadf pmmadf ctmadf cdmadf : Value}
    {fheld : Addr} {odheld anheld : Option Addr} {slheld : Array (Option Value)} {ocheld kVheld dcheld pmheld ctheld cdheld : Value}
    {fwell : Addr} {odwell anwell : Option Addr} {slwell : Array (Option Value)} {ocwell kVwell dcwell pmwell ctwell cdwell : Value}
    {fdraw : Addr} {oddraw andraw : Option Addr} {sldraw : Array (Option Value)} {ocdraw kVdraw dcdraw pmdraw ctdraw cddraw : Value}
    {fone : Addr} {odone anone : Option Addr} {slone : Array (Option Value)} {ocone kVone dcone pmone ctone cdone : Value}
    {fltab : Addr} {odltab anltab : Option Addr} {slltab : Array (Option Value)} {ocltab kVltab dcltab pmltab ctltab cdltab : Value}
    {flkind : Addr} {odlkind anlkind : Option Addr} {sllkind : Array (Option Value)} {oclkind kVlkind dclkind pmlkind ctlkind cdlkind : Value}
    {flsaid : Addr} {odlsaid anlsaid : Option Addr} {sllsaid : Array (Option Value)} {oclsaid kVlsaid dclsaid pmlsaid ctlsaid cdlsaid : Value}
    {flgodd : Addr} {odlgodd anlgodd : Option Addr} {sllgodd : Array (Option Value)} {oclgodd kVlgodd dclgodd pmlgodd ctlgodd cdlgodd : Value}
    {flmodd : Addr} {odlmodd anlmodd : Option Addr} {sllmodd : Array (Option Value)} {oclmodd kVlmodd dclmodd pmlmodd ctlmodd cdlmodd : Value}
    {flspo : Addr} {odlspo anlspo : Option Addr} {sllspo : Array (Option Value)} {oclspo kVlspo dclspo pmlspo ctlspo cdlspo : Value}
    {flaw : Addr} {odlaw anlaw : Option Addr} {sllaw : Array (Option Value)} {oclaw kVlaw dclaw pmlaw ctlaw cdlaw : Value}
    {fVE : Addr} {odVE anVE : Option Addr} {slVE : Array (Option Value)} {ocVE kVVE dcVE pmVE ctVE cdVE : Value}
    {fKN : Addr} {odKN anKN : Option Addr} {slKN : Array (Option Value)} {ocKN kVKN dcKN pmKN ctKN cdKN : Value}
    {fKF : Addr} {odKF anKF : Option Addr} {slKF : Array (Option Value)} {ocKF kVKF dcKF pmKF ctKF cdKF : Value}
    {fKI : Addr} {odKI anKI : Option Addr} {slKI : Array (Option Value)} {ocKI kVKI dcKI pmKI ctKI cdKI : Value}
    {nmM qM : Str} {NsM : Addr} {bsM : List Value} {snM : List Str} {suM : List Value} {abM : Bool} {coM : Option Bool} {ddM : Option Addr} {m0M m1M m2M m3M m5M : Option Value}
    {fNI : Addr} {odNI anNI : Option Addr} {slNI : Array (Option Value)} {ocNI kVNI dcNI pmNI ctNI cdNI : Value}
    (gL : PySem.W.nsIn K mainGlobals "LETTERS" = some (some (.str "abcdefghijklmnopqrstuvwxyz" tL)))
    (gM : PySem.W.nsIn K mainGlobals "MARK" = some (some (.str "#" tM)))
    (gMo : PySem.W.nsIn K mainGlobals "MOST" = some (some (.int 8 tN)))
    (gS : PySem.W.nsIn K mainGlobals "SORTS" = some (some (.ref aS)))
    (lS : K.lookup aS = some ⟨.type "tuple", dS, .seq #[.str "wanted" tS0, .str "open" tS1, .str "filled" tS2] nS, slS⟩)
    (b_isinstance : PySem.W.nsIn K mainGlobals "isinstance" = some none)
    (b_len : PySem.W.nsIn K mainGlobals "len" = some none)
    (b_all : PySem.W.nsIn K mainGlobals "all" = some none)
    (b_zip : PySem.W.nsIn K mainGlobals "zip" = some none)
    (b_tuple : PySem.W.nsIn K mainGlobals "tuple" = some none)
    (b_dict : PySem.W.nsIn K mainGlobals "dict" = some none)
    (b_list : PySem.W.nsIn K mainGlobals "list" = some none)
    (b_bool : PySem.W.nsIn K mainGlobals "bool" = some none)
    (b_int : PySem.W.nsIn K mainGlobals "int" = some none)
    (b_str : PySem.W.nsIn K mainGlobals "str" = some none)
    (b_range : PySem.W.nsIn K mainGlobals "range" = some none)
    (gK : PySem.W.nsIn K mainGlobals "Kind" = some (some (.ref CK)))
    (gVa : PySem.W.nsIn K mainGlobals "Valued" = some (some (.ref CV)))
    (gUn : PySem.W.nsIn K mainGlobals "Unknown" = some (some (.ref CU)))
    (c1CK : PySem.W.plainGet K CK Str.empty = true)
    (c2CK : PySem.W.hasDictIn K CK = true)
    (c3CK : PySem.W.plainOver K CK = true)
    (c4CK : PySem.W.findIn K (.ref CK) "__setattr__" = some (some (.builtin "object.__setattr__")))
    (d1CK : PySem.W.findIn K (.ref CK) "__class__" = some (some (.builtin "object.__class__")))
    (d4CK : PySem.W.mroIn K CK (.type "object") = some true)
    (mCK_tuple : PySem.W.mroIn K CK (.type "tuple") = some false)
    (mCK_bool : PySem.W.mroIn K CK (.type "bool") = some false)
    (mCK_int : PySem.W.mroIn K CK (.type "int") = some false)
    (mCK_dict : PySem.W.mroIn K CK (.type "dict") = some false)
    (mCK_str : PySem.W.mroIn K CK (.type "str") = some false)
    (mCK_list : PySem.W.mroIn K CK (.type "list") = some false)
    (d2 : PySem.W.specialIn K (.builtin "object.__class__") "__get__" = some (some (.builtin "getset_descriptor.__get__")))
    (d3 : PySem.W.takesIn K (.builtin "object.__class__") = some true)
    (i1CV : PySem.W.isClsIn K CV = true)
    (i2CV : PySem.W.typeIn K (.ref CV) = some (.type "type"))
    (i1CU : PySem.W.isClsIn K CU = true)
    (i2CU : PySem.W.typeIn K (.ref CU) = some (.type "type"))
    (i1CK : PySem.W.isClsIn K CK = true)
    (i2CK : PySem.W.typeIn K (.ref CK) = some (.type "type"))
    (oVm : PySem.W.mroIn K CK (.ref CV) = some true)
    (oUm : PySem.W.mroIn K CK (.ref CU) = some false)
    (neV : CK ≠ CV)
    (neU : CK ≠ CU)
    (na_name : PySem.W.findIn K (.ref CK) "name" = some none)
    (na_given : PySem.W.findIn K (.ref CK) "given" = some none)
    (na_made : PySem.W.findIn K (.ref CK) "made" = some none)
    (na_single : PySem.W.findIn K (.ref CK) "single" = some none)
    (na_holds : PySem.W.findIn K (.ref CK) "holds" = some none)
    (mkK : PySem.W.makesIn K CK = true)
    (kpK : PySem.W.keepIn K (.ref CK) = true)
    (nVE : PySem.W.findIn K (.ref CK) "__ne__" = some (some (.builtin "object.__ne__")))
    (sVE : PySem.W.subIn K (.ref CK) (.type "object") = some true)
    (a_integ : PySem.W.nsIn K mainGlobals "is_integer" = some (some (.ref finteg)))
    (linteg : K.lookup finteg = some ⟨ocinteg, odinteg, .func (PySem.W.fnOf "is_integer" "is_integer" (defArgs sInt) (defBody sInt) (defScope sInt) .none kVinteg dcinteg pminteg aninteg cdinteg ctinteg), slinteg⟩)
    (yinteg : PySem.W.codeIn K cdinteg "is_integer" = true)
    (zinteg : PySem.W.keepIn K (.ref finteg) = true)
    (a_name : PySem.W.nsIn K mainGlobals "is_name" = some (some (.ref fname)))
    (lname : K.lookup fname = some ⟨ocname, odname, .func (PySem.W.fnOf "is_name" "is_name" (defArgs sName) (defBody sName) (defScope sName) .none kVname dcname pmname anname cdname ctname), slname⟩)
    (yname : PySem.W.codeIn K cdname "is_name" = true)
    (zname : PySem.W.keepIn K (.ref fname) = true)
    (a_tag : PySem.W.nsIn K mainGlobals "is_tag" = some (some (.ref ftag)))
    (ltag : K.lookup ftag = some ⟨octag, odtag, .func (PySem.W.fnOf "is_tag" "is_tag" (defArgs sTag) (defBody sTag) (defScope sTag) .none kVtag dctag pmtag antag cdtag cttag), sltag⟩)
    (ytag : PySem.W.codeIn K cdtag "is_tag" = true)
    (ztag : PySem.W.keepIn K (.ref ftag) = true)
    (a_sort : PySem.W.nsIn K mainGlobals "sort_of" = some (some (.ref fsort)))
    (lsort : K.lookup fsort = some ⟨ocsort, odsort, .func (PySem.W.fnOf "sort_of" "sort_of" (defArgs sSort) (defBody sSort) (defScope sSort) .none kVsort dcsort pmsort ansort cdsort ctsort), slsort⟩)
    (ysort : PySem.W.codeIn K cdsort "sort_of" = true)
    (zsort : PySem.W.keepIn K (.ref fsort) = true)
    (a_eq : PySem.W.nsIn K mainGlobals "are_equal" = some (some (.ref feq)))
    (leq : K.lookup feq = some ⟨oceq, odeq, .func (PySem.W.fnOf "are_equal" "are_equal" (defArgs sEq) (defBody sEq) (defScope sEq) .none kVeq dceq pmeq aneq cdeq cteq), sleq⟩)
    (yeq : PySem.W.codeIn K cdeq "are_equal" = true)
    (zeq : PySem.W.keepIn K (.ref feq) = true)
    (a_tabl : PySem.W.nsIn K mainGlobals "is_table" = some (some (.ref ftabl)))
    (ltabl : K.lookup ftabl = some ⟨octabl, odtabl, .func (PySem.W.fnOf "is_table" "is_table" (defArgs sTable) (defBody sTable) (defScope sTable) .none kVtabl dctabl pmtabl antabl cdtabl cttabl), sltabl⟩)
    (ytabl : PySem.W.codeIn K cdtabl "is_table" = true)
    (ztabl : PySem.W.keepIn K (.ref ftabl) = true)
    (a_givn : PySem.W.nsIn K mainGlobals "is_given" = some (some (.ref fgivn)))
    (lgivn : K.lookup fgivn = some ⟨ocgivn, odgivn, .func (PySem.W.fnOf "is_given" "is_given" (defArgs sGiven) (defBody sGiven) (defScope sGiven) .none kVgivn dcgivn pmgivn angivn cdgivn ctgivn), slgivn⟩)
    (ygivn : PySem.W.codeIn K cdgivn "is_given" = true)
    (zgivn : PySem.W.keepIn K (.ref fgivn) = true)
    (a_unl : PySem.W.nsIn K mainGlobals "are_unlike" = some (some (.ref funl)))
    (lunl : K.lookup funl = some ⟨ocunl, odunl, .func (PySem.W.fnOf "are_unlike" "are_unlike" (defArgs sUnl) (defBody sUnl) (defScope sUnl) .none kVunl dcunl pmunl anunl cdunl ctunl), slunl⟩)
    (yunl : PySem.W.codeIn K cdunl "are_unlike" = true)
    (zunl : PySem.W.keepIn K (.ref funl) = true)
    (a_rule : PySem.W.nsIn K mainGlobals "is_rule" = some (some (.ref frule)))
    (lrule : K.lookup frule = some ⟨ocrule, odrule, .func (PySem.W.fnOf "is_rule" "is_rule" (defArgs sRule) (defBody sRule) (defScope sRule) .none kVrule dcrule pmrule anrule cdrule ctrule), slrule⟩)
    (yrule : PySem.W.codeIn K cdrule "is_rule" = true)
    (zrule : PySem.W.keepIn K (.ref frule) = true)
    (a_madf : PySem.W.nsIn K mainGlobals "are_made" = some (some (.ref fmadf)))
    (lmadf : K.lookup fmadf = some ⟨ocmadf, odmadf, .func (PySem.W.fnOf "are_made" "are_made" (defArgs sMade) (defBody sMade) (defScope sMade) .none kVmadf dcmadf pmmadf anmadf cdmadf ctmadf), slmadf⟩)
    (ymadf : PySem.W.codeIn K cdmadf "are_made" = true)
    (zmadf : PySem.W.keepIn K (.ref fmadf) = true)
    (a_held : PySem.W.nsIn K mainGlobals "are_held" = some (some (.ref fheld)))
    (lheld : K.lookup fheld = some ⟨ocheld, odheld, .func (PySem.W.fnOf "are_held" "are_held" (defArgs sHeld) (defBody sHeld) (defScope sHeld) .none kVheld dcheld pmheld anheld cdheld ctheld), slheld⟩)
    (yheld : PySem.W.codeIn K cdheld "are_held" = true)
    (zheld : PySem.W.keepIn K (.ref fheld) = true)
    (a_well : PySem.W.nsIn K mainGlobals "_law_well" = some (some (.ref fwell)))
    (lwell : K.lookup fwell = some ⟨ocwell, odwell, .func (PySem.W.fnOf "_law_well" "_law_well" (defArgs sWell) (defBody sWell) (defScope sWell) .none kVwell dcwell pmwell anwell cdwell ctwell), slwell⟩)
    (ywell : PySem.W.codeIn K cdwell "_law_well" = true)
    (zwell : PySem.W.keepIn K (.ref fwell) = true)
    (a_draw : PySem.W.nsIn K mainGlobals "_law_draw" = some (some (.ref fdraw)))
    (ldraw : K.lookup fdraw = some ⟨ocdraw, oddraw, .func (PySem.W.fnOf "_law_draw" "_law_draw" (defArgs sDraw) (defBody sDraw) (defScope sDraw) .none kVdraw dcdraw pmdraw andraw cddraw ctdraw), sldraw⟩)
    (ydraw : PySem.W.codeIn K cddraw "_law_draw" = true)
    (zdraw : PySem.W.keepIn K (.ref fdraw) = true)
    (a_one : PySem.W.nsIn K mainGlobals "_law_one" = some (some (.ref fone)))
    (lone : K.lookup fone = some ⟨ocone, odone, .func (PySem.W.fnOf "_law_one" "_law_one" (defArgs sOne) (defBody sOne) (defScope sOne) .none kVone dcone pmone anone cdone ctone), slone⟩)
    (yone : PySem.W.codeIn K cdone "_law_one" = true)
    (zone : PySem.W.keepIn K (.ref fone) = true)
    (a_ltab : PySem.W.nsIn K mainGlobals "_law_table" = some (some (.ref fltab)))
    (lltab : K.lookup fltab = some ⟨ocltab, odltab, .func (PySem.W.fnOf "_law_table" "_law_table" (defArgs sLTab) (defBody sLTab) (defScope sLTab) .none kVltab dcltab pmltab anltab cdltab ctltab), slltab⟩)
    (yltab : PySem.W.codeIn K cdltab "_law_table" = true)
    (zltab : PySem.W.keepIn K (.ref fltab) = true)
    (a_lkind : PySem.W.nsIn K mainGlobals "_law_kind" = some (some (.ref flkind)))
    (llkind : K.lookup flkind = some ⟨oclkind, odlkind, .func (PySem.W.fnOf "_law_kind" "_law_kind" (defArgs sLKind) (defBody sLKind) (defScope sLKind) .none kVlkind dclkind pmlkind anlkind cdlkind ctlkind), sllkind⟩)
    (ylkind : PySem.W.codeIn K cdlkind "_law_kind" = true)
    (zlkind : PySem.W.keepIn K (.ref flkind) = true)
    (a_lsaid : PySem.W.nsIn K mainGlobals "_law_said" = some (some (.ref flsaid)))
    (llsaid : K.lookup flsaid = some ⟨oclsaid, odlsaid, .func (PySem.W.fnOf "_law_said" "_law_said" (defArgs sSaid) (defBody sSaid) (defScope sSaid) .none kVlsaid dclsaid pmlsaid anlsaid cdlsaid ctlsaid), sllsaid⟩)
    (ylsaid : PySem.W.codeIn K cdlsaid "_law_said" = true)
    (zlsaid : PySem.W.keepIn K (.ref flsaid) = true)
    (a_lgodd : PySem.W.nsIn K mainGlobals "_law_given_odd" = some (some (.ref flgodd)))
    (llgodd : K.lookup flgodd = some ⟨oclgodd, odlgodd, .func (PySem.W.fnOf "_law_given_odd" "_law_given_odd" (defArgs sGOdd) (defBody sGOdd) (defScope sGOdd) .none kVlgodd dclgodd pmlgodd anlgodd cdlgodd ctlgodd), sllgodd⟩)
    (ylgodd : PySem.W.codeIn K cdlgodd "_law_given_odd" = true)
    (zlgodd : PySem.W.keepIn K (.ref flgodd) = true)
    (a_lmodd : PySem.W.nsIn K mainGlobals "_law_made_odd" = some (some (.ref flmodd)))
    (llmodd : K.lookup flmodd = some ⟨oclmodd, odlmodd, .func (PySem.W.fnOf "_law_made_odd" "_law_made_odd" (defArgs sMOdd) (defBody sMOdd) (defScope sMOdd) .none kVlmodd dclmodd pmlmodd anlmodd cdlmodd ctlmodd), sllmodd⟩)
    (ylmodd : PySem.W.codeIn K cdlmodd "_law_made_odd" = true)
    (zlmodd : PySem.W.keepIn K (.ref flmodd) = true)
    (a_lspo : PySem.W.nsIn K mainGlobals "_law_spoilt" = some (some (.ref flspo)))
    (llspo : K.lookup flspo = some ⟨oclspo, odlspo, .func (PySem.W.fnOf "_law_spoilt" "_law_spoilt" (defArgs sSpo) (defBody sSpo) (defScope sSpo) .none kVlspo dclspo pmlspo anlspo cdlspo ctlspo), sllspo⟩)
    (ylspo : PySem.W.codeIn K cdlspo "_law_spoilt" = true)
    (zlspo : PySem.W.keepIn K (.ref flspo) = true)
    (a_law : PySem.W.nsIn K mainGlobals "law" = some (some (.ref flaw)))
    (llaw : K.lookup flaw = some ⟨oclaw, odlaw, .func (PySem.W.fnOf "law" "law" (defArgs sLaw) (defBody sLaw) (defScope sLaw) .none kVlaw dclaw pmlaw anlaw cdlaw ctlaw), sllaw⟩)
    (ylaw : PySem.W.codeIn K cdlaw "law" = true)
    (zlaw : PySem.W.keepIn K (.ref flaw) = true)
    (m_VE : PySem.W.findIn K (.ref CK) "__eq__" = some (some (.ref fVE)))
    (j_VE : PySem.W.isFn K (.ref fVE) = true)
    (lVE : K.lookup fVE = some ⟨ocVE, odVE, .func (PySem.W.fnOf "__eq__" "Valued.__eq__" (defArgs sVEq) (defBody sVEq) (defScope sVEq) .none kVVE dcVE pmVE anVE cdVE ctVE), slVE⟩)
    (yVE : PySem.W.codeIn K cdVE "Valued.__eq__" = true)
    (zVE : PySem.W.keepIn K (.ref fVE) = true)
    (m_KN : PySem.W.findIn K (.ref CK) "class_name" = some (some (.ref fKN)))
    (j_KN : PySem.W.isFn K (.ref fKN) = true)
    (lKN : K.lookup fKN = some ⟨ocKN, odKN, .func (PySem.W.fnOf "class_name" "Kind.class_name" (defArgs sKN) (defBody sKN) (defScope sKN) .none kVKN dcKN pmKN anKN cdKN ctKN), slKN⟩)
    (yKN : PySem.W.codeIn K cdKN "Kind.class_name" = true)
    (zKN : PySem.W.keepIn K (.ref fKN) = true)
    (m_KF : PySem.W.findIn K (.ref CK) "fields" = some (some (.ref fKF)))
    (j_KF : PySem.W.isFn K (.ref fKF) = true)
    (lKF : K.lookup fKF = some ⟨ocKF, odKF, .func (PySem.W.fnOf "fields" "Kind.fields" (defArgs sKF) (defBody sKF) (defScope sKF) .none kVKF dcKF pmKF anKF cdKF ctKF), slKF⟩)
    (yKF : PySem.W.codeIn K cdKF "Kind.fields" = true)
    (zKF : PySem.W.keepIn K (.ref fKF) = true)
    (m_KI : PySem.W.findIn K (.ref CK) "__init__" = some (some (.ref fKI)))
    (j_KI : PySem.W.isFn K (.ref fKI) = true)
    (lKI : K.lookup fKI = some ⟨ocKI, odKI, .func (PySem.W.fnOf "__init__" "Kind.__init__" (defArgs sKI) (defBody sKI) (defScope sKI) .none kVKI dcKI pmKI anKI cdKI ctKI), slKI⟩)
    (yKI : PySem.W.codeIn K cdKI "Kind.__init__" = true)
    (zKI : PySem.W.keepIn K (.ref fKI) = true)
    (aP : PySem.W.nsIn K mainGlobals "PlanError" = some (some (.ref CP)))
    (rP : PySem.W.readsIn K CP (.type "type") = true)
    (gP : PySem.W.specialIn K (.ref CP) "__getattribute__" = some (some (.builtin "type.__getattribute__")))
    (vP : PySem.W.findCls K (.ref CP) (.type "type") "__init__" = some (.val (.builtin "ValueError.__init__")))
    (a_CN : PySem.W.nsIn K mainGlobals "NoKind" = some (some (.ref CN)))
    (xN : K.lookup CN = some (excClassObj nmM qM CN NsM bsM (tail CP) true snM suM abM coM ddM m0M m1M m2M m3M m5M "ValueError.__new__"))
    (sN : PySem.W.findIn K (.ref CN) "__setattr__" = some (some (.builtin "object.__setattr__")))
    (gaN : PySem.W.findIn K (.ref CN) "__getattribute__" = some (some (.builtin "BaseException.__getattribute__")))
    (ggN : PySem.W.findIn K (.ref CN) "__getattr__" = some none)
    (hcN : PySem.W.findIn K (.ref CN) "__class__" = some (some (.builtin "object.__class__")))
    (kpN : PySem.W.keepIn K (.ref CN) = true)
    (tyN' : PySem.W.typeIn K (.ref CN) = some (.type "type"))
    (noN : PySem.W.findIn K (.ref CN) "part" = some none)
    (neN : CN ≠ CP)
    (m_NI : PySem.W.findIn K (.ref CN) "__init__" = some (some (.ref fNI)))
    (j_NI : PySem.W.isFn K (.ref fNI) = true)
    (lNI : K.lookup fNI = some ⟨ocNI, odNI, .func (PySem.W.fnOf "__init__" "NoKind.__init__" (defArgs sNI) (defBody sNI) (defScope sNI) .none kVNI dcNI pmNI anNI cdNI ctNI), slNI⟩)
    (yNI : PySem.W.codeIn K cdNI "NoKind.__init__" = true)
    (zNI : PySem.W.keepIn K (.ref fNI) = true)
    (tI : PySem.W.typeIn K (.ref fNI) = some (.type "function"))
    : ∃ fd : FuncData, (∀ (s : Shared) (v : Value), BindsTo s fd ⟨[v], []⟩ [("_law_script", v)]) ∧ ∀ base : Heap, K.In base → base.Ns mainGlobals mg → FnOk l.prog w K mg base CX0 11 fa fd ["_law_script"] (spLaw K) := by
  have e := hfa.symm.trans (PySem.W.mg_of X G a_law)
  cases e
  have B_isinstance := PySem.W.mg_none_of X G b_isinstance
  have B_len := PySem.W.mg_none_of X G b_len
  have B_all := PySem.W.mg_none_of X G b_all
  have B_zip := PySem.W.mg_none_of X G b_zip
  have B_tuple := PySem.W.mg_none_of X G b_tuple
  have B_dict := PySem.W.mg_none_of X G b_dict
  have B_list := PySem.W.mg_none_of X G b_list
  have B_bool := PySem.W.mg_none_of X G b_bool
  have B_int := PySem.W.mg_none_of X G b_int
  have B_str := PySem.W.mg_none_of X G b_str
  have B_range := PySem.W.mg_none_of X G b_range
  have F_integ := fun_mk (st := sInt) linteg yinteg zinteg
  have B_integ := F_integ.binds (ps := ["thing"]) fun _ _ _ _ _ _ us hl => match us, hl with | [_], _ => rfl
  have F_name := fun_mk (st := sName) lname yname zname
  have B_name := F_name.binds (ps := ["thing"]) fun _ _ _ _ _ _ us hl => match us, hl with | [_], _ => rfl
  have F_tag := fun_mk (st := sTag) ltag ytag ztag
  have B_tag := F_tag.binds (ps := ["thing"]) fun _ _ _ _ _ _ us hl => match us, hl with | [_], _ => rfl
  have F_sort := fun_mk (st := sSort) lsort ysort zsort
  have B_sort := F_sort.binds (ps := ["value"]) fun _ _ _ _ _ _ us hl => match us, hl with | [_], _ => rfl
  have F_eq := fun_mk (st := sEq) leq yeq zeq
  have B_eq := F_eq.binds (ps := ["one", "other"]) fun _ _ _ _ _ _ us hl => match us, hl with | [_, _], _ => rfl
  have F_tabl := fun_mk (st := sTable) ltabl ytabl ztabl
  have B_tabl := F_tabl.binds (ps := ["thing"]) fun _ _ _ _ _ _ us hl => match us, hl with | [_], _ => rfl
  have F_givn := fun_mk (st := sGiven) lgivn ygivn zgivn
  have B_givn := F_givn.binds (ps := ["row"]) fun _ _ _ _ _ _ us hl => match us, hl with | [_], _ => rfl
  have F_unl := fun_mk (st := sUnl) lunl yunl zunl
  have B_unl := F_unl.binds (ps := ["rows"]) fun _ _ _ _ _ _ us hl => match us, hl with | [_], _ => rfl
  have F_rule := fun_mk (st := sRule) lrule yrule zrule
  have B_rule := F_rule.binds (ps := ["rule", "plain"]) fun _ _ _ _ _ _ us hl => match us, hl with | [_, _], _ => rfl
  have F_madf := fun_mk (st := sMade) lmadf ymadf zmadf
  have B_madf := F_madf.binds (ps := ["made", "names", "plain"]) fun _ _ _ _ _ _ us hl => match us, hl with | [_, _, _], _ => rfl
  have F_held := fun_mk (st := sHeld) lheld yheld zheld
  have B_held := F_held.binds (ps := ["holds", "names"]) fun _ _ _ _ _ _ us hl => match us, hl with | [_, _], _ => rfl
  have F_well := fun_mk (st := sWell) lwell ywell zwell
  have B_well := F_well.binds (ps := ["_law_cell"]) fun _ _ _ _ _ _ us hl => match us, hl with | [_], _ => rfl
  have F_draw := fun_mk (st := sDraw) ldraw ydraw zdraw
  have B_draw := F_draw.binds (ps := ["_law_well_here", "_law_below"]) fun _ _ _ _ _ _ us hl => match us, hl with | [_, _], _ => rfl
  have F_one := fun_mk (st := sOne) lone yone zone
  have B_one := F_one.binds (ps := ["_law_well_here", "_law_some"]) fun _ _ _ _ _ _ us hl => match us, hl with | [_, _], _ => rfl
  have F_ltab := fun_mk (st := sLTab) lltab yltab zltab
  have B_ltab := F_ltab.binds (ps := ["_law_well_here"]) fun _ _ _ _ _ _ us hl => match us, hl with | [_], _ => rfl
  have F_lkind := fun_mk (st := sLKind) llkind ylkind zlkind
  have B_lkind := F_lkind.binds (ps := ["_law_well_here", "_law_name"]) fun _ _ _ _ _ _ us hl => match us, hl with | [_, _], _ => rfl
  have F_lsaid := fun_mk (st := sSaid) llsaid ylsaid zlsaid
  have B_lsaid := F_lsaid.binds (ps := ["_law_some"]) fun _ _ _ _ _ _ us hl => match us, hl with | [_], _ => rfl
  have F_lgodd := fun_mk (st := sGOdd) llgodd ylgodd zlgodd
  have B_lgodd := F_lgodd.binds (ps := ["_law_well_here", "_law_given"]) fun _ _ _ _ _ _ us hl => match us, hl with | [_, _], _ => rfl
  have F_lmodd := fun_mk (st := sMOdd) llmodd ylmodd zlmodd
  have B_lmodd := F_lmodd.binds (ps := ["_law_well_here", "_law_given", "_law_made"]) fun _ _ _ _ _ _ us hl => match us, hl with | [_, _, _], _ => rfl
  have F_lspo := fun_mk (st := sSpo) llspo ylspo zlspo
  have B_lspo := F_lspo.binds (ps := ["_law_well_here", "_law_some", "_law_at"]) fun _ _ _ _ _ _ us hl => match us, hl with | [_, _, _], _ => rfl
  have F_law := fun_mk (st := sLaw) llaw ylaw zlaw
  have B_law := F_law.binds (ps := ["_law_script"]) fun _ _ _ _ _ _ us hl => match us, hl with | [_], _ => rfl
  have F_VE := fun_mk (st := sVEq) lVE yVE zVE
  have B_VE := F_VE.binds (ps := ["self", "other"]) fun _ _ _ _ _ _ us hl => match us, hl with | [_, _], _ => rfl
  have F_KN := fun_mk (st := sKN) lKN yKN zKN
  have B_KN := F_KN.binds (ps := ["self"]) fun _ _ _ _ _ _ us hl => match us, hl with | [_], _ => rfl
  have F_KF := fun_mk (st := sKF) lKF yKF zKF
  have B_KF := F_KF.binds (ps := ["self"]) fun _ _ _ _ _ _ us hl => match us, hl with | [_], _ => rfl
  have F_NI := fun_mk (st := sNI) lNI yNI zNI
  have B_NI := F_NI.binds (ps := ["self", "part"]) fun _ _ _ _ _ _ us hl => match us, hl with | [_, _], _ => rfl
  have A_integ := PySem.W.mg_of X G a_integ
  have A_name := PySem.W.mg_of X G a_name
  have A_tag := PySem.W.mg_of X G a_tag
  have A_sort := PySem.W.mg_of X G a_sort
  have A_eq := PySem.W.mg_of X G a_eq
  have A_tabl := PySem.W.mg_of X G a_tabl
  have A_givn := PySem.W.mg_of X G a_givn
  have A_unl := PySem.W.mg_of X G a_unl
  have A_rule := PySem.W.mg_of X G a_rule
  have A_madf := PySem.W.mg_of X G a_madf
  have A_held := PySem.W.mg_of X G a_held
  have A_well := PySem.W.mg_of X G a_well
  have A_draw := PySem.W.mg_of X G a_draw
  have A_one := PySem.W.mg_of X G a_one
  have A_ltab := PySem.W.mg_of X G a_ltab
  have A_lkind := PySem.W.mg_of X G a_lkind
  have A_lsaid := PySem.W.mg_of X G a_lsaid
  have A_lgodd := PySem.W.mg_of X G a_lgodd
  have A_lmodd := PySem.W.mg_of X G a_lmodd
  have A_lspo := PySem.W.mg_of X G a_lspo
  have A_law := PySem.W.mg_of X G a_law
  have T : Txt mg := ⟨B_isinstance, B_len, B_all, B_zip, B_tuple, B_dict, B_list, B_bool, B_int, B_str, ⟨_, PySem.W.mg_of X G gL⟩, ⟨_, PySem.W.mg_of X G gM⟩⟩
  have t0 : Txt0 mg := ⟨B_int, B_len⟩
  have cK : Cls K CK := ⟨c1CK, c2CK, c3CK, c4CK⟩
  have hCF : CF K CK := ⟨cK, d1CK, d2, d3, d4CK, fun t ht => by
    simp only [ET.tys, List.mem_cons, List.not_mem_nil, or_false] at ht
    rcases ht with rfl | rfl | rfl | rfl | rfl | rfl
    · exact kit_CT (by decide +kernel) mCK_tuple
    · exact kit_CT (by decide +kernel) mCK_bool
    · exact kit_CT (by decide +kernel) mCK_int
    · exact kit_CT (by decide +kernel) mCK_dict
    · exact kit_CT (by decide +kernel) mCK_str
    · exact kit_CT (by decide +kernel) mCK_list⟩
  have hC : ∀ C ∈ [CK], CF K C := fun C h => by
    rcases List.mem_cons.mp h with rfl | h
    · exact hCF
    · cases h
  have inC : CK ∈ [CK] := List.mem_cons_self
  have nA : ∀ x ∈ flds, NoAttr K CK x := fun x hx => by
    simp only [flds, List.mem_cons, List.not_mem_nil, or_false] at hx
    rcases hx with rfl | rfl | rfl | rfl | rfl
    · exact na_name
    · exact na_given
    · exact na_made
    · exact na_single
    · exact na_holds
  have bas : ∀ D, PySem.W.isClsIn K D = true → PySem.W.typeIn K (.ref D) = some (.type "type") → ∀ t ∈ ["NoneType", "bool", "int", "str", "tuple", "dict", "list"], PySem.W.kitOne K (.type t) (.ref D) = some false := fun D i1 i2 t ht => by
    simp only [List.mem_cons, List.not_mem_nil, or_false] at ht
    rcases ht with rfl | rfl | rfl | rfl | rfl | rfl | rfl <;> exact kit_tyC i1 i2 rfl
  have hnT : ∀ t ∈ ["NoneType", "bool", "int", "str", "tuple", "dict", "list"], PySem.W.notFirst K CK (.type t) = true := fun t ht => by
    unfold PySem.W.notFirst
    simp only [List.mem_cons, List.not_mem_nil, or_false] at ht
    rcases ht with rfl | rfl | rfl | rfl | rfl | rfl | rfl <;> exact Bool.or_eq_true_iff.mpr (.inr (beq_iff_eq.mpr rfl))
  have hnC : ∀ D ∈ [CK], PySem.W.notFirst K CK (.ref D) = true := fun D h => by
    rcases List.mem_cons.mp h with rfl | h
    · unfold PySem.W.notFirst
      rw [beq_self_eq_true]
      rfl
    · cases h
  have oV : ∀ C ∈ [CK], PySem.W.kitOne K (.ref C) (.ref CV) = some ((fun _ => true) C) := fun C h => by
    rcases List.mem_cons.mp h with rfl | h
    · exact kit_CC neV i1CV i2CV oVm
    · cases h
  have oU : ∀ C ∈ [CK], PySem.W.kitOne K (.ref C) (.ref CU) = some ((fun _ => false) C) := fun C h => by
    rcases List.mem_cons.mp h with rfl | h
    · exact kit_CC neU i1CU i2CU oUm
    · cases h
  have hS : ∀ H, SqT K H aS (sorts.map V.str) := fun H => .inr ⟨_, _, _, lS, rfl, rfl, (by show 3 ≤ sizeLine; decide), .cons ⟨_, rfl⟩ (.cons ⟨_, rfl⟩ (.cons ⟨_, rfl⟩ .nil))⟩
  have GK := PySem.W.mg_of X G gK
  have GV := PySem.W.mg_of X G gVa
  have GU := PySem.W.mg_of X G gUn
  refine ⟨PySem.W.fnOf "law" "law" (defArgs sLaw) (defBody sLaw) (defScope sLaw) .none kVlaw dclaw pmlaw anlaw cdlaw ctlaw, fun s v => .of_eq rfl, fun base _ _ => ?_⟩
  have PI : PIni K mg "PlanError" CP (.type "type") := ⟨PySem.W.mg_of X G aP, ⟨rP, gP⟩, vP⟩
  have XN : XcOk K CP CN := ⟨⟨_, _, _, _, _, _, _, _, _, _, _, _, _, _, xN⟩, sN, gaN, ggN, hcN, kpN, tyN'⟩
  have NK : New1 l.prog w K mg base CP "NoKind" "part" CN fNI _ := ⟨XN, PySem.W.mg_of X G a_CN, m_NI, tI, noN, ok_NI F_NI PI XN.oex noN, B_NI⟩
  have oI : FnOk l.prog w K mg base CX0 1 finteg _ ["thing"] _ := ok_int F_integ T hC
  have oN : FnOk l.prog w K mg base CX0 1 fname _ ["thing"] _ := ok_name F_name T hC
  have oT : FnOk l.prog w K mg base CX0 2 ftag _ ["thing"] _ := ok_tag F_tag T hC oN A_name zname B_name oI A_integ zinteg B_integ
  have oS : FnOk l.prog w K mg base CX0 3 fsort _ ["value"] _ := ok_sort F_sort T hC oT A_tag ztag B_tag
  have oE : ∀ n, FnOk l.prog w K mg base CX0 (3 + n) feq _ ["one", "other"] (spP (K05.eqF n)) := fun n => by
    induction n with
    | zero => exact eqF0
    | succ n ih => exact ok_eq (k := 3 + n) (sbV := fun _ => true) (sbU := fun _ => false) F_eq T hC GV GU oV (bas CV i1CV i2CV) oU (bas CU i1CU i2CU) oS A_sort zsort B_sort (Nat.le_add_right 3 n) A_eq B_eq ih
  have oB : FnOk l.prog w K mg base CX0 1 ftabl _ ["thing"] _ := ok_table F_tabl T hC
  have oG : FnOk l.prog w K mg base CX0 2 fgivn _ ["row"] _ := ok_given F_givn T hC (PySem.W.mg_of X G gS) hS oN A_name zname B_name oB A_tabl ztabl B_tabl
  have oL : FnOk l.prog w K mg base CX0 1 funl _ ["rows"] _ := ok_unl F_unl T hC
  have oR : FnOk l.prog w K mg base CX0 1 frule _ ["rule", "plain"] _ := ok_rule F_rule T hC
  have oM : FnOk l.prog w K mg base CX0 2 fmadf _ ["made", "names", "plain"] _ := ok_made F_madf T hC oN A_name zname B_name oL A_unl zunl B_unl oR A_rule zrule B_rule
  have oH : FnOk l.prog w K mg base CX0 1 fheld _ ["holds", "names"] _ := ok_held F_held T hC
  have FKI : FunD K "__init__" "Kind.__init__" (defArgs sKI) (defBody sKI) (defScope sKI) [] [] fKI _ := ⟨⟨_, _, _, _, _, _, _, _, _, _, rfl, lKI, yKI, .inl ⟨rfl, rfl⟩, .inl rfl⟩, zKI⟩
  have oKI : FnOk l.prog w K mg base (L2.CX l.prog w) 3 fKI _ ["self", "name", "given", "made", "single", "holds"] (spKI CK CN) := ok_KI FKI T hC cK nA (PySem.W.mg_of X G gMo) NK oN A_name zname B_name oL A_unl zunl B_unl oG A_givn zgivn B_givn oM A_madf zmadf B_madf oH A_held zheld B_held
  have hb : KBn K (PySem.W.fnOf "__init__" "Kind.__init__" (defArgs sKI) (defBody sKI) (defScope sKI) .none kVKI dcKI pmKI anKI cdKI ctKI) ["self", "name", "given", "made", "single", "holds"] 4 ["single", "holds"] (fun us ws => us ++ ws) (fun vs zs => vs ++ zs) := ⟨fun s us ws _ l1 l2 => match us, ws, l1, l2 with | [_, _, _, _], [_, _], _, _ => .of_eq rfl, fun r1 r2 => r1.append r2⟩
  have MK : Mk K CK fKI := ⟨mkK, m_KI, j_KI, kpK⟩
  have oSa : FnOk l.prog w K mg base CX0 5 flsaid _ ["_law_some"] (spSaid CK) := ok_saidL F_lsaid T hC NK neN MK GK oKI hb
  have oKN : FnOk l.prog w K mg base CX0 1 fKN _ ["self"] (spP (cnF CK)) := ok_KN F_KN
  have oKF : FnOk l.prog w K mg base CX0 1 fKF _ ["self"] (spP (fiF CK)) := ok_KF F_KF cK nA
  have oVE : FnOk l.prog w K mg base CX0 9 fVE _ ["self", "other"] (spP (veqF CK 5)) := ok_VEq (sbV := fun _ => true) F_VE T hC cK inC rfl GV oV (bas CV i1CV i2CV) (by decide) (oE 5) A_eq zeq B_eq oKN ⟨m_KN, j_KN, zKN⟩ B_KN oKF ⟨m_KF, j_KF, zKF⟩ B_KF
  have oW : FnOk l.prog w K mg base CX0 1 fwell _ ["_law_cell"] _ := ok_well F_well t0
  have oD : FnOk l.prog w K mg base CX0 1 fdraw _ ["_law_well_here", "_law_below"] (spN 1 drawN) := draw_nd (ok_draw F_draw t0)
  have oO : FnOk l.prog w K mg base CX0 2 fone _ ["_law_well_here", "_law_some"] (spN 1 oneN) := one_nd (ok_one F_one t0 F_draw A_draw B_draw)
  have oTa : FnOk l.prog w K mg base CX0 3 fltab _ ["_law_well_here"] _ := ok_ltab F_ltab T hC oD A_draw zdraw B_draw oO A_one zone B_one
  have oKi : FnOk l.prog w K mg base CX0 4 flkind _ ["_law_well_here", "_law_name"] _ := ok_lkind F_lkind T hC B_range oD A_draw zdraw B_draw oTa A_ltab zltab B_ltab oO A_one zone B_one
  have oGO : FnOk l.prog w K mg base CX0 3 flgodd _ ["_law_well_here", "_law_given"] _ := ok_godd F_lgodd T hC oO A_one zone B_one
  have oMO : FnOk l.prog w K mg base CX0 3 flmodd _ ["_law_well_here", "_law_given", "_law_made"] _ := ok_modd F_lmodd T hC oO A_one zone B_one
  have oSp : FnOk l.prog w K mg base CX0 4 flspo _ ["_law_well_here", "_law_some", "_law_at"] _ := ok_spo F_lspo T hC oGO A_lgodd zlgodd B_lgodd oMO A_lmodd zlmodd B_lmodd oO A_one zone B_one
  exact ok_law F_law T hC inC cK nA hnT hnC oSa A_lsaid zlsaid B_lsaid oW A_well zwell B_well oKi A_lkind zlkind B_lkind oO A_one zone B_one oD A_draw zdraw B_draw oSp A_lspo zlspo B_lspo oVE m_VE j_VE B_VE nVE sVE
end K05
open PySem PySem.W PyProof.Rows
set_option maxRecDepth 100000 in
set_option maxHeartbeats 0 in
theorem PySem.Challenge.cw_planfirst_k05_kinds_made_holds : PySem.Challenge.rw_planfirst_k05_kinds_made.Holds := by
  w_on; o_law; k_head; (case hw => w_witness2)
  k_fill
  refine K05.walk (l := PySem.Challenge.rw_planfirst_k05_kinds_made) rfl rfl (fun w h Y => PySem.W.kIn_of Y) ?F
  case F =>
    intro w mg fa h KX G hmg
    refine' K05.all_mk KX G hmg ?gL ?gM ?gMo ?gS ?lS ?b_isinstance ?b_len ?b_all ?b_zip ?b_tuple ?b_dict ?b_list ?b_bool ?b_int ?b_str ?b_range ?gK ?gVa ?gUn ?c1CK ?c2CK ?c3CK ?c4CK ?d1CK ?d4CK ?mCK_tuple ?mCK_bool ?mCK_int ?mCK_dict ?mCK_str ?mCK_list ?d2 ?d3 ?i1CV ?i2CV ?i1CU ?i2CU ?i1CK ?i2CK ?oVm ?oUm ?neV ?neU ?na_name ?na_given ?na_made ?na_single ?na_holds ?mkK ?kpK ?nVE ?sVE ?a_integ ?linteg ?yinteg ?zinteg ?a_name ?lname ?yname ?zname ?a_tag ?ltag ?ytag ?ztag ?a_sort ?lsort ?ysort ?zsort ?a_eq ?leq ?yeq ?zeq ?a_tabl ?ltabl ?ytabl ?ztabl ?a_givn ?lgivn ?ygivn ?zgivn ?a_unl ?lunl ?yunl ?zunl ?a_rule ?lrule ?yrule ?zrule ?a_madf ?lmadf ?ymadf ?zmadf ?a_held ?lheld ?yheld ?zheld ?a_well ?lwell ?ywell ?zwell ?a_draw ?ldraw ?ydraw ?zdraw ?a_one ?lone ?yone ?zone ?a_ltab ?lltab ?yltab ?zltab ?a_lkind ?llkind ?ylkind ?zlkind ?a_lsaid ?llsaid ?ylsaid ?zlsaid ?a_lgodd ?llgodd ?ylgodd ?zlgodd ?a_lmodd ?llmodd ?ylmodd ?zlmodd ?a_lspo ?llspo ?ylspo ?zlspo ?a_law ?llaw ?ylaw ?zlaw ?m_VE ?j_VE ?lVE ?yVE ?zVE ?m_KN ?j_KN ?lKN ?yKN ?zKN ?m_KF ?j_KF ?lKF ?yKF ?zKF ?m_KI ?j_KI ?lKI ?yKI ?zKI ?aP ?rP ?gP ?vP ?a_CN ?xN ?sN ?gaN ?ggN ?hcN ?kpN ?tyN' ?noN ?neN ?m_NI ?j_NI ?lNI ?yNI ?zNI ?tI
    (case gL => k_is)
    (case gM => k_is)
    (case gMo => k_is)
    (case gS => k_is)
    (case lS => k_is)
    (case b_isinstance => k_is)
    (case b_len => k_is)
    (case b_all => k_is)
    (case b_zip => k_is)
    (case b_tuple => k_is)
    (case b_dict => k_is)
    (case b_list => k_is)
    (case b_bool => k_is)
    (case b_int => k_is)
    (case b_str => k_is)
    (case b_range => k_is)
    (case gK => k_is)
    (case gVa => k_is)
    (case gUn => k_is)
    (case c1CK => k_is)
    (case c2CK => k_is)
    (case c3CK => k_is)
    (case c4CK => k_is)
    (case d1CK => k_is)
    (case d4CK => k_is)
    (case mCK_tuple => k_is)
    (case mCK_bool => k_is)
    (case mCK_int => k_is)
    (case mCK_dict => k_is)
    (case mCK_str => k_is)
    (case mCK_list => k_is)
    (case d2 => k_is)
    (case d3 => k_is)
    (case i1CV => k_is)
    (case i2CV => k_is)
    (case i1CU => k_is)
    (case i2CU => k_is)
    (case i1CK => k_is)
    (case i2CK => k_is)
    (case oVm => k_is)
    (case oUm => k_is)
    (case neV => decide)
    (case neU => decide)
    (case na_name => k_is)
    (case na_given => k_is)
    (case na_made => k_is)
    (case na_single => k_is)
    (case na_holds => k_is)
    (case mkK => k_is)
    (case kpK => k_is)
    (case nVE => k_is)
    (case sVE => k_is)
    (case a_integ => k_is)
    (case linteg => k_is)
    (case yinteg => k_is)
    (case zinteg => k_is)
    (case a_name => k_is)
    (case lname => k_is)
    (case yname => k_is)
    (case zname => k_is)
    (case a_tag => k_is)
    (case ltag => k_is)
    (case ytag => k_is)
    (case ztag => k_is)
    (case a_sort => k_is)
    (case lsort => k_is)
    (case ysort => k_is)
    (case zsort => k_is)
    (case a_eq => k_is)
    (case leq => k_is)
    (case yeq => k_is)
    (case zeq => k_is)
    (case a_tabl => k_is)
    (case ltabl => k_is)
    (case ytabl => k_is)
    (case ztabl => k_is)
    (case a_givn => k_is)
    (case lgivn => k_is)
    (case ygivn => k_is)
    (case zgivn => k_is)
    (case a_unl => k_is)
    (case lunl => k_is)
    (case yunl => k_is)
    (case zunl => k_is)
    (case a_rule => k_is)
    (case lrule => k_is)
    (case yrule => k_is)
    (case zrule => k_is)
    (case a_madf => k_is)
    (case lmadf => k_is)
    (case ymadf => k_is)
    (case zmadf => k_is)
    (case a_held => k_is)
    (case lheld => k_is)
    (case yheld => k_is)
    (case zheld => k_is)
    (case a_well => k_is)
    (case lwell => k_is)
    (case ywell => k_is)
    (case zwell => k_is)
    (case a_draw => k_is)
    (case ldraw => k_is)
    (case ydraw => k_is)
    (case zdraw => k_is)
    (case a_one => k_is)
    (case lone => k_is)
    (case yone => k_is)
    (case zone => k_is)
    (case a_ltab => k_is)
    (case lltab => k_is)
    (case yltab => k_is)
    (case zltab => k_is)
    (case a_lkind => k_is)
    (case llkind => k_is)
    (case ylkind => k_is)
    (case zlkind => k_is)
    (case a_lsaid => k_is)
    (case llsaid => k_is)
    (case ylsaid => k_is)
    (case zlsaid => k_is)
    (case a_lgodd => k_is)
    (case llgodd => k_is)
    (case ylgodd => k_is)
    (case zlgodd => k_is)
    (case a_lmodd => k_is)
    (case llmodd => k_is)
    (case ylmodd => k_is)
    (case zlmodd => k_is)
    (case a_lspo => k_is)
    (case llspo => k_is)
    (case ylspo => k_is)
    (case zlspo => k_is)
    (case a_law => k_is)
    (case llaw => k_is)
    (case ylaw => k_is)
    (case zlaw => k_is)
    (case m_VE => k_is)
    (case j_VE => k_is)
    (case lVE => k_is)
    (case yVE => k_is)
    (case zVE => k_is)
    (case m_KN => k_is)
    (case j_KN => k_is)
    (case lKN => k_is)
    (case yKN => k_is)
    (case zKN => k_is)
    (case m_KF => k_is)
    (case j_KF => k_is)
    (case lKF => k_is)
    (case yKF => k_is)
    (case zKF => k_is)
    (case m_KI => k_is)
    (case j_KI => k_is)
    (case lKI => k_is)
    (case yKI => k_is)
    (case zKI => k_is)
    (case aP => k_is)
    (case rP => k_is)
    (case gP => k_is)
    (case vP => k_is)
    (case a_CN => k_is)
    (case xN => k_is)
    (case sN => k_is)
    (case gaN => k_is)
    (case ggN => k_is)
    (case hcN => k_is)
    (case kpN => k_is)
    (case tyN' => k_is)
    (case noN => k_is)
    (case neN => decide)
    (case m_NI => k_is)
    (case j_NI => k_is)
    (case lNI => k_is)
    (case yNI => k_is)
    (case zNI => k_is)
    (case tI => k_is)
