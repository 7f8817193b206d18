import PyProof.Rows.All
import Wide.All
import OpenK.AllK
import Wide.FinOn
import KE.KExcMore
import HandS.ForMost
import HandS.ForExc
import HandS.ExcInit
import HandS.ExcField
import HandS.ExcIs
import HandS.IsInst
import HandS.ExcValue
import HandS.ClsMeth
import HandS.RaiseMore
import HandS.DictComp
import HandS.Walk
import HandS.TryMany
import HandS.Lambda
import HandS.EndOwn
import HandS.Zip
import HandS.OwnEq
import HandS.More
import PySem.Challenge.RW_planfirst_k25_whole_stores_and_locks
set_option Elab.async false
set_option linter.all false
set_option maxRecDepth 100000
set_option maxHeartbeats 4000000
/-! Rules of my own for the hand layer: exceptions of own classes as values that are kept. -/
namespace XR
open PySem PySem.Spec PyProof.Rows L2
section
variable {X : Cx} {pins : List (Addr × Obj)} {σ : L2.St} {H : Hp} {s : Shared}

/-! ### PlanError.__init__(self, ..): the base class is an own class -/
structure PIni (K : PySem.W.Frag) (mg : Str → Option Value) (x : Str) (B : Addr) (mc : Value) : Prop where
  gB : mg x = some (.ref B)
  cr : ClX.CRead K B mc
  vB : PySem.W.findCls K (.ref B) mc "__init__" = some (.val (.builtin "ValueError.__init__"))
theorem pe_pinit {e : Expr} {es : List Expr} {ta : TA} {x : Str} {B : Addr} {mc : Value} {p1 p2 pos : Pos} {pl : Sem Bool} (P : PIni X.K X.mg x B mc) (hg : Gl X x) (ha : PA X (e :: es) ta)
    (hc : eval (.Call (.Attribute (.Name x p1) "__init__" p2) (e :: es) [] pos) X.env = (do
      let o ← eval (.Name x p1) X.env
      standAt p2.atName
      let (f, first) ← holding [o] (getMethod o "__init__" pl)
      callWith pos f first (backTo pos (starEach (e :: es) X.env)) (backToKw pos (keywordEach [] X.env))) := by rfl)
    (he : starEach (e :: es) X.env = (false, eval e X.env) :: starEach es X.env := by rfl) (hpl : (backTo pos (starEach es X.env)).any (·.1) = false := by rfl) (hdb : (x == ("__debug__" : Str)) = false := by decide) :
    PE X (.Call (.Attribute (.Name x p1) "__init__" p2) (e :: es) [] pos) (tVeI X.K ta) := by
  refine ⟨fun pins s σ H Q I h => ?_⟩
  refine PySem.W.methodCall_KW (ld_glob I hg P.gB ?_ hdb) hc
  refine PySem.W.method_cls I.kIn P.cr.ga (PySem.W.cls_value I.kIn P.cr.rd P.vB (by decide +kernel) ?_)
  show wpAny _ _ (callWith pos (Value.builtin "ValueError.__init__") [] (backTo pos (starEach (e :: es) X.env)) []) _ _ _
  refine PyProof.Rows.callWith_method1 (thn (ha.run pos pins _ σ H _ (I.tok _) h) fun us s1 hh => ?_) he hpl
  obtain ⟨vs, H1, I1, r1, a, C, ws, ev, hl, T, ea, q⟩ := hh
  subst ev
  cases r1 with
  | @cons _ u0 _ ur ra rr =>
    obtain rfl : u0 = Value.ref a := ra
    refine oinit_ok T I1 ea ?_ fun s' J => ⟨.non, H1, J, rfl, q⟩
    rw [← Paired.length rr, sizeLine_eq]
    omega

/-! ### C(e, ..) as a value -/
@[irreducible] def tNewO (C : Addr) (sp : Sp) (ta : TA) : TE := fun σ H Q => ta σ H fun vs H1 => vs.length ≤ 1000 ∧ ∀ a, H1 a = none →
  sp (.ref a :: vs) (upd H1 a (exo a C none)) (fun v H2 => v = .non ∧ Q (.ref a) H2) (fun _ _ _ => False)
theorem pe_newO {CX : CXT} {x : Str} {C fI : Addr} {k : Nat} {fd : FuncData} {ps : List Str} {sp : Sp} {e : Expr} {es : List Expr} {ta : TA} {p pos : Pos} (T : OexC X.K C)
    (iC : PySem.W.findIn X.K (.ref C) "__init__" = some (some (.ref fI))) (tI : PySem.W.typeIn X.K (.ref fI) = some (.type "function"))
    (F1 : FnOk X.prog X.w X.K X.mg X.base CX k fI fd ps sp) (hr : Room (k + 1) X.A) (hb : Binds X.K fd ps []) (hx : Passes CX X (fun _ _ _ => False)) (hg : Gl X x) (hm : X.mg x = some (.ref C)) (ha : PA X (e :: es) ta)
    (hdb : (x == ("__debug__" : Str)) = false := by decide) (he : starEach (e :: es) X.env = (false, eval e X.env) :: starEach es X.env := by rfl) (hpl : (backTo pos (starEach es X.env)).any (·.1) = false := by rfl) :
    PE X (.Call (.Name x p) (e :: es) [] pos) (tNewO C sp ta) := by
  refine ⟨fun pins s σ H Q I h => ?_⟩
  unfold tNewO at h
  obtain ⟨nm, q, N, bs, bm, sn, sub, ab, col, dd, k0, k1, k2, k3, k5, hC, hbm⟩ := T.cls
  refine wpAny_Call_Name_kw (ld_glob I hg hm ?_ hdb)
  refine PySem.W.callWith_K (h₀ := X.base) I.ok.mod.kin T.kC (thn (ha.run pos pins s σ H _ I h) fun us s1 hh => ?_) he hpl
  obtain ⟨vs, H1, I1, r1, hz, q1⟩ := hh
  refine ⟨I1.kIn, ?_⟩
  show wpAny _ _ (call (.ref C) us) _ _ _
  obtain ⟨hp, g, dr, tk, os⟩ := s1
  have le1 : hp.objs.size ≤ hp.objs.size + 1 := Nat.le_succ _
  have hq := q1 (hp.objs.size + 1) (I1.hok.fresh le1)
  have keep : ∀ b o, hp.get? b = some o → ((hp.push (PySem.W.kdv_tup us)).push (PySem.HandSPX.excO C hp.objs.size)).get? b = some o := fun b o z => Heap.get?_push_of_some _ (Heap.get?_push_of_some _ z)
  have at1 : ((hp.push (PySem.W.kdv_tup us)).push (PySem.HandSPX.excO C hp.objs.size)).get? (hp.objs.size + 1) = some (PySem.HandSPX.excO C hp.objs.size) := by heap_get
  have I2 : Inv X pins σ (upd H1 (hp.objs.size + 1) (exo (hp.objs.size + 1) C none)) ⟨(hp.push (PySem.W.kdv_tup us)).push (PySem.HandSPX.excO C hp.objs.size), g, dr, tk, os⟩ :=
    I1.laid (t' := tk) (a := hp.objs.size + 1) (o := exo (hp.objs.size + 1) C none) (h' := (hp.push (PySem.W.kdv_tup us)).push (PySem.HandSPX.excO C hp.objs.size)) keep le1 (exo_ok at1)
  have r2 : Vals (V.ref (hp.objs.size + 1) :: vs) (Value.ref (hp.objs.size + 1) :: us) := .cons rfl r1
  have hl : (Value.ref (hp.objs.size + 1) :: us ++ []).length = ps.length := by
    have z := r2.length
    rw [F1.len _ _ _ _ hq] at z
    simpa using z.symm
  have hus : us.length ≤ sizeLine := by
    rw [← Paired.length r1, sizeLine_eq]
    omega
  have hbb := hb _ (Value.ref (hp.objs.size + 1) :: us) I2.kIn hl
  rw [List.append_nil] at hbb
  refine wpAny_call (PySem.HandSPX.call_own F.excBase_ValueError (fun Y => PySem.HandSPX.refsVE_contains Y bm hbm) (I1.kIn _ _ hC) (PySem.W.looks_findIn I1.kIn iC) (fun self => PySem.W.bind_fn I1.kIn self tI) hus
    (codeAny_mono (F1.run _ X.stack _ _ ⟨Value.ref (hp.objs.size + 1) :: us, []⟩ (Value.ref (hp.objs.size + 1) :: us) _ _ (fun _ _ _ => False) (hr.make C us []) (I2.env0.make C us []) hbb r2 hq) fun r s' z => ?_))
  cases r with
  | error er => exact hx pins σ _ _ er s' I2 z
  | ok fl =>
    cases fl with
    | ret u =>
      obtain ⟨v, H2, os2, bare2, un2, hok2, rv, ev, q2⟩ := z
      subst ev
      exact ⟨rv, .ref (hp.objs.size + 1), H2, I2.call' (ch := []) os2 un2 hok2 bare2 (fun b z => absurd z (by simp)), rfl, q2⟩
    | next => exact False.elim z
    | brk => exact False.elim z
    | cont => exact False.elim z

/-! ### e.f, e such a value -/
@[irreducible] def tXget (K : PySem.W.Frag) (f : Str) (te : TE) : TE := fun σ H Q => te σ H fun x H1 => ∃ (a C dx : Addr) (fs : List (Str × V)) (v : V), x = .ref a ∧ XfC K C ∧ PySem.W.findIn K (.ref C) f = some none ∧
  H1 a = some (exo a C (some dx)) ∧ H1 dx = some (exd dx fs) ∧ fs.lookup f = some v ∧ Q v H1
theorem exo_inst {a C dx : Addr} {fs : List (Str × V)} (I : Inv X pins σ H s) (ea : H a = some (exo a C (some dx))) (ed : H dx = some (exd dx fs)) :
    ∃ (t1 : Addr) (od : Obj) (mA : Str → Option Value), PySem.W.InstAt s.heap a { cls := .ref C, dict := some dx, data := .fields #[.ref t1, .none, .none, .none, .bool false, .none] } C (some od) ∧ (∀ f, RelO (fs.lookup f) (mA f)) ∧ ∀ f, PySem.W.lookIn f od = some (mA f) := by
  obtain ⟨t1, ho⟩ := exo_at I.hok ea
  obtain ⟨mA, hns, rel⟩ := exd_at I.hok ed
  obtain ⟨od, hod, hl⟩ := lookIn_ns hns
  exact ⟨t1, od, mA, ⟨ho, rfl, rfl, hod⟩, rel, hl⟩
theorem pe_xget {e : Expr} {te : TE} {f : Str} {pos : Pos} (he : PE X e te) (hb : attributeBase e f X.env (eval e X.env) = eval e X.env := by rfl) : PE X (.Attribute e f pos) (tXget X.K f te) := by
  refine ⟨fun pins s σ H Q I h => ?_⟩
  unfold tXget at h
  refine attr_of hb (thn (he.run pins s σ H _ I h) fun u s1 hh => ?_)
  obtain ⟨x, H1, I1, rx, a, C, dx, fs, v, ex, T, hno, ea, ed, l, q⟩ := hh
  subst ex
  obtain rfl : u = Value.ref a := rx
  obtain ⟨t1, od, mA, J, rel, hl⟩ := exo_inst I1 ea ed
  obtain ⟨u, hu, ru⟩ := RelO.some_of (v := v) (o := mA f) (by rw [← l]; exact rel f)
  exact HandSPX.exc_get I1.kIn J T.ga T.gg T.exC (PySem.W.findObj_own T.hdC hno rfl (by rw [hl, hu])) (handed_of ru) ⟨v, H1, I1.tok _, ru, q⟩
end
end XR

/-! Own errors over PlanError: what is asked of a class, its __init__, raising it. -/
namespace XR
open PySem PySem.Spec PyProof.Rows L2
/-- all but what stands at w is as it was -/
def But (w : Addr) (H H' : Hp) : Prop := ∀ b o, H b = some o → b ≠ w → H' b = some o
theorem But.trans {w : Addr} {H H1 H2 : Hp} (a : But w H H1) (b : But w H1 H2) : But w H H2 := fun c o h n => b c o (a c o h n) n
theorem But.upd {w : Addr} {H : Hp} {o : HO} : But w H (upd H w o) := fun b u e n => by rw [upd_ne n]; exact e
theorem But.of {w : Addr} {H H' : Hp} (m : Same H H') : But w H H' := fun b u e _ => m b u e
theorem But.same {w : Addr} {H G H' : Hp} (m : But w G H') (h : Same H G) (n : H w = none) : Same H H' := fun b o e => m b o (h b o e) (ne_of_none e n)
theorem same_new {p : Addr} {H : Hp} {o : HO} (h : H p = none) : Same H (L2.upd H p o) := fun b u e => by rw [upd_ne (ne_of_none e h)]; exact e
theorem at_new {H : Hp} {a : Addr} {o : HO} (_ : H a = none) : L2.upd H a o a = some o := upd_same
abbrev tail (CP : Addr) : List Value := [.ref CP, .type "ValueError", .type "Exception", .type "BaseException", .type "object"]
structure XcOk (K : PySem.W.Frag) (CP C : Addr) : Prop where
  lk : ∃ nm q N bs sn sub ab col dd k0 k1 k2 k3 k5, K.lookup C = some (excClassObj nm q C N bs (tail CP) true sn sub ab col dd k0 k1 k2 k3 k5 "ValueError.__new__")
  sa : PySem.W.findIn K (.ref C) "__setattr__" = some (some (.builtin "object.__setattr__"))
  ga : PySem.W.findIn K (.ref C) "__getattribute__" = some (some (.builtin "BaseException.__getattribute__"))
  gg : PySem.W.findIn K (.ref C) "__getattr__" = some none
  ha : PySem.W.findIn K (.ref C) "__class__" = some (some (.builtin "object.__class__"))
  kC : PySem.W.keepIn K (.ref C) = true
  tyC : PySem.W.typeIn K (.ref C) = some (.type "type")
structure Cls0 (K : PySem.W.Frag) : Prop where
  hn : PySem.W.specialIn K (.builtin "object.__class__") "__get__" = some (some (.builtin "getset_descriptor.__get__"))
  ht : PySem.W.takesIn K (.builtin "object.__class__") = some true
section
variable {K : PySem.W.Frag} {CP C D : Addr}
theorem XcOk.cls (x : XcOk K CP C) : ∃ cd : ClassData, PySem.W.clsIn K C = some cd ∧ cd.mro = .ref C :: tail CP ∧ cd.hasDict = true := by
  obtain ⟨nm, q, N, bs, sn, sub, ab, col, dd, k0, k1, k2, k3, k5, h⟩ := x.lk
  refine ⟨{ name := nm, bases := bs, mro := .ref C :: tail CP, ns := N, qualname := q, hasDict := true, slotNames := sn, subclasses := sub, abstract := ab, collection := col, hasDel := false }, ?_, rfl, rfl⟩
  unfold PySem.W.clsIn
  rw [h]
theorem XcOk.mro (x : XcOk K CP C) (v : Value) : PySem.W.mroIn K C v = some ((Value.ref C :: tail CP).contains v) := by
  obtain ⟨cd, h1, h2, _⟩ := x.cls
  unfold PySem.W.mroIn
  rw [h1, Option.bind_some, h2]
  rfl
theorem XcOk.sub (x : XcOk K CP C) (v : Value) : PySem.W.subIn K (.ref C) v = some ((Value.ref C :: tail CP).contains v) := x.mro v
theorem XcOk.hd (x : XcOk K CP C) : PySem.W.hasDictIn K C = true := by
  obtain ⟨cd, h1, _, h3⟩ := x.cls
  unfold PySem.W.hasDictIn
  rw [h1]
  exact h3
theorem XcOk.oex (x : XcOk K CP C) : OexC K C := by
  obtain ⟨nm, q, N, bs, sn, sub, ab, col, dd, k0, k1, k2, k3, k5, h⟩ := x.lk
  exact ⟨⟨nm, q, N, bs, tail CP, sn, sub, ab, col, dd, k0, k1, k2, k3, k5, h, rfl⟩, x.sa, (x.sub _).trans (congrArg some (by rfl)), x.tyC, x.kC⟩
theorem XcOk.xf (x : XcOk K CP C) : XfC K C := ⟨x.ga, x.gg, (x.sub _).trans (congrArg some (by rfl)), x.hd⟩
theorem XcOk.isCls (x : XcOk K CP C) : ((PySem.W.clsIn K C).isSome && PySem.W.typeIn K (.ref C) == some (.type "type")) = true := by
  obtain ⟨cd, h1, _⟩ := x.cls
  rw [h1, x.tyC]
  rfl
/-- except D, of an error of the class C -/
theorem XcOk.exm (x : XcOk K CP C) (y : XcOk K CP D) (hp : D ≠ CP) : PySem.W.exmOne K (.ref C) (.ref D) = some (decide (C = D)) := by
  have e1 : (PySem.W.subIn K (.ref D) (.type "BaseException") == some true) = true := by
    rw [y.sub]
    rfl
  show (if (PySem.W.subIn K (.ref D) (.type "BaseException") == some true) = true then (if ((PySem.W.clsIn K D).isSome && PySem.W.typeIn K (.ref D) == some (.type "type")) = true then PySem.W.subIn K (.ref C) (.ref D) else none) else none) = _
  rw [if_pos e1, if_pos y.isCls, x.sub]
  congr 1
  by_cases e : C = D
  · subst e
    simp
  · have b1 : (Value.ref D == Value.ref C) = false := beq_eq_false_iff_ne.mpr fun z => e (Value.ref.inj z).symm
    have b2 : (Value.ref D == Value.ref CP) = false := beq_eq_false_iff_ne.mpr fun z => hp (Value.ref.inj z)
    rw [List.contains_cons, List.contains_cons, b1, b2, decide_eq_false e]
    rfl
end
def spI (C : Addr) (fld : Str) : Sp := fun vs H Q _ => ∃ (a : Addr) (v : V), vs = [.ref a, v] ∧ H a = some (exo a C none) ∧
  ∀ (dx : Addr) (H' : Hp), H dx = none → dx ≠ a → H' = upd (upd H dx (exd dx [(fld, v)])) a (exo a C (some dx)) → Q .non H'
/-- an error of one value -/
structure New1 (P : Program) (w : World) (K : PySem.W.Frag) (mg : Str → Option Value) (base : Heap) (CP : Addr) (x fld : Str) (C fI : Addr) (fd : FuncData) : Prop where
  xc : XcOk K CP C
  g : mg x = some (.ref C)
  iC : PySem.W.findIn K (.ref C) "__init__" = some (some (.ref fI))
  tI : PySem.W.typeIn K (.ref fI) = some (.type "function")
  no : PySem.W.findIn K (.ref C) fld = some none
  ok : FnOk P w K mg base CX0 1 fI fd ["self", fld] (spI C fld)
  b : Binds K fd ["self", fld] []
/-- raise C(v): the way out -/
@[irreducible] def RaiseK (C : Addr) (fld : Str) (v : V) (H : Hp) (Q : XK) : Prop := [v].length ≤ 1000 ∧ ∀ a, H a = none → spI C fld (.ref a :: ([v] ++ [])) (upd H a (exo a C none))
  (fun u H2 => u = .non ∧ ∃ (d : Addr) (fs : List (Str × V)), H2 a = some (exo a C (some d)) ∧ H2 d = some (exd d fs) ∧ H d = none ∧ Q (.ref C) (some d) (upd (del H2 a) d (.xd fs))) (fun _ _ _ => False)
theorem raiseK {C : Addr} {fld : Str} {v : V} {H : Hp} {Q : XK} (h : ∀ (d : Addr) (H' : Hp), H d = none → Same H H' → H' d = some (.xd [(fld, v)]) → Q (.ref C) (some d) H') : RaiseK C fld v H Q := by
  unfold RaiseK
  refine ⟨(by show 1 ≤ 1000; decide), fun a ha => ⟨a, v, rfl, upd_same, fun dx H' hd hne e => ⟨rfl, dx, [(fld, v)], ?_, ?_, ?_, ?_⟩⟩⟩
  · rw [e, upd_same]
  · rw [e, upd_ne hne, upd_same]
  · rw [upd_ne hne] at hd
    exact hd
  · rw [upd_ne hne] at hd
    refine h dx _ hd (fun b o z => ?_) upd_same
    have n1 := ne_of_none z ha
    have n2 := ne_of_none z hd
    rw [upd_ne n2, del_ne n1, e, upd_ne n1, upd_ne n2, upd_ne n1]
    exact z
def tRaiseI (C : Addr) (fld : Str) (W : WX) (te : TE) : TS := fun _ σ H => te σ H fun v H1 => RaiseK C fld v H1 fun cls d H' => W cls d σ H'
section
variable {X : Cx}
theorem ps_raiseI {x fld : Str} {CP C fI : Addr} {fd : FuncData} {e : Expr} {te : TE} {W : WX} {p pos pos2 : Pos} (N : New1 X.prog X.w X.K X.mg X.base CP x fld C fI fd) (hc : X.calm = true) (hr : Room 2 X.A) (tk : Takes X W) (hg : Gl X x) (he : PE X e te)
    (hdb : (x == ("__debug__" : Str)) = false := by decide) (h1 : starEach [e] X.env = (false, eval e X.env) :: starEach [] X.env := by rfl) (hpl : (backTo pos (starEach [] X.env)).any (·.1) = false := by rfl) :
    PS X (.Raise (some (.Call (.Name x p) [e] [] pos)) none pos2) (tRaiseI C fld W te) := by
  have M := pmk_oex (X := X) (pos := pos) (p := p) N.xc.oex N.iC N.tI N.ok hr N.b .nil (fun _ _ _ _ _ _ _ z => z.elim) hg N.g (pa_cons he pa_nil h1) hdb h1 hpl
  have R := ps_raise (pos := pos2) hc tk M
  have e : tRaiseI C fld W te = fun _ σ H => tMkO C (spI C fld) [] (tCons te tNil) σ H fun cls d H' => W cls d σ H' := by
    unfold tRaiseI RaiseK
    rfl
  rw [e]
  exact R
end
end XR

/-! try with several clauses «except X as n» -/
namespace XR
open PySem PySem.Spec PyProof.Rows L2
/-- what such clauses wish of an exception of the body, one after the other -/
def wManyA (K : PySem.W.Frag) (Wout : WX) (D : Ends) : List (Value × Nat × (Addr → Value → Option Addr → TS)) → WX
  | [] => Wout
  | (c, i, ts) :: r => fun cls d σ H => ∃ b, PySem.W.exmOne K cls c = some b ∧
      (b = true → ∀ a, H a = none → ts a cls d { nx := fun σ' H' => D.nx (σ'.set i none) H', rt := D.rt, bk := fun σ' H' => D.bk (σ'.set i none) H', ct := fun σ' H' => D.ct (σ'.set i none) H' } (σ.set i (some (.ref a))) H) ∧
      (b = false → wManyA K Wout D r cls d σ H)
inductive HdsA (X : Cx) : List ExceptHandler → List (Value × Nat × (Addr → Value → Option Addr → TS)) → Prop
  | nil : HdsA X [] []
  | cons {x n : Str} {c : Value} {i : Nat} {ts : Addr → Value → Option Addr → TS} {b0 : Stmt} {suite : List Stmt} {np pos' : Pos} {hds : List ExceptHandler} {l : List (Value × Nat × (Addr → Value → Option Addr → TS))} (hc : Names X x c)
      (hi : X.N[i]? = some n) (hln : X.env.kindOf n = some .local)
      (hsu : ∀ (a : Addr) (oe : Obj) (cls : Value) (d : Option Addr) (pn : List (Addr × Obj)), Zc cls d oe → (∃ vs, oe.data = .fields vs) → PSs (X.suite a ((a, oe) :: pn)) (b0 :: suite) (ts a cls d)) (r : HdsA X hds l) :
      HdsA X (.ExceptHandler (some (.Name x np)) (some n) (b0 :: suite) pos' :: hds) ((c, i, ts) :: l)
section
variable {X : Cx} {body : List Stmt} {h0 : ExceptHandler} {hds : List ExceptHandler} {l : List (Value × Nat × (Addr → Value → Option Addr → TS))} {pos : Pos} {tb : WX → TS} {Wout : WX}
theorem ps_tryA (hs : X.stack = X.env :: X.outer) (hf : X.env.frame = some X.env.locals) (hN : X.N.Nodup) (tk : Takes X Wout)
    (hb : ∀ (W : WX) (pn : List (Addr × Obj)) (xe : Value → Shared → Prop), Takes (X.tr pn xe) W → PassesOwn (model X.prog X.w) X.A X.env xe → PSs (X.tr pn xe) body (tb W))
    (hh : HdsA X (h0 :: hds) l) : PS X (.Try body (h0 :: hds) [] [] pos) (fun D σ H => tb (wManyA X.K Wout D l) D σ H) := by
  refine ⟨fun pins s σ H D I h => ?_⟩
  have ok := I.ok
  have hfr : X.A.frames = some (X.env :: X.outer) := by rw [ok.frames, hs]
  refine wpAny_Try_except ?_
  refine wpAny_mono ((hb (wManyA X.K Wout D l) (X.pn ++ pins) (fun e s1 => wpAny (model X.prog X.w) X.A (noteFrame e X.env) (fun _ s2 => wpAny (model X.prog X.w) X.A (setFlight e none) (fun _ s3 =>
    wpAny (model X.prog X.w) X.A (handleBy e X.env (h0 :: hds)) (SP X pins D) X.xe s3) X.xe s2) X.xe s1) (fun u s' xx => ?_) PassesOwn.looking).run [] s σ H D (I.toTry _) h) (fun f s1 hsp => ?_) (fun e s1 he => he)
  · obtain ⟨a, B, sI, pins', σ', H', cls, d, rfl, J', nb, up, sky, na, os, ag, w⟩ := xx
    have J : Inv X pins σ' H' sI := J'.ofTry ok
    have sky' : Sky B (X.env :: X.outer) a (Zc cls d) X.env.locals s'.heap := by rw [← hs]; exact sky
    show wpAny (model X.prog X.w) X.A (noteFrame (.ref a) X.env) _ _ _
    refine Sky.land Zc.steady hfr hf sky' fun h3 fl3 up3 => ?_
    have J3 : Inv X pins σ' H' { s' with heap := h3 } := J.landed nb fl3.1 (up.trans up3) os ag
    obtain ⟨oe3, vs3, he3, hz3, hd3⟩ := fl3.there
    have nfr : a ∉ frs (X.env :: X.outer) := fun hm => by
      obtain ⟨_, o', e', hnf⟩ := fl3.2.2.1.mem hm
      rw [he3] at e'
      cases e'
      exact hnf _ hd3
    have nL : a ≠ X.env.locals := fun z => nfr (List.mem_filterMap.mpr ⟨X.env, List.mem_cons_self, by rw [hf, z]⟩)
    have nF : a ∉ X.fs := fun hm => by
      obtain ⟨e, he, q⟩ := List.mem_filterMap.mp hm
      exact nfr (List.mem_filterMap.mpr ⟨e, List.mem_cons_of_mem _ he, q⟩)
    have S3 := J3.suite he3 hd3 na nL nF
    have go : ∀ {hds' : List ExceptHandler} {l' : List (Value × Nat × (Addr → Value → Option Addr → TS))}, HdsA X hds' l' → wManyA X.K Wout D l' cls d σ' H' →
        wpAny (model X.prog X.w) X.A (handleBy (.ref a) X.env hds') (SP X pins D) X.xe { s' with heap := h3 } := by
      intro hds' l' hk
      induction hk with
      | nil =>
        intro w
        refine wpAny_handleBy_nil ?_
        obtain ⟨k1, k2, k3, oe, vs, T, oT, ts', he, hz, hd, h1, hr⟩ := id fl3
        unfold PySem.passOn
        refine wpAny_bind (wpAny_field he hd h1 ?_)
        rw [if_neg (show ¬ ((Value.ref T == Value.none) = true) from by simp)]
        have fin : wpAny (model X.prog X.w) X.A (setFlight (.ref a) X.env.frame) (fun _ s4 => wpAny (model X.prog X.w) X.A (throw (.ref a) : Sem Flow) (SP X pins D) X.xe s4) X.xe { s' with heap := h3 } := by
          rw [hf]
          refine HandSPX.setFlight_upZ fl3 fun h4 hh4 up4 => wpAny_throw (tk _ _ ?_)
          exact ⟨a, B, sI, pins, σ', H', cls, d, rfl, J, nb, (up.trans up3).trans up4, .inr (.inr (by rw [hs]; exact hh4)), na, os, ag, w⟩
        first
          | exact wpAny_bind (wpAny_pure (wpAny_bind fin))
          | exact wpAny_bind fin
      | @cons x n c i ts b0 suite np pos' hds2 l2 hc hi hln hsu r ih =>
        intro w
        obtain ⟨b, hb1, hyes, hno⟩ := w
        refine wpAny_handleBy_cons (codeAny_handlers_test ?_) (by intro q; cases q)
        have LT : PySem.W.Looks (model X.prog X.w) h3 (typeOf (.ref a)) cls := fun A Q E s k q => wpAny_typeOf_ref (k _ _ he3) (by rw [hz3.1]; exact q)
        have LM := PySem.W.exm_one (M := model X.prog X.w) (J3.kIn) LT hb1
        have test : ∀ {Q : Value → Shared → Prop} {E : Value → Shared → Prop}, Q c { s' with heap := h3 } → wpAny (model X.prog X.w) (X.A.mark (some (.ref a))) (eval (.Name x np) X.env) Q E { s' with heap := h3 } := fun {Q E} q => by
          obtain ⟨hg, hdbg, hm | ⟨hm, hv, hnn⟩⟩ := hc
          · exact ld_glob (X := X.suite a ((a, oe3) :: (X.pn ++ pins))) S3 hg hm q hdbg
          · exact ld_blt (X := X.suite a ((a, oe3) :: (X.pn ++ pins))) S3 hg hm hv q hnn hdbg
        refine test (LM.here ?_)
        cases b with
        | true =>
          refine codeAny_handlers_suite_as ?_
          refine HandSPX.lands_againZ fl3 fun h4 fl4 up4 => ?_
          have J4 : Inv X pins σ' H' { s' with heap := h4 } := J.landed nb fl4.1 ((up.trans up3).trans up4) os ag
          obtain ⟨oe4, vs4, he4, hz4, hd4⟩ := fl4.there
          have S4 := J4.suite he4 hd4 na nL nF
          refine store_ok (X := X.suite a ((a, oe4) :: (X.pn ++ pins))) (v := .ref a) S4 hN hi (.inl hln) rfl (fun s5 S5 => ?_) (.inr hln)
          refine wpAny_mono ((hsu a oe4 cls d (X.pn ++ pins) hz4 ⟨_, hd4⟩).run [] s5 _ H' _ S5 (hyes rfl a na)) (fun f s6 hsp => ?_) (fun _ _ z => False.elim z)
          have end_ : ∀ {σ6 : L2.St} {H6 : Hp} {Q : Shared → Prop}, Inv (X.suite a ((a, oe4) :: (X.pn ++ pins))) [] σ6 H6 s6 → (∀ s7, Inv X pins (σ6.set i none) H6 s7 → Q s7) →
              wpAny (model X.prog X.w) X.A (do bindName X.env n .none; unbindBehindTheSuite X.env n pos') (fun _ s7 => Q s7) X.xe s6 := fun {σ6 H6 Q} S6 hq => gone_ok (S6.unsuite ok) hN hi hln hq
          cases f with
          | next =>
            obtain ⟨σ6, H6, S6, q6⟩ := hsp
            exact end_ S6 fun s7 J7 => ⟨_, _, J7, q6⟩
          | brk =>
            obtain ⟨σ6, H6, S6, q6⟩ := hsp
            exact end_ S6 fun s7 J7 => ⟨_, _, J7, q6⟩
          | cont =>
            obtain ⟨σ6, H6, S6, q6⟩ := hsp
            exact end_ S6 fun s7 J7 => ⟨_, _, J7, q6⟩
          | ret u =>
            obtain ⟨v6, σ6, H6, S6, r6, q6⟩ := hsp
            exact end_ S6 fun s7 J7 => ⟨_, _, _, J7, r6, q6⟩
        | false =>
          show wpAny _ X.A (handleBy (.ref a) X.env hds2) _ _ _
          exact ih (hno rfl)
    exact go hh w
  · cases f with
    | next =>
      obtain ⟨σ', H', J', q⟩ := hsp
      exact wpAny_execs_nil ⟨σ', H', J'.ofTry ok, q⟩
    | brk =>
      obtain ⟨σ', H', J', q⟩ := hsp
      exact ⟨σ', H', J'.ofTry ok, q⟩
    | cont =>
      obtain ⟨σ', H', J', q⟩ := hsp
      exact ⟨σ', H', J'.ofTry ok, q⟩
    | ret u =>
      obtain ⟨v, σ', H', J', r, q⟩ := hsp
      exact ⟨v, σ', H', J'.ofTry ok, r, q⟩
end
end XR

/-! the end of a law row where defs of the text make lambdas: the defs' tables of code objects are empty -/
namespace XR
open PySem PySem.Spec PyProof.Rows L2
theorem walk_ofTab {l : PySem.W.OpenLaw} {n k : Nat} {q : Program} {loose : List Str} {XP : (Str → Option Value) → Heap → Prop} {YP : World → Heap → Prop} {d : DefRec} {K : Params → PySem.W.Frag} {CX : World → CXT} {x : Str}
    (hn : l.most = some n) (hn2 : n ≤ sizeLine) (hdf : d.params.defaults = []) (hr : Room k callerA) (hY : ∀ (w : World) (h : Heap), YP w h → (K w.params).In h)
    (F : ∀ (w : World) (mg : Str → Option Value) (fa : Addr) (h : Heap), YP w h → (K w.params).In h → h.Ns mainGlobals mg → mg d.name = some (.ref fa) →
      (∀ (y : Str) (fr : Addr), ((recsOf q).any fun e => e.name == y) = true → mg y = some (.ref fr) → LamX.OwnTab (K w.params) fr h) → LamX.LawAtS l w (K w.params) (CX w) k n x mg fa h)
    (hCX : ∀ (w : World) (H : Hp) (s : Shared) (e : Value) (s' : Shared), CX w [] H s (fun _ _ _ => False) e s' → False) :
    PySem.W.WalkO q loose XP YP l.row.toRowW d [] (fun f vs => PySem.call f vs) := by
  refine Att.attach_callB hn hdf fun w s₀ s₁ mg mb fa o pm cd doc a vs ns G Y ho hd hcd hmg hobj hints hlen hbits hg => ?_
  have KX := hY w _ Y
  have own : ∀ (y : Str) (fr : Addr), ((recsOf q).any fun e => e.name == y) = true → mg y = some (.ref fr) → LamX.OwnTab (K w.params) fr s₁.heap := fun y fr hrec hmy c P o1 fd1 e dd vs1 sl k1 k2 k3 k4 k5 => by
    obtain ⟨dL, hm, hn1⟩ := List.any_eq_true.mp hrec
    have hn2 : dL.name = y := beq_iff_eq.mp hn1
    obtain ⟨a', o', fd', c', P', h1, h2, h3, h4, h5, h6⟩ := G.T.tab dL hm
    rw [hn2, hmy] at h1
    cases h1
    have g1 := KX _ _ k1
    rw [g1] at h2
    cases h2
    rw [k2] at h3
    cases h3
    rw [k3] at h4
    cases h4
    obtain ⟨⟨oc, vc, e1, _, e3, e4⟩, hP⟩ := h6
    have g2 := KX _ _ k4
    rw [g2] at e1
    cases e1
    cases e3
    rw [k5] at e4
    cases e4
    exact hP
  obtain ⟨fd, cs, sp, hT, nT, C, hb, hsp, hF⟩ := F w mg fa _ Y KX G.T.g hmg own
  exact LamX.law_callTs KX G.T.g G.T.b G.T.builtins G.T.nolimit hg hT nT C G.T.bmain hobj hints (Nat.le_trans hlen hn2) hr hF hb (fun H hH hS => hsp H a ns hlen hbits hH hS) fun H e s' => hCX w H s₁ e s'
end XR

/-! isinstance against own classes, from what the head tells -/
namespace XR
open PySem PySem.Spec PyProof.Rows L2
variable {K : PySem.W.Frag} {C D : Addr} {t : String} {b : Bool}
theorem isC (i : PySem.W.isClsIn K C = true) (ty : PySem.W.typeIn K (.ref C) = some (.type "type")) : ((PySem.W.clsIn K C).isSome && PySem.W.typeIn K (.ref C) == some (.type "type")) = true := by
  have i2 : (PySem.W.clsIn K C).isSome = true := i
  rw [i2, ty]
  rfl
theorem kit_tyC (i : PySem.W.isClsIn K C = true) (ty : PySem.W.typeIn K (.ref C) = some (.type "type")) (h : (PySem.W.subIn K (.type t) (.ref C)) = some b) : PySem.W.kitOne K (.type t) (.ref C) = some b := by
  show (if (Value.type t == Value.ref C) = true then some true else if ((PySem.W.clsIn K C).isSome && PySem.W.typeIn K (.ref C) == some (.type "type")) = true then PySem.W.subIn K (.type t) (.ref C) else none) = _
  rw [if_neg (by intro z; exact Value.noConfusion (beq_iff_eq.mp z)), if_pos (isC i ty), h]
theorem kit_CC (i : PySem.W.isClsIn K D = true) (ty : PySem.W.typeIn K (.ref D) = some (.type "type")) (ne : C ≠ D) (h : PySem.W.mroIn K C (.ref D) = some b) : PySem.W.kitOne K (.ref C) (.ref D) = some b := by
  show (if (Value.ref C == Value.ref D) = true then some true else if ((PySem.W.clsIn K D).isSome && PySem.W.typeIn K (.ref D) == some (.type "type")) = true then PySem.W.mroIn K C (.ref D) else none) = _
  rw [if_neg (by intro z; exact ne (Value.ref.inj (beq_iff_eq.mp z))), if_pos (isC i ty), h]
theorem kit_CT (m : PySem.W.kitMeta t = true) (h : PySem.W.mroIn K C (.type t) = some b) : PySem.W.kitOne K (.ref C) (.type t) = some b := by
  show (if (Value.ref C == Value.type t) = true then some true else if PySem.W.kitMeta t = true then PySem.W.mroIn K C (.type t) else none) = _
  rw [if_neg (by intro z; exact Value.noConfusion (beq_iff_eq.mp z)), if_pos m, h]
theorem sub4 : ∀ t ∈ ["int", "str", "dict", "tuple"], PySem.W.subIn K (.type t) (.ref C) = some false := fun t ht => by
  simp only [List.mem_cons, List.not_mem_nil, or_false] at ht
  rcases ht with rfl | rfl | rfl | rfl <;> rfl
end XR

namespace K25
open PySem L2 XR
def top (i : Nat) : Stmt := PySem.Challenge.pw_planfirst_k25_whole_stores_and_locks.main.body.getD i (.Pass ⟨0, 0, 0, 0⟩)
abbrev sCellAt : Stmt := top 21
abbrev sWell : Stmt := top 22
abbrev sDraw : Stmt := top 23
abbrev sOne : Stmt := top 24
abbrev sTold : Stmt := top 25
abbrev sDue : Stmt := top 26
abbrev sRight : Stmt := top 27
abbrev sLaw : Stmt := top 28
structure Well (H : Hp) (w : Addr) (a b c : Int) : Prop where
  at_ : H w = some (.lst [.int a, .int b, .int c])
  c0 : 0 ≤ c
  c1 : c ≤ 1000000
theorem Well.same {H H' : Hp} {w : Addr} {a b c : Int} (h : Well H w a b c) (m : Same H H') : Well H' w a b c := ⟨m _ _ h.at_, h.c0, h.c1⟩
def spCellAt (K : PySem.W.Frag) : Sp := fun vs H Q _ => ∃ (a : Addr) (ns : List Int) (i : Nat), vs = [.ref a, .int i] ∧ SqL K H a (ns.map V.int) ∧ ns.length ≤ 63 ∧ ∀ z : Int, Q (.int z) H
def spWell : Sp := fun vs H Q _ => ∃ z : Int, vs = [.int z] ∧ ∀ (p : Addr) (a b : Int) (H' : Hp), Same H H' → H p = none → Well H' p a b 0 → Q (.ref p) H'
def spDraw : Sp := fun vs H Q _ => ∃ (w : Addr) (a b c m : Int), vs = [.ref w, .int m] ∧ Well H w a b c ∧ c < 1000000 ∧ 0 < m ∧ m < 1000000 ∧
  ∀ (d a' c' : Int) (H' : Hp), 0 ≤ d → d < m → c' ≤ c + 1 → Well H' w a' b c' → But w H H' → Q (.int d) H'
def spOne (K : PySem.W.Frag) : Sp := fun vs H Q _ => ∃ (w l : Addr) (a b c : Int) (xs : List V), vs = [.ref w, .ref l] ∧ Well H w a b c ∧ c < 1000000 ∧ H l = some (.lst xs) ∧ l ≠ w ∧ 0 < xs.length ∧ xs.length < 1000 ∧
  ∀ (v : V) (a' c' : Int) (H' : Hp), v ∈ xs → c' ≤ c + 1 → Well H' w a' b c' → But w H H' → Q v H'
structure Txt0 (mg : Str → Option Value) : Prop where
  int : mg "int" = none
  len : mg "len" = none
section
variable {P : Program} {w : World} {K : PySem.W.Frag} {mg : Str → Option Value} {base : Heap}
theorem scC : FnScope ["_law_script", "_law_k"] ["_law_script", "_law_k"] (defScope sCellAt) := ⟨rfl, rfl, rfl, by decide +kernel, rfl, by decide +kernel, by decide +kernel⟩
theorem ok_cellat {f : Addr} {fd : FuncData} (F : Fun K "_law_cell_at" "_law_cell_at" sCellAt f fd) (T : Txt0 mg) : FnOk P w K mg base CX0 1 f fd ["_law_script", "_law_k"] (spCellAt K) := by
  refine F.ok scC (fun vs H Q E h => ?_) (fun cdv A outer s H vs Q E hr h => ?_)
  · obtain ⟨a, ns, i, rfl, _⟩ := h
    rfl
  · obtain ⟨a, ns, i, rfl, hS, hl, k⟩ := h
    refine ⟨_, (pss_one (ps_ret (pe_ifExp (pt_cmpR op_lt (pv 1) (pe_callB call_len (by rfl) T.len (by decide +kernel) (pa_cons (pv 0) pa_nil)) (nomark _)) (pe_ix ix_list (pv 0) (pv 1) (fun _ _ => rfl)) pe_int))), ?_⟩
    refine ⟨_, rfl, _, rfl, _, _, rfl, .inl ⟨_, hS, rfl⟩, _, _, rfl, rfl, _, rfl, ?_⟩
    refine ite2 (fun hc => ?_) (fun hc => k _)
    have hc' : i < ns.length := by
      have h1 := of_decide_eq_true hc
      rw [List.length_map] at h1
      omega
    refine ⟨_, rfl, _, rfl, a, _, _, _, rfl, rfl, hS, atI_nat (v := V.int ns[i]) (by simp [hc']), k _⟩
theorem scW : FnScope ["_law_cell"] ["_law_cell"] (defScope sWell) := ⟨rfl, rfl, rfl, by decide +kernel, rfl, by decide +kernel, by decide +kernel⟩
theorem ok_well {f : Addr} {fd : FuncData} (F : Fun K "_law_well" "_law_well" sWell f fd) : FnOk P w K mg base CX0 1 f fd ["_law_cell"] spWell := by
  refine F.ok scW (fun vs H Q E h => ?_) (fun cdv A outer s H vs Q E hr h => ?_)
  · obtain ⟨z, rfl, _⟩ := h
    rfl
  · obtain ⟨z, rfl, k⟩ := h
    refine ⟨_, (pss_one (ps_ret (pe_lst (pa_cons (pe_ifExp (pt_cmpR op_ge (pv 0) (pe_op op_pow pe_int pe_int) (nomark _)) (pv 0) pe_int) (pa_cons (pv 0) (pa_cons pe_int pa_nil)))))), ?_⟩
    refine ⟨_, rfl, _, _, rfl, rfl, ⟨by decide, by decide, by decide⟩, _, _, rfl, rfl, _, rfl, ?_⟩
    refine ite2 (fun hc => ?_) (fun hc => ?_)
    · exact ⟨_, rfl, _, rfl, (by show 3 ≤ sizeLine; decide), fun p hp => k p _ _ _ (same_new hp) hp ⟨upd_same, Int.le_refl _, by decide⟩⟩
    · exact ⟨_, rfl, (by show 3 ≤ sizeLine; decide), fun p hp => k p _ _ _ (same_new hp) hp ⟨upd_same, Int.le_refl _, by decide⟩⟩
theorem scD : FnScope ["_law_well_here", "_law_often", "_law_found", "_law_mixed"] ["_law_well_here", "_law_often"] (defScope sDraw) := ⟨rfl, rfl, rfl, by decide +kernel, rfl, by decide +kernel, by decide +kernel⟩
theorem ok_draw {f : Addr} {fd : FuncData} (F : Fun K "_law_draw" "_law_draw" sDraw f fd) (T : Txt0 mg) : FnOk P w K mg base CX0 1 f fd ["_law_well_here", "_law_often"] spDraw := by
  refine F.ok scD (fun vs H Q E h => ?_) (fun cdv A outer s H vs Q E hr h => ?_)
  · obtain ⟨w, a, b, c, m, rfl, _⟩ := h
    rfl
  · obtain ⟨w, a, b, c, m, rfl, W, hc, m0, m1, k⟩ := h
    refine ⟨_, (pss_cons (ps_if (pt_cmpR op_gt (pe_ix ix_list (pv 0) pe_int (fun _ _ => rfl)) pe_int (nomark _)) (pss_cons (ps_set (i := 2) scD.nd rfl (Or.inl rfl) (pe_op op_mod (pe_callTy call_int1 (by rfl) T.int (by decide +kernel) (pa_cons (pe_ix ix_list (pv 0) pe_int (fun _ _ => rfl)) pa_nil)) (pv 1)))
        (pss_cons (ps_asg (pe_op op_fdiv (pe_ix ix_list (pv 0) pe_int (fun _ _ => rfl)) (pv 1)) (pg_sub (pv 0) pe_int set_list))
        (pss_one (ps_ret (pv 2))))) pss_nil)
      (pss_cons (ps_asg (pe_op op_add (pe_ix ix_list (pv 0) pe_int (fun _ _ => rfl)) pe_int) (pg_sub (pv 0) pe_int set_list))
      (pss_cons (ps_set (i := 3) scD.nd rfl (Or.inl rfl) (pe_op op_mod (pe_callTy call_int1 (by rfl) T.int (by decide +kernel) (pa_cons (pe_op op_add (pe_op op_add (pe_op op_mul (pe_ix ix_list (pv 0) pe_int (fun _ _ => rfl)) pe_int) (pe_op op_mul (pe_ix ix_list (pv 0) pe_int (fun _ _ => rfl)) pe_int)) pe_int) pa_nil)) pe_int))
      (pss_cons (ps_set (i := 3) scD.nd rfl (Or.inl rfl) (pe_op op_mod (pe_callTy call_int1 (by rfl) T.int (by decide +kernel) (pa_cons (pe_op op_mul (pv 3) (pe_op op_add (pe_op op_fdiv (pv 3) pe_int) pe_int)) pa_nil)) pe_int))
      (pss_cons (ps_set (i := 3) scD.nd rfl (Or.inl rfl) (pe_op op_mod (pe_callTy call_int1 (by rfl) T.int (by decide +kernel) (pa_cons (pe_op op_mul (pv 3) (pe_op op_add (pe_op op_fdiv (pv 3) pe_int) pe_int)) pa_nil)) pe_int))
      (pss_one (ps_ret (pe_op op_mod (pe_callTy call_int1 (by rfl) T.int (by decide +kernel) (pa_cons (pe_op op_fdiv (pv 3) pe_int) pa_nil)) (pv 1))))))))), ?_⟩
    refine ⟨_, rfl, w, _, _, _, rfl, rfl, SqL.of W.at_, rfl, _, _, rfl, rfl, _, rfl, ?_⟩
    refine ite2 (fun ca => ?_) (fun ca => ?_)
    · refine ⟨_, rfl, w, _, _, _, rfl, rfl, SqL.of W.at_, rfl, .inl ⟨_, rfl, _, rfl, _, _, rfl, rfl, m0, ?_⟩⟩
      refine ⟨_, rfl, w, _, _, _, rfl, rfl, SqL.of W.at_, rfl, _, rfl, _, _, rfl, rfl, ⟨m0, by omega⟩, _, rfl, w, _, _, _, rfl, rfl, W.at_, rfl, ?_⟩
      exact ⟨_, rfl, k _ _ c _ (Int.emod_nonneg _ (by omega)) (Int.emod_lt_of_pos _ m0) (by omega) ⟨upd_same, W.c0, W.c1⟩ But.upd⟩
    · refine ⟨_, rfl, w, _, _, _, rfl, rfl, SqL.of W.at_, rfl, _, _, rfl, rfl, _, rfl, w, _, _, _, rfl, rfl, W.at_, rfl, ?_⟩
      have W1 : Well (upd H w (.lst [.int a, .int b, .int (c + 1)])) w a b (c + 1) := ⟨upd_same, by have := W.c0; omega, by omega⟩
      have B1 : But w H (upd H w (.lst [.int a, .int b, .int (c + 1)])) := But.upd
      refine ⟨_, rfl, w, _, _, _, rfl, rfl, SqL.of W1.at_, rfl, _, _, rfl, rfl, .inr ⟨by decide, by decide⟩, _, rfl, w, _, _, _, rfl, rfl, SqL.of W1.at_, rfl, _, _, rfl, rfl, .inr ⟨by decide, by decide⟩, _, _, rfl, rfl, _, _, rfl, rfl, ?_⟩
      refine .inl ⟨_, rfl, _, _, rfl, rfl, (by show (0 : Int) < 2147483647; decide), ?_⟩
      have n0 := Int.emod_nonneg (b * 69073 + (c + 1) * 1000033 + 24691) (by decide : (2147483647 : Int) ≠ 0)
      have n1 := Int.emod_lt_of_pos (b * 69073 + (c + 1) * 1000033 + 24691) (by decide : (0 : Int) < 2147483647)
      refine ⟨_, rfl, _, rfl, _, _, rfl, rfl, ⟨by decide, by decide⟩, _, _, rfl, rfl, _, _, rfl, rfl, .inl ⟨by omega, by omega⟩, ?_⟩
      refine .inl ⟨_, rfl, _, _, rfl, rfl, (by show (0 : Int) < 2147483629; decide), ?_⟩
      generalize (b * 69073 + (c + 1) * 1000033 + 24691) % 2147483647 = n at n0 n1 ⊢
      have k0 := Int.emod_nonneg (n * (n / 1019 + 40529)) (by decide : (2147483629 : Int) ≠ 0)
      have k1 := Int.emod_lt_of_pos (n * (n / 1019 + 40529)) (by decide : (0 : Int) < 2147483629)
      refine ⟨_, rfl, _, rfl, _, _, rfl, rfl, ⟨by decide, by decide⟩, _, _, rfl, rfl, _, _, rfl, rfl, .inl ⟨?_, ?_⟩, ?_⟩
      · omega
      · omega
      refine .inl ⟨_, rfl, _, _, rfl, rfl, (by show (0 : Int) < 2147483587; decide), ?_⟩
      refine ⟨_, rfl, _, _, rfl, rfl, ⟨by decide, by decide⟩, .inl ⟨_, rfl, _, rfl, _, _, rfl, rfl, m0, ?_⟩⟩
      exact k _ _ _ _ (Int.emod_nonneg _ (by omega)) (Int.emod_lt_of_pos _ m0) (Int.le_refl _) W1 B1
theorem scO : FnScope ["_law_well_here", "_law_some"] ["_law_well_here", "_law_some"] (defScope sOne) := ⟨rfl, rfl, rfl, by decide +kernel, rfl, by decide +kernel, by decide +kernel⟩
theorem ok_one {f fD : Addr} {fd fdD : FuncData} (F : Fun K "_law_one" "_law_one" sOne f fd) (T : Txt0 mg) (FD : Fun K "_law_draw" "_law_draw" sDraw fD fdD) (gD : mg "_law_draw" = some (.ref fD)) (bD : Binds K fdD ["_law_well_here", "_law_often"] []) :
    FnOk P w K mg base CX0 2 f fd ["_law_well_here", "_law_some"] (spOne K) := by
  have GD : FnOk P w K mg base CX0 1 fD fdD ["_law_well_here", "_law_often"] spDraw := ok_draw FD T
  refine F.ok scO (fun vs H Q E h => ?_) (fun cdv A outer s H vs Q E hr h => ?_)
  · obtain ⟨w, l, a, b, c, xs, rfl, _⟩ := h
    rfl
  · obtain ⟨w, l, a, b, c, xs, rfl, W, hc, hl, nlw, l0, l1, k⟩ := h
    refine ⟨_, (pss_one (ps_ret (pe_ix ix_list (pv 1) (pe_call GD hr rfl gD FD.kp bD .nil pass0 (pa_cons (pv 0) (pa_cons (pe_callB call_len (by rfl) T.len (by decide +kernel) (pa_cons (pv 1) pa_nil)) pa_nil))) (fun _ _ => rfl)))), ?_⟩
    refine ⟨_, rfl, _, rfl, _, rfl, _, _, rfl, .inl ⟨_, SqL.of hl, rfl⟩, w, a, b, c, _, rfl, W, hc, by omega, by omega, fun d a' c' H' d0 d1 hc' W' B => ?_⟩
    have hl' : H' l = some (.lst xs) := B _ _ hl nlw
    have hd : d.toNat < xs.length := by omega
    refine ⟨l, xs, d, xs[d.toNat], rfl, rfl, SqL.of hl', ?_, ?_⟩
    · have z := atI_nat (xs := xs) (j := d.toNat) (v := xs[d.toNat]) (by simp [hd])
      rwa [Int.toNat_of_nonneg d0] at z
    · exact k _ a' c' H' (List.getElem_mem hd) hc' W' B
end
end K25

namespace K25
open PySem L2 XR
/-! ### a Store: what is kept (st), who has the lock (hv) -/
theorem nh : ¬ (("now" : Str) = "holder") := by decide +kernel
def flds (st : Addr) (hv : V) : List (Str × V) := putF "holder" hv (putF "now" (.ref st) [])
theorem flds_eq (st : Addr) (hv : V) : flds st hv = ([("now", V.ref st), ("holder", hv)] : List (Str × V)) := by
  show (if ("now" : Str) = "holder" then [(("now" : Str), hv)] else (("now" : Str), V.ref st) :: putF "holder" hv []) = _
  rw [if_neg nh]
  all_goals rfl
theorem flds_now (st : Addr) (hv : V) : (flds st hv).lookup ("now" : Str) = some (.ref st) := by
  unfold flds
  rw [lookup_putF, if_neg nh, lookup_putF, if_pos rfl]
theorem flds_holder (st : Addr) (hv : V) : (flds st hv).lookup ("holder" : Str) = some hv := by
  unfold flds
  rw [lookup_putF, if_pos rfl]
theorem flds_no (st : Addr) (hv : V) {m : Str} (h1 : ¬ m = "holder") (h2 : ¬ m = "now") : (flds st hv).lookup m = none := by
  unfold flds
  rw [lookup_putF, if_neg h1, lookup_putF, if_neg h2]
  all_goals rfl
theorem flds_len (st : Addr) (hv : V) : (flds st hv).length < 1000 := by
  rw [flds_eq]
  show 2 < 1000
  decide
theorem flds_puth (st : Addr) (hv y : V) : putF "holder" y (flds st hv) = flds st y := by
  rw [flds_eq, flds_eq]
  show (if ("now" : Str) = "holder" then _ else (("now" : Str), V.ref st) :: (if ("holder" : Str) = "holder" then [(("holder" : Str), y)] else _)) = _
  rw [if_neg nh, if_pos rfl]
theorem flds_putn (st t : Addr) (hv : V) : putF "now" (.ref t) (flds st hv) = flds t hv := by
  rw [flds_eq, flds_eq]
  show (if ("now" : Str) = "now" then (("now" : Str), V.ref t) :: [(("holder" : Str), hv)] else _) = _
  rw [if_pos rfl]
/-- an instance that has the field serial = n -/
def Ser (CS : Addr) (H : Hp) (s : Addr) (n : Int) : Prop := ∃ dx fs, H s = some (.ins CS dx fs) ∧ fs.lookup ("serial" : Str) = some (.int n)
theorem Ser.same {CS : Addr} {H H' : Hp} {s : Addr} {n : Int} (h : Ser CS H s n) (m : Same H H') : Ser CS H' s n := let ⟨dx, fs, a, b⟩ := h; ⟨dx, fs, m _ _ a, b⟩
/-- who may hold the lock: nobody, a text -/
def HvOk (hv : V) : Prop := hv = .non ∨ ∃ x, hv = .str x
/-- what is handed in as a holder: is it a text -/
def HdOk (K : PySem.W.Frag) (H : Hp) (h : V) (b : Bool) : Prop := (∃ ty, TyX K H h ty ∧ PySem.W.kitOne K ty (.type "str") = some b) ∧ (b = true → ∃ x, h = .str x)
/-- he holds it -/
def Has (hv h : V) (b : Bool) : Prop := hv ≠ .non ∧ b = true ∧ hv = h
structure STxt (K : PySem.W.Frag) (mg : Str → Option Value) (CT CS : Addr) : Prop where
  cl : Cls K CT
  nN : NoAttr K CT "now"
  nH : NoAttr K CT "holder"
  cs : Cls K CS
  nS : NoAttr K CS "serial"
  isi : mg "isinstance" = none
  str : mg "str" = none
def Rais (C : Addr) (fld : Str) (v : V) (H : Hp) (E : XK) : Prop := ∀ (d : Addr) (H' : Hp), H d = none → Same H H' → H' d = some (.xd [(fld, v)]) → E (.ref C) (some d) H'
def spSInit (CT : Addr) : Sp := fun vs H Q _ => ∃ (a dx st : Addr), vs = [.ref a, .ref st] ∧ H a = some (.ins CT dx []) ∧ ∀ H', But a H H' → H' a = some (.ins CT dx (flds st .non)) → Q .non H'
def spKept (CT : Addr) : Sp := fun vs H Q _ => ∃ (a dx st : Addr) (hv : V), vs = [.ref a] ∧ H a = some (.ins CT dx (flds st hv)) ∧ Q (.ref st) H
def spLock (CT CL : Addr) : Sp := fun vs H Q E => ∃ (a dx st : Addr) (hv h : V), vs = [.ref a, h] ∧ H a = some (.ins CT dx (flds st hv)) ∧
  (hv = .non → Q .non (upd H a (.ins CT dx (flds st h)))) ∧ (hv ≠ .non → Rais CL "holder" hv H E)
def spCheck (K : PySem.W.Frag) (CT CL : Addr) : Sp := fun vs H Q E => ∃ (a dx st : Addr) (hv h : V) (b : Bool), vs = [.ref a, h] ∧ H a = some (.ins CT dx (flds st hv)) ∧ HvOk hv ∧ HdOk K H h b ∧
  (Has hv h b → Q .non H) ∧ (¬ Has hv h b → Rais CL "holder" hv H E)
def spUnlock (K : PySem.W.Frag) (CT CL : Addr) : Sp := fun vs H Q E => ∃ (a dx st : Addr) (hv h : V) (b : Bool), vs = [.ref a, h] ∧ H a = some (.ins CT dx (flds st hv)) ∧ HvOk hv ∧ HdOk K H h b ∧
  (Has hv h b → Q .non (upd H a (.ins CT dx (flds st .non)))) ∧ (¬ Has hv h b → Rais CL "holder" hv H E)
def spWrite (K : PySem.W.Frag) (CT CS CL CE : Addr) : Sp := fun vs H Q E => ∃ (a dx st s : Addr) (hv h : V) (b : Bool) (n k : Int), vs = [.ref a, h, .ref s] ∧ H a = some (.ins CT dx (flds st hv)) ∧ HvOk hv ∧ HdOk K H h b ∧ Ser CS H st n ∧ Ser CS H s k ∧
  (¬ Has hv h b → Rais CL "holder" hv H E) ∧ (Has hv h b → ¬ (k = n ∨ k = n + 1) → Rais CE "serial" (.int n) H E) ∧
  (Has hv h b → (k = n ∨ k = n + 1) → ∀ H', But a H H' → H' a = some (.ins CT dx (flds s hv)) → Q .non H')
abbrev sIL : Stmt := inClass (top 3) 0
abbrev sIE : Stmt := inClass (top 4) 0
abbrev sSI : Stmt := inClass (top 6) 0
abbrev sKept : Stmt := inClass (top 6) 1
abbrev sLock : Stmt := inClass (top 6) 2
abbrev sCheck : Stmt := inClass (top 6) 3
abbrev sUnlock : Stmt := inClass (top 6) 4
abbrev sWrite : Stmt := inClass (top 6) 5
section
variable {P : Program} {w : World} {K : PySem.W.Frag} {mg : Str → Option Value} {base : Heap}
theorem scIL : FnScope ["self", "holder"] ["self", "holder"] (defScope sIL) := ⟨rfl, rfl, rfl, by decide +kernel, rfl, by decide +kernel, by decide +kernel⟩
theorem ok_IL {f C B : Addr} {fd : FuncData} {mc : Value} (F : Fun K "__init__" "Locked.__init__" sIL f fd) (T : PIni K mg "PlanError" B mc) (xc : OexC K C) (no : PySem.W.findIn K (.ref C) "holder" = some none) : FnOk P w K mg base CX0 1 f fd ["self", "holder"] (spI C "holder") := by
  refine F.ok scIL (fun vs H Q E h => ?_) (fun cdv A outer s H vs Q E hr h => ?_)
  · obtain ⟨a, v, rfl, _⟩ := h
    rfl
  · obtain ⟨a, v, rfl, ha, k⟩ := h
    refine ⟨_, pss_cons (ps_expr (pe_pinit T rfl (pa_cons (pv 0) (pa_cons pe_str pa_nil)))) (pss_one (ps_ost (pv 0) (pv 1))), ?_⟩
    exact ⟨_, rfl, a, C, _, rfl, (by show 1 ≤ 1000; decide), xc, ha, _, rfl, _, rfl, a, C, rfl, xc, no, .inl ⟨ha, fun dx hd hne => k dx _ hd hne rfl⟩⟩
theorem scIE : FnScope ["self", "serial"] ["self", "serial"] (defScope sIE) := ⟨rfl, rfl, rfl, by decide +kernel, rfl, by decide +kernel, by decide +kernel⟩
theorem ok_IE {f C B : Addr} {fd : FuncData} {mc : Value} (F : Fun K "__init__" "Stale.__init__" sIE f fd) (T : PIni K mg "PlanError" B mc) (xc : OexC K C) (no : PySem.W.findIn K (.ref C) "serial" = some none) : FnOk P w K mg base CX0 1 f fd ["self", "serial"] (spI C "serial") := by
  refine F.ok scIE (fun vs H Q E h => ?_) (fun cdv A outer s H vs Q E hr h => ?_)
  · obtain ⟨a, v, rfl, _⟩ := h
    rfl
  · obtain ⟨a, v, rfl, ha, k⟩ := h
    refine ⟨_, pss_cons (ps_expr (pe_pinit T rfl (pa_cons (pv 0) (pa_cons pe_str pa_nil)))) (pss_one (ps_ost (pv 0) (pv 1))), ?_⟩
    exact ⟨_, rfl, a, C, _, rfl, (by show 1 ≤ 1000; decide), xc, ha, _, rfl, _, rfl, a, C, rfl, xc, no, .inl ⟨ha, fun dx hd hne => k dx _ hd hne rfl⟩⟩
theorem scSI : FnScope ["self", "state"] ["self", "state"] (defScope sSI) := ⟨rfl, rfl, rfl, by decide +kernel, rfl, by decide +kernel, by decide +kernel⟩
theorem ok_SI {f CT CS : Addr} {fd : FuncData} (F : Fun K "__init__" "Store.__init__" sSI f fd) (T : STxt K mg CT CS) : FnOk P w K mg base CX0 1 f fd ["self", "state"] (spSInit CT) := by
  refine F.ok scSI (fun vs H Q E h => ?_) (fun cdv A outer s H vs Q E hr h => ?_)
  · obtain ⟨a, dx, st, rfl, _⟩ := h
    rfl
  · obtain ⟨a, dx, st, rfl, ha, k⟩ := h
    refine ⟨_, pss_cons (ps_fld (pv 0) (pv 1) rfl) (pss_one (ps_fld (pv 0) pe_non rfl)), ?_⟩
    refine ⟨_, rfl, _, rfl, a, CT, dx, [], rfl, ha, T.cl, T.nN, (by show 0 < 1000; decide), _, rfl, a, CT, dx, _, rfl, upd_same, T.cl, T.nH, (by show 1 < 1000; decide), ?_⟩
    exact k _ (But.upd.trans But.upd) upd_same
theorem scKe : FnScope ["self"] ["self"] (defScope sKept) := ⟨rfl, rfl, rfl, by decide +kernel, rfl, by decide +kernel, by decide +kernel⟩
theorem ok_kept {f CT CS : Addr} {fd : FuncData} (F : Fun K "kept" "Store.kept" sKept f fd) (T : STxt K mg CT CS) : FnOk P w K mg base CX0 1 f fd ["self"] (spKept CT) := by
  refine F.ok scKe (fun vs H Q E h => ?_) (fun cdv A outer s H vs Q E hr h => ?_)
  · obtain ⟨a, dx, st, hv, rfl, _⟩ := h
    rfl
  · obtain ⟨a, dx, st, hv, rfl, ha, k⟩ := h
    refine ⟨_, pss_one (ps_ret (pe_fld (pv 0) rfl)), ?_⟩
    exact ⟨_, rfl, a, CT, dx, _, _, rfl, ha, T.cl, T.nN, flds_now _ _, k⟩
theorem scLo : FnScope ["self", "holder"] ["self", "holder"] (defScope sLock) := ⟨rfl, rfl, rfl, by decide +kernel, rfl, by decide +kernel, by decide +kernel⟩
theorem ok_lock {f CT CS CP CL fL : Addr} {fd dL : FuncData} (F : Fun K "lock" "Store.lock" sLock f fd) (T : STxt K mg CT CS) (NL : New1 P w K mg base CP "Locked" "holder" CL fL dL) : FnOk P w K mg base (L2.CX P w) 3 f fd ["self", "holder"] (spLock CT CL) := by
  refine F.okX scLo (fun vs H Q E h => ?_) (fun cdv A outer s H vs Q E hr h => ?_)
  · obtain ⟨a, dx, st, hv, h, rfl, _⟩ := h
    rfl
  · obtain ⟨a, dx, st, hv, h, rfl, ha, k1, k2⟩ := h
    have hr2 : Room 2 _ := hr
    refine ⟨_, (pss_cons (ps_if (pt_cmpR op_notN (pe_fld (pv 0) rfl) pe_non (nomark _)) (pss_one (ps_raiseI NL rfl hr2 (takes_of rfl rfl rfl rfl) rfl (pe_fld (pv 0) rfl))) pss_nil)
      (pss_one (ps_fld (pv 0) (pv 1) rfl))), ?_⟩
    refine ⟨_, rfl, a, CT, dx, _, _, rfl, ha, T.cl, T.nH, flds_holder _ _, rfl, _, rfl, ?_⟩
    by_cases e : hv = .non
    · rw [decide_eq_true e]
      refine iteF ?_
      refine ⟨_, rfl, _, rfl, a, CT, dx, _, rfl, ha, T.cl, T.nH, flds_len _ _, ?_⟩
      rw [flds_puth]
      exact k1 e
    · rw [decide_eq_false e]
      refine iteT ?_
      exact ⟨_, rfl, a, CT, dx, _, _, rfl, ha, T.cl, T.nH, flds_holder _ _, raiseK (k2 e)⟩
theorem scCh : FnScope ["self", "holder"] ["self", "holder"] (defScope sCheck) := ⟨rfl, rfl, rfl, by decide +kernel, rfl, by decide +kernel, by decide +kernel⟩
theorem ok_check {f CT CS CP CL fL : Addr} {fd dL : FuncData} (F : Fun K "check_holder" "Store.check_holder" sCheck f fd) (T : STxt K mg CT CS) (NL : New1 P w K mg base CP "Locked" "holder" CL fL dL) : FnOk P w K mg base (L2.CX P w) 3 f fd ["self", "holder"] (spCheck K CT CL) := by
  refine F.okX scCh (fun vs H Q E h => ?_) (fun cdv A outer s H vs Q E hr h => ?_)
  · obtain ⟨a, dx, st, hv, h, b, rfl, _⟩ := h
    rfl
  · obtain ⟨a, dx, st, hv, h, b, rfl, ha, o1, ⟨⟨ty, o2, o3⟩, o4⟩, k1, k2⟩ := h
    have hr2 : Room 2 _ := hr
    refine ⟨_, (pss_one (ps_if (PW.pt (pw_or (pt_cmpR op_isN (pe_fld (pv 0) rfl) pe_non (nomark _)) (pw_or (pt_not (pt_val (pe_callB call_isi (by rfl) T.isi (by decide +kernel) (pa_cons (pv 1) (pa_cons (pe_bltn (v := .ty "str") (by rfl) T.str (by decide +kernel) rfl) pa_nil))))) (pw_or1 (pt_cmpR op_ne (pe_fld (pv 0) rfl) (pv 1) (nomark _)))))) (pss_one (ps_raiseI NL rfl hr2 (takes_of rfl rfl rfl rfl) rfl (pe_fld (pv 0) rfl))) pss_nil)), ?_⟩
    have rs : ¬ Has hv h b → RaiseK CL "holder" hv H (fun cls d H' => E cls d H') := fun n => raiseK (k2 n)
    refine ⟨_, rfl, a, CT, dx, _, _, rfl, ha, T.cl, T.nH, flds_holder _ _, rfl, _, rfl, ?_⟩
    by_cases e : hv = .non
    · rw [decide_eq_true e]
      refine iteT (iteT ?_)
      exact ⟨_, rfl, a, CT, dx, _, _, rfl, ha, T.cl, T.nH, flds_holder _ _, rs fun z => z.1 e⟩
    · rw [decide_eq_false e]
      refine iteF ?_
      refine ⟨_, rfl, _, _, ty, _, b, rfl, .ty _, o2, o3, _, rfl, ?_⟩
      cases b with
      | false =>
        refine iteT (iteT ?_)
        exact ⟨_, rfl, a, CT, dx, _, _, rfl, ha, T.cl, T.nH, flds_holder _ _, rs fun z => Bool.noConfusion z.2.1⟩
      | true =>
        obtain ⟨x, rfl⟩ := o4 rfl
        obtain ⟨y, rfl⟩ := o1.resolve_left e
        refine iteF ?_
        refine ⟨_, rfl, a, CT, dx, _, _, rfl, ha, T.cl, T.nH, flds_holder _ _, _, rfl, rfl, _, rfl, ?_⟩
        by_cases q : V.str y = V.str x
        · rw [decide_eq_true q]
          refine iteF ?_
          exact k1 ⟨e, rfl, q⟩
        · rw [decide_eq_false q]
          refine iteT ?_
          exact ⟨_, rfl, a, CT, dx, _, _, rfl, ha, T.cl, T.nH, flds_holder _ _, rs fun z => q z.2.2⟩
theorem scUn : FnScope ["self", "holder"] ["self", "holder"] (defScope sUnlock) := ⟨rfl, rfl, rfl, by decide +kernel, rfl, by decide +kernel, by decide +kernel⟩
theorem ok_unlock {f fC CT CS CP CL fL : Addr} {fd dC dL : FuncData} (F : Fun K "unlock" "Store.unlock" sUnlock f fd) (T : STxt K mg CT CS) (FC : Fun K "check_holder" "Store.check_holder" sCheck fC dC) (mCh : Meth K CT "check_holder" fC) (bCh : Binds K dC ["self", "holder"] []) (NL : New1 P w K mg base CP "Locked" "holder" CL fL dL) :
    FnOk P w K mg base (L2.CX P w) 4 f fd ["self", "holder"] (spUnlock K CT CL) := by
  have GC : FnOk P w K mg base (L2.CX P w) 3 fC dC ["self", "holder"] (spCheck K CT CL) := ok_check FC T NL
  refine F.okX scUn (fun vs H Q E h => ?_) (fun cdv A outer s H vs Q E hr h => ?_)
  · obtain ⟨a, dx, st, hv, h, b, rfl, _⟩ := h
    rfl
  · obtain ⟨a, dx, st, hv, h, b, rfl, ha, o1, o2, k1, k2⟩ := h
    have hr3 : Room 3 _ := hr
    refine ⟨_, (pss_cons (ps_expr (pe_meth (pv 0) T.cl mCh GC hr3 bCh .nil (passes_call (takes_of rfl rfl rfl rfl) (fun _ _ _ _ h => h)) (pa_cons (pv 1) pa_nil)))
      (pss_one (ps_fld (pv 0) pe_non rfl))), ?_⟩
    refine ⟨_, rfl, a, dx, _, rfl, ha, flds_no _ _ (by decide +kernel) (by decide +kernel), _, rfl, a, dx, st, hv, h, b, rfl, ha, o1, o2, fun hs => ?_, k2⟩
    refine ⟨_, rfl, a, CT, dx, _, rfl, ha, T.cl, T.nH, flds_len _ _, ?_⟩
    rw [flds_puth]
    exact k1 hs
theorem scWr : FnScope ["self", "holder", "state"] ["self", "holder", "state"] (defScope sWrite) := ⟨rfl, rfl, rfl, by decide +kernel, rfl, by decide +kernel, by decide +kernel⟩
theorem ok_write {f fC CT CS CP CL fL CE fE : Addr} {fd dC dL dE : FuncData} (F : Fun K "write" "Store.write" sWrite f fd) (T : STxt K mg CT CS) (FC : Fun K "check_holder" "Store.check_holder" sCheck fC dC) (mCh : Meth K CT "check_holder" fC) (bCh : Binds K dC ["self", "holder"] [])
    (NL : New1 P w K mg base CP "Locked" "holder" CL fL dL) (NS : New1 P w K mg base CP "Stale" "serial" CE fE dE) : FnOk P w K mg base (L2.CX P w) 4 f fd ["self", "holder", "state"] (spWrite K CT CS CL CE) := by
  have GC : FnOk P w K mg base (L2.CX P w) 3 fC dC ["self", "holder"] (spCheck K CT CL) := ok_check FC T NL
  refine F.okX scWr (fun vs H Q E h => ?_) (fun cdv A outer s H vs Q E hr h => ?_)
  · obtain ⟨a, dx, st, s, hv, h, b, n, k, rfl, _⟩ := h
    rfl
  · obtain ⟨a, dx, st, s, hv, h, b, n, k, rfl, ha, o1, o2, ⟨dn, fn, hn, ln⟩, ⟨dk, fk, hk, lk⟩, k1, k2, k3⟩ := h
    have hr3 : Room 3 _ := hr
    have hr2 : Room 2 _ := hr.mono (by decide)
    refine ⟨_, (pss_cons (ps_expr (pe_meth (pv 0) T.cl mCh GC hr3 bCh .nil (passes_call (takes_of rfl rfl rfl rfl) (fun _ _ _ _ h => h)) (pa_cons (pv 1) pa_nil)))
      (pss_cons (ps_if (pt_cmpR op_notIn_seq (pe_fld (pv 2) rfl) (pe_tup (pa_cons (pe_fld (pe_fld (pv 0) rfl) rfl) (pa_cons (pe_op op_add (pe_fld (pe_fld (pv 0) rfl) rfl) pe_int) pa_nil))) (by rfl)) (pss_one (ps_raiseI NS rfl hr2 (takes_of rfl rfl rfl rfl) rfl (pe_fld (pe_fld (pv 0) rfl) rfl))) pss_nil)
      (pss_one (ps_fld (pv 0) (pv 2) rfl)))), ?_⟩
    refine ⟨_, rfl, a, dx, _, rfl, ha, flds_no _ _ (by decide +kernel) (by decide +kernel), _, rfl, a, dx, st, hv, h, b, rfl, ha, o1, o2, fun hs => ?_, k1⟩
    refine ⟨_, rfl, s, CS, dk, fk, _, rfl, hk, T.cs, T.nS, lk, _, rfl, a, CT, dx, _, _, rfl, ha, T.cl, T.nN, flds_now _ _, st, CS, dn, fn, _, rfl, hn, T.cs, T.nS, ln, ?_⟩
    refine ⟨_, rfl, a, CT, dx, _, _, rfl, ha, T.cl, T.nN, flds_now _ _, st, CS, dn, fn, _, rfl, hn, T.cs, T.nS, ln, _, _, rfl, rfl, (by show 2 ≤ sizeLine; decide), fun t ht => ?_⟩
    have nt := same_new (o := .tup [.int n, .int (n + 1)]) ht
    have et := at_new (o := .tup [.int n, .int (n + 1)]) ht
    generalize (upd H t (.tup [.int n, .int (n + 1)])) = G at nt et ⊢
    refine ⟨t, _, rfl, .inr (SqT.of et), rfl, rfl, _, rfl, ?_⟩
    have ev : inV (.int k) [V.int n, .int (n + 1)] = decide (k = n ∨ k = n + 1) := by
      rw [Bool.eq_iff_iff]
      simp [inV, eqV]
      omega
    rw [ev]
    by_cases q : k = n ∨ k = n + 1
    · rw [decide_eq_true q]
      refine iteF ?_
      refine ⟨_, rfl, _, rfl, a, CT, dx, _, rfl, nt _ _ ha, T.cl, T.nN, flds_len _ _, ?_⟩
      rw [flds_putn]
      exact k3 hs q _ (But.trans (But.of nt) But.upd) upd_same
    · rw [decide_eq_false q]
      refine iteT ?_
      refine ⟨_, rfl, a, CT, dx, _, _, rfl, nt _ _ ha, T.cl, T.nN, flds_now _ _, st, CS, dn, fn, _, rfl, nt _ _ hn, T.cs, T.nS, ln, raiseK fun d H' hd m e => k2 hs q d H' (nt.free hd) (nt.trans m) e⟩
end
end K25

namespace XR
open PySem PySem.Spec PyProof.Rows L2
theorem pt_never {X : Cx} {e : Expr} : PT X e (fun _ _ _ => False) := ⟨fun _ _ _ _ _ _ h => h.elim⟩
def rLenX (K : PySem.W.Frag) : List V → Hp → VK → Prop := fun xs H Q => (∃ a kvs, xs = [V.ref a] ∧ H a = some (.dK kvs) ∧ Q (.int kvs.length) H) ∨ ∃ a ys, xs = [V.ref a] ∧ H a = some (.tup ys) ∧ Q (.int ys.length) H
theorem call_lenX {X : Cx} : CallR X (.builtin "len") (rLenX X.K) := by
  intro pins s σ H xs us Q I r h
  rcases h with h | ⟨a, ys, rfl, h1, q⟩
  · exact call_lenD pins s σ H xs us Q I r h
  · exact call_len pins s σ H _ us Q I r ⟨_, _, rfl, .inr ⟨_, SqT.of h1, rfl⟩, q⟩
theorem walk_zipT {K : PySem.W.Frag} {a b : Addr} {xs ys : List V} {n : Nat} (hn : n = xs.length) (hm : n = ys.length) : Walk (RZ.ItzT K a b) n (fun H => SqT K H a xs ∧ SqT K H b ys) (YPair (fun i => xs[i]?) (fun i => ys[i]?)) := by
  refine ⟨fun i _ hi q => ?_, fun _ q => ⟨xs, ys, q.1, q.2, by omega⟩, fun i H v H' _ q y => ?_⟩
  · have h1 : i < xs.length := by omega
    have h2 : i < ys.length := by omega
    exact ⟨xs, ys, xs[i], ys[i], q.1, q.2, by simp [h1], by simp [h2]⟩
  · obtain ⟨T, x, z, h1, h2, h3, h4, h5⟩ := y
    exact ⟨T, x, z, h1, h2, h3, h4 xs q.1, h5 ys q.2⟩
/-- a comprehension of a dict, over anything that is walked -/
theorem dc_it {J : It} {n : Nat} {G : Hp → Prop} {Y : Nat → Hp → V → Hp → Prop} (w : Walk J n G Y) {g : TG} {tt : TT} {tk tv : TE} {vs : List Nat} {σ : L2.St} {H1 : Hp} {D : Addr} {Qd : Hp → Prop} (Pv : Nat → Hp → Prop) (h0 : Pv 0 (upd H1 D (.dK []))) (hG : ∀ i H, i ≤ n → Pv i H → G H)
    (hs : ∀ i x H H', i < n → Pv i H → Y i H x H' → g x (wipe σ vs) H' fun σ2 H2 => wipe σ2 vs = wipe σ vs ∧ tt σ2 H2 fun b H3 =>
      if b = true then tk σ2 H3 fun y H4 => tv σ2 H4 fun z H5 => ∃ kvs k, y = kV k ∧ H5 D = some (.dK kvs) ∧ kvs.length < sizeLine ∧ Pv (i + 1) (upd H5 D (.dK (putK kvs k z))) else Pv (i + 1) H3) (hd : ∀ H, Pv n H → Qd H) :
    ∃ W : Nat → Nat → Hp → Prop, (∃ m, W 0 m (upd H1 D (.dK []))) ∧ ∀ i m H, W i m H →
      (J.stop i H ∧ Qd H) ∨ (J.go i H ∧ ∃ Nx : Hp → Prop, (∀ H', Nx H' → ∃ m', m' < m ∧ W (i + 1) m' H') ∧ ∀ x H', J.yld i H x H' → g x (wipe σ vs) H' fun σ2 H2 => wipe σ2 vs = wipe σ vs ∧ tt σ2 H2 fun b H3 =>
        if b = true then tk σ2 H3 fun y H4 => tv σ2 H4 fun z H5 => ∃ kvs k, y = kV k ∧ H5 D = some (.dK kvs) ∧ kvs.length < sizeLine ∧ Nx (upd H5 D (.dK (putK kvs k z))) else Nx H3) := by
  refine ⟨fun i m H => m = n - i ∧ i ≤ n ∧ Pv i H, ⟨n, by simp, Nat.zero_le _, h0⟩, ?_⟩
  rintro i m H ⟨rfl, hi, p⟩
  have q := hG i H hi p
  by_cases hlt : i < n
  · exact .inr ⟨w.goes i H hlt q, Pv (i + 1), fun H' p' => ⟨n - (i + 1), by omega, rfl, hlt, p'⟩, fun x H' y => hs i x H H' hlt p (w.yields i H x H' hlt q y)⟩
  · have e : i = n := by omega
    subst e
    exact .inl ⟨w.stops H q, hd H p⟩
/-- a lock is taken off: all that was there ahead of it is there again -/
theorem same_lock {H H' : Hp} {d : Addr} {od : Obj} {u : HO} (hd : H d = some u) (m : Same (upd H d (.frz od u)) H') : Same H (upd H' d u) := fun b o e => by
  by_cases hb : b = d
  · subst hb
    rw [upd_same, ← hd, e]
  · rw [upd_ne hb]
    exact m b o (by rw [upd_ne hb]; exact e)
end XR
namespace K25
open PySem L2 XR
abbrev sTag : Stmt := top 13
abbrev sSort : Stmt := top 14
abbrev sCopied : Stmt := top 15
abbrev sVEq : Stmt := inClass (top 16) 2
abbrev sEq : Stmt := top 17
abbrev sStI : Stmt := inClass (top 19) 0
abbrev sStN : Stmt := inClass (top 19) 1
abbrev sStF : Stmt := inClass (top 19) 2
abbrev copN : List Str := ["value", "item", "key"]
abbrev eqN : List Str := ["one", "other", "twins", "key", "mine", "its"]
/-- what is asked of the text -/
structure VTxt (K : PySem.W.Frag) (mg : Str → Option Value) (CV CU CS : Addr) : Prop where
  isi : mg "isinstance" = none
  len : mg "len" = none
  all : mg "all" = none
  zip : mg "zip" = none
  tuple : mg "tuple" = none
  dict : mg "dict" = none
  list : mg "list" = none
  bool : mg "bool" = none
  int : mg "int" = none
  str : mg "str" = none
  gV : mg "Valued" = some (.ref CV)
  gU : mg "Unknown" = some (.ref CU)
  kV : ∀ t ∈ ["int", "str", "dict", "tuple"], PySem.W.kitOne K (.type t) (.ref CV) = some false
  kU : ∀ t ∈ ["int", "str", "dict", "tuple"], PySem.W.kitOne K (.type t) (.ref CU) = some false
  kS : PySem.W.kitOne K (.ref CS) (.ref CV) = some true
  cs : Cls K CS
  c1 : PySem.W.findIn K (.ref CS) "__class__" = some (some (.builtin "object.__class__"))
  c2 : PySem.W.specialIn K (.builtin "object.__class__") "__get__" = some (some (.builtin "getset_descriptor.__get__"))
  c3 : PySem.W.takesIn K (.builtin "object.__class__") = some true
  c4 : PySem.W.mroIn K CS (.type "object") = some true
  nO : NoAttr K CS "objects"
  nD : NoAttr K CS "deposed"
  nU : NoAttr K CS "outputs"
  nS : NoAttr K CS "serial"
/-- a value and its type's name, its sort -/
inductive Srt (H : Hp) : V → String → Str → Prop
  | int (i : Int) : Srt H (.int i) "int" "integer"
  | str (x : Str) : Srt H (.str x) "str" "text"
  | map {a : Addr} {kvs : List (Key × V)} (h : H a = some (.dK kvs)) : Srt H (.ref a) "dict" "map"
  | fmap {a : Addr} {o : Obj} {kvs : List (Key × V)} (h : H a = some (.frz o (.dK kvs))) : Srt H (.ref a) "dict" "map"
  | tup {a : Addr} {xs : List V} (h : H a = some (.tup xs)) (hl : xs.length ≠ 3) : Srt H (.ref a) "tuple" "tuple"
theorem Srt.ty {K : PySem.W.Frag} {H : Hp} {v : V} {t : String} {z : Str} (h : Srt H v t z) : TyX K H v (.type t) := by
  cases h with
  | int i => exact .base (.int i)
  | str x => exact .base (.str x)
  | map h => exact .base (.dK h)
  | fmap h => exact .fDict h
  | tup h _ => exact .base (.tup h)
theorem Srt.mem {H : Hp} {v : V} {t : String} {z : Str} (h : Srt H v t z) : t ∈ ["int", "str", "dict", "tuple"] := by
  cases h <;> decide
def spTag : Sp := fun vs H Q _ => ∃ (a : Addr) (xs : List V), vs = [.ref a] ∧ H a = some (.tup xs) ∧ xs.length ≠ 3 ∧ Q (.bl false) H
def spSort : Sp := fun vs H Q _ => ∃ (v : V) (t : String) (z : Str), vs = [v] ∧ Srt H v t z ∧ Q (.str z) H
section
variable {P : Program} {w : World} {K : PySem.W.Frag} {mg : Str → Option Value} {base : Heap}
theorem scTg : FnScope ["thing"] ["thing"] (defScope sTag) := ⟨rfl, rfl, rfl, by decide +kernel, rfl, by decide +kernel, by decide +kernel⟩
theorem ok_tag {f CV CU CS : Addr} {fd : FuncData} (F : Fun K "is_tag" "is_tag" sTag f fd) (T : VTxt K mg CV CU CS) : FnOk P w K mg base CX0 1 f fd ["thing"] spTag := by
  refine F.ok scTg (fun vs H Q E h => ?_) (fun cdv A outer s H vs Q E hr h => ?_)
  · obtain ⟨a, xs, rfl, _⟩ := h
    rfl
  · obtain ⟨a, xs, rfl, ha, hl, k⟩ := h
    refine ⟨_, (pss_cons (ps_if (PW.pt (pw_or (pt_not (pt_val (pe_callB call_isi (by rfl) T.isi (by decide +kernel) (pa_cons (pv 0) (pa_cons (pe_bltn (v := .ty "tuple") (by rfl) T.tuple (by decide +kernel) rfl) pa_nil))))) (pw_or (pt_cmpR op_ne (pe_callB call_len (by rfl) T.len (by decide +kernel) (pa_cons (pv 0) pa_nil)) pe_int (nomark _)) (pw_or pt_never (pw_or1 pt_never))))) (pss_one (ps_ret pe_bl)) pss_nil)
      (pss_one ps_never)), ?_⟩
    refine ⟨_, rfl, _, _, _, _, true, rfl, .ty _, .base (.tup ha), kit_ty (by decide +kernel), _, rfl, ?_⟩
    refine iteF ?_
    refine ⟨_, rfl, _, _, rfl, .inr ⟨_, SqT.of ha, rfl⟩, rfl, _, rfl, ?_⟩
    have hl' : ¬ V.int (xs.length : Int) = V.int 3 := fun z => hl (by have := V.int.inj z; omega)
    rw [decide_eq_false hl']
    exact iteT (iteT k)
theorem scSo : FnScope ["value"] ["value"] (defScope sSort) := ⟨rfl, rfl, rfl, by decide +kernel, rfl, by decide +kernel, by decide +kernel⟩
theorem ok_sort {f fT CV CU CS : Addr} {fd dT : FuncData} (F : Fun K "sort_of" "sort_of" sSort f fd) (T : VTxt K mg CV CU CS) (FT : Fun K "is_tag" "is_tag" sTag fT dT) (gT : mg "is_tag" = some (.ref fT)) (bT : Binds K dT ["thing"] []) : FnOk P w K mg base CX0 2 f fd ["value"] spSort := by
  have GT : FnOk P w K mg base CX0 1 fT dT ["thing"] spTag := ok_tag FT T
  have kT := FT.kp
  refine F.ok scSo (fun vs H Q E h => ?_) (fun cdv A outer s H vs Q E hr h => ?_)
  · obtain ⟨v, t, z, rfl, _⟩ := h
    rfl
  · obtain ⟨v, t, z, rfl, hv, k⟩ := h
    refine ⟨_, (pss_cons (ps_if (pt_val (pe_callB call_isi (by rfl) T.isi (by decide +kernel) (pa_cons (pv 0) (pa_cons (pe_bltn (v := .ty "tuple") (by rfl) T.tuple (by decide +kernel) rfl) pa_nil)))) (pss_one (ps_ret (pe_ifExp (pt_val (pe_call GT hr rfl gT kT bT .nil pass0 (pa_cons (pv 0) pa_nil))) pe_str pe_str))) pss_nil)
      (pss_cons (ps_if (pt_val (pe_callB call_isi (by rfl) T.isi (by decide +kernel) (pa_cons (pv 0) (pa_cons (pe_bltn (v := .ty "bool") (by rfl) T.bool (by decide +kernel) rfl) pa_nil)))) (pss_one (ps_ret pe_str)) pss_nil)
      (pss_cons (ps_if (pt_val (pe_callB call_isi (by rfl) T.isi (by decide +kernel) (pa_cons (pv 0) (pa_cons (pe_bltn (v := .ty "int") (by rfl) T.int (by decide +kernel) rfl) pa_nil)))) (pss_one (ps_ret pe_str)) pss_nil)
      (pss_cons (ps_if (pt_val (pe_callB call_isi (by rfl) T.isi (by decide +kernel) (pa_cons (pv 0) (pa_cons (pe_bltn (v := .ty "dict") (by rfl) T.dict (by decide +kernel) rfl) pa_nil)))) (pss_one (ps_ret pe_str)) pss_nil)
      (pss_one (ps_ret (pe_ifExp (pt_val (pe_callB call_isi (by rfl) T.isi (by decide +kernel) (pa_cons (pv 0) (pa_cons (pe_bltn (v := .ty "str") (by rfl) T.str (by decide +kernel) rfl) pa_nil)))) pe_str pe_str))))))), ?_⟩
    cases hv with
    | int i =>
      refine ⟨_, rfl, _, _, _, _, false, rfl, .ty _, .base (.int i), kit_ty (by decide +kernel), _, rfl, iteF ?_⟩
      refine ⟨_, rfl, _, _, _, _, false, rfl, .ty _, .base (.int i), kit_ty (by decide +kernel), _, rfl, iteF ?_⟩
      exact ⟨_, rfl, _, _, _, _, true, rfl, .ty _, .base (.int i), kit_ty (by decide +kernel), _, rfl, iteT k⟩
    | str x =>
      refine ⟨_, rfl, _, _, _, _, false, rfl, .ty _, .base (.str x), kit_ty (by decide +kernel), _, rfl, iteF ?_⟩
      refine ⟨_, rfl, _, _, _, _, false, rfl, .ty _, .base (.str x), kit_ty (by decide +kernel), _, rfl, iteF ?_⟩
      refine ⟨_, rfl, _, _, _, _, false, rfl, .ty _, .base (.str x), kit_ty (by decide +kernel), _, rfl, iteF ?_⟩
      refine ⟨_, rfl, _, _, _, _, false, rfl, .ty _, .base (.str x), kit_ty (by decide +kernel), _, rfl, iteF ?_⟩
      exact ⟨_, rfl, _, _, _, _, true, rfl, .ty _, .base (.str x), kit_ty (by decide +kernel), _, rfl, iteT k⟩
    | @map a kvs h =>
      refine ⟨_, rfl, _, _, _, _, false, rfl, .ty _, .base (.dK h), kit_ty (by decide +kernel), _, rfl, iteF ?_⟩
      refine ⟨_, rfl, _, _, _, _, false, rfl, .ty _, .base (.dK h), kit_ty (by decide +kernel), _, rfl, iteF ?_⟩
      refine ⟨_, rfl, _, _, _, _, false, rfl, .ty _, .base (.dK h), kit_ty (by decide +kernel), _, rfl, iteF ?_⟩
      exact ⟨_, rfl, _, _, _, _, true, rfl, .ty _, .base (.dK h), kit_ty (by decide +kernel), _, rfl, iteT k⟩
    | @fmap a o kvs h =>
      refine ⟨_, rfl, _, _, _, _, false, rfl, .ty _, .fDict h, kit_ty (by decide +kernel), _, rfl, iteF ?_⟩
      refine ⟨_, rfl, _, _, _, _, false, rfl, .ty _, .fDict h, kit_ty (by decide +kernel), _, rfl, iteF ?_⟩
      refine ⟨_, rfl, _, _, _, _, false, rfl, .ty _, .fDict h, kit_ty (by decide +kernel), _, rfl, iteF ?_⟩
      exact ⟨_, rfl, _, _, _, _, true, rfl, .ty _, .fDict h, kit_ty (by decide +kernel), _, rfl, iteT k⟩
    | @tup a xs h hl =>
      refine ⟨_, rfl, _, _, _, _, true, rfl, .ty _, .base (.tup h), kit_ty (by decide +kernel), _, rfl, iteT ?_⟩
      exact ⟨_, rfl, a, xs, rfl, h, hl, _, rfl, iteF k⟩
end
end K25

namespace K25
open PySem L2 XR
/-- a map of texts to numbers -/
structure FlatK (kvs : List (Key × V)) : Prop where
  nd : (kvs.map (·.1)).Nodup
  vals : ∀ p ∈ kvs, ∃ (x : Str) (i : Int), p = (Sum.inr x, V.int i)
  len : kvs.length ≤ 100
theorem valV_at {kvs : List (Key × V)} (nd : (kvs.map (·.1)).Nodup) : ∀ {i : Nat} {k : Key} {v : V}, kvs[i]? = some (k, v) → valV kvs k = some v := by
  induction kvs with
  | nil => intro i k v h; simp at h
  | cons p r ih =>
    intro i k v h
    obtain ⟨k0, v0⟩ := p
    rw [List.map_cons, List.nodup_cons] at nd
    cases i with
    | zero =>
      simp at h
      obtain ⟨rfl, rfl⟩ := h
      simp [valV]
    | succ i =>
      have h' : r[i]? = some (k, v) := by simpa using h
      have hm : k ∈ r.map (·.1) := List.mem_map.mpr ⟨(k, v), List.mem_of_getElem? h', rfl⟩
      have hne : ¬ k0 = k := fun z => nd.1 (z ▸ hm)
      have := ih nd.2 h'
      unfold valV at this ⊢
      rw [List.find?_cons_of_neg (by simpa using hne)]
      exact this
theorem nodup_at {α : Type} {l : List α} (hN : l.Nodup) {i j : Nat} {x : α} (a : l[i]? = some x) (b : l[j]? = some x) : i = j := by
  obtain ⟨h1, e1⟩ := List.getElem?_eq_some_iff.mp a
  obtain ⟨h2, e2⟩ := List.getElem?_eq_some_iff.mp b
  exact (List.getElem_inj hN).mp (e1.trans e2.symm)
theorem valV_take {kvs : List (Key × V)} (nd : (kvs.map (·.1)).Nodup) {i : Nat} {k : Key} {v : V} (h : kvs[i]? = some (k, v)) (g : Key × V → Key × V) (hg : ∀ p, (g p).1 = p.1) : valV ((kvs.take i).map g) k = none := by
  have hi : i < kvs.length := (List.getElem?_eq_some_iff.mp h).1
  unfold valV
  rw [Option.map_eq_none_iff, List.find?_eq_none]
  intro q hq z
  obtain ⟨p, hp, rfl⟩ := List.mem_map.mp hq
  have z' : p.1 = k := by
    rw [← hg p]
    simpa using z
  obtain ⟨j, hj⟩ := List.mem_iff_getElem?.mp hp
  have hj1 : j < i := by
    have := (List.getElem?_eq_some_iff.mp hj).1
    rw [List.length_take] at this
    omega
  rw [List.getElem?_take_of_lt hj1] at hj
  have e1 : (kvs.map (·.1))[j]? = some k := by rw [List.getElem?_map, hj]; exact congrArg some z'
  have e2 : (kvs.map (·.1))[i]? = some k := by rw [List.getElem?_map, h]; rfl
  have := nodup_at nd e1 e2
  omega
theorem take_next {α : Type} {l : List α} {i : Nat} {x : α} (h : l[i]? = some x) : l.take (i + 1) = l.take i ++ [x] := by
  rw [List.take_succ, h]
  rfl
def spCop0 : Sp := fun vs H Q _ => ∃ i : Int, vs = [.int i] ∧ Q (.int i) H
def spCop1 : Sp := fun vs H Q _ => ∃ (d : Addr) (kvs : List (Key × V)), vs = [.ref d] ∧ H d = some (.dK kvs) ∧ FlatK kvs ∧ ∀ (q : Addr) (H' : Hp), Same H H' → H' q = some (.dK kvs) → Q (.ref q) H'
section
variable {P : Program} {w : World} {K : PySem.W.Frag} {mg : Str → Option Value} {base : Heap}
theorem scCo : FnScope copN ["value"] (defScope sCopied) := ⟨rfl, rfl, rfl, by decide +kernel, rfl, by decide +kernel, by decide +kernel⟩
theorem ok_cop0 {f CV CU CS : Addr} {fd : FuncData} (F : Fun K "copied" "copied" sCopied f fd) (T : VTxt K mg CV CU CS) : FnOk P w K mg base CX0 1 f fd ["value"] spCop0 := by
  refine F.ok scCo (fun vs H Q E h => ?_) (fun cdv A outer s H vs Q E hr h => ?_)
  · obtain ⟨i, rfl, _⟩ := h
    rfl
  · obtain ⟨i, rfl, k⟩ := h
    refine ⟨_, pss_cons (ps_if (pt_val (pe_callB call_isi (by rfl) T.isi (by decide +kernel) (pa_cons (pv 0) (pa_cons (pe_bltn (v := .ty "tuple") (by rfl) T.tuple (by decide +kernel) rfl) pa_nil)))) pss_never pss_nil)
      (pss_cons (ps_if (pt_val (pe_callB call_isi (by rfl) T.isi (by decide +kernel) (pa_cons (pv 0) (pa_cons (pe_bltn (v := .ty "dict") (by rfl) T.dict (by decide +kernel) rfl) pa_nil)))) pss_never pss_nil) (pss_one (ps_ret (pv 0)))), ?_⟩
    refine ⟨_, rfl, _, _, _, _, false, rfl, .ty _, .base (.int i), kit_ty (by decide +kernel), _, rfl, iteF ?_⟩
    refine ⟨_, rfl, _, _, _, _, false, rfl, .ty _, .base (.int i), kit_ty (by decide +kernel), _, rfl, iteF ?_⟩
    exact ⟨_, rfl, k⟩
theorem ok_cop1 {f CV CU CS : Addr} {fd : FuncData} (F : Fun K "copied" "copied" sCopied f fd) (T : VTxt K mg CV CU CS) (gC : mg "copied" = some (.ref f)) (bC : Binds K fd ["value"] []) : FnOk P w K mg base CX0 2 f fd ["value"] spCop1 := by
  have GC : FnOk P w K mg base CX0 1 f fd ["value"] spCop0 := ok_cop0 F T
  have kC := F.kp
  refine F.ok scCo (fun vs H Q E h => ?_) (fun cdv A outer s H vs Q E hr h => ?_)
  · obtain ⟨d, kvs, rfl, _⟩ := h
    rfl
  · obtain ⟨d, kvs, rfl, hd, fk, k⟩ := h
    have hu := hu_of hr
    refine ⟨_, (pss_cons (ps_if (pt_val (pe_callB call_isi (by rfl) T.isi (by decide +kernel) (pa_cons (pv 0) (pa_cons (pe_bltn (v := .ty "tuple") (by rfl) T.tuple (by decide +kernel) rfl) pa_nil)))) pss_never pss_nil)
      (pss_cons (ps_if (pt_val (pe_callB call_isi (by rfl) T.isi (by decide +kernel) (pa_cons (pv 0) (pa_cons (pe_bltn (v := .ty "dict") (by rfl) T.dict (by decide +kernel) rfl) pa_nil)))) (pss_one (ps_ret (pe_lock (pe_dc (own := [("key", 2)]) (g := gName 2) (tt := tYes) rfl scCo.nd (pi_keys (pv 0)) (blkOk_by (own := [("key", 2)]) (N := copN) (sc := defScope sCopied) (by decide +kernel)) (fun _ _ _ _ _ => pg_name (i := 2) scCo.nd rfl (Or.inl rfl)) (fun _ _ _ _ _ => pts_nil) (fun _ _ _ _ _ => (pv 2)) (fun _ _ _ _ _ => (pe_call GC hr rfl gC kC bC .nil pass0 (pa_cons (pe_dget hu (pv 0) (pv 2) (fun _ _ => rfl)) pa_nil))))))) pss_nil)
      (pss_one (ps_ret (pv 0))))), ?_⟩
    refine ⟨_, rfl, _, _, _, _, false, rfl, .ty _, .base (.dK hd), kit_ty (by decide +kernel), _, rfl, iteF ?_⟩
    refine ⟨_, rfl, _, _, _, _, true, rfl, .ty _, .base (.dK hd), kit_ty (by decide +kernel), _, rfl, iteT ?_⟩
    refine ⟨d, _, hd, trivial, fun od => ?_⟩
    refine ⟨_, rfl, d, od, rfl, .inl ⟨kvs, upd_same, fun D hD => ?_⟩⟩
    refine dc_it walk_keys (fun i H2 => Same (upd H d (.frz od (.dK kvs))) H2 ∧ H2 D = some (.dK (kvs.take i))) ⟨same_new hD, upd_same⟩ (fun i H2 _ q => q.1 _ _ upd_same) ?_ ?_
    · rintro i x H2 H3 hi ⟨m, fD⟩ ⟨rfl, k0, v0, ek, rfl⟩
      obtain ⟨x, n, e⟩ := fk.vals _ (List.mem_of_getElem? ek)
      cases e
      have nDd : ∀ b o, (upd H d (.frz od (.dK kvs))) b = some o → b ≠ D := fun b o q => ne_of_none q hD
      refine ⟨rfl, _, rfl, _, rfl, _, rfl, d, .int n, rfl, .inl ⟨kvs, Sum.inr x, .inr ⟨od, m _ _ upd_same⟩, rfl, (valV_at fk.nd ek).symm⟩, n, rfl, _, Sum.inr x, rfl, fD, ?_, fun b o q => ?_, ?_⟩
      · rw [List.length_take]
        have := fk.len
        exact small1000 (by omega)
      · rw [upd_ne (nDd b o q)]
        exact m b o q
      · have e1 := valV_take fk.nd ek id (fun _ => rfl)
        rw [List.map_id] at e1
        rw [upd_same, putK_new _ e1, take_next ek]
    · rintro H2 ⟨m, fD⟩
      rw [List.take_length] at fD
      have nD : D ≠ d := fun z => by
        rw [z, upd_same] at hD
        cases hD
      exact ⟨m _ _ upd_same, k D _ (same_lock hd m) (by rw [upd_ne nD]; exact fD)⟩
end
end K25

namespace K25
open PySem L2 XR
abbrev EqRel := Hp → V → V → Prop
def A0 (v u : V) : Prop := v = u ∧ ((∃ i, v = .int i) ∨ ∃ x, v = .str x)
inductive Nxt (A : EqRel) (H : Hp) : V → V → Prop
  | flat {v u : V} (h : A0 v u) : Nxt A H v u
  | map {d : Addr} {kvs : List (Key × V)} (h : H d = some (.dK kvs)) (fk : FlatK kvs) (hA : ∀ v u H, A0 v u → A H v u) : Nxt A H (.ref d) (.ref d)
  | tup {t s : Addr} {xs : List V} (h : H t = some (.tup xs)) (h2 : H s = some (.tup xs)) (hl : xs.length ≠ 3) (hz : xs.length ≤ 100) (hA : ∀ x ∈ xs, A H x x) (mon : ∀ H H' v u, Same H H' → A H v u → A H' v u) : Nxt A H (.ref t) (.ref s)
theorem Nxt.srt {A : EqRel} {H : Hp} {v u : V} (h : Nxt A H v u) : ∃ t z, Srt H v t z ∧ Srt H u t z := by
  cases h with
  | flat h =>
    obtain ⟨rfl, h⟩ := h
    rcases h with ⟨i, rfl⟩ | ⟨x, rfl⟩
    · exact ⟨_, _, .int i, .int i⟩
    · exact ⟨_, _, .str x, .str x⟩
  | map h _ _ => exact ⟨_, _, .map h, .map h⟩
  | tup h h2 hl _ _ _ => exact ⟨_, _, .tup h hl, .tup h2 hl⟩
def spEqP (A : EqRel) : Sp := fun vs H Q _ => ∃ v u : V, vs = [v, u] ∧ A H v u ∧ ∀ H', Same H H' → Q (.bl true) H'
theorem all_true (n : Nat) : ((List.replicate n true).all id) = true := by
  rw [List.all_eq_true]
  intro x hx
  exact (List.mem_replicate.mp hx).2
theorem rep_next (n : Nat) : (List.replicate n true).map V.bl ++ [V.bl true] = (List.replicate (n + 1) true).map V.bl := by
  rw [List.replicate_succ', List.map_append]
  rfl
section
variable {P : Program} {w : World} {K : PySem.W.Frag} {mg : Str → Option Value} {base : Heap}
theorem scEq : FnScope eqN ["one", "other"] (defScope sEq) := ⟨rfl, rfl, rfl, by decide +kernel, rfl, by decide +kernel, by decide +kernel⟩
theorem eq_none {k : Nat} {f : Addr} {fd : FuncData} : FnOk P w K mg base CX0 k f fd ["one", "other"] (spEqP fun _ _ _ => False) := ⟨fun _ _ _ _ ⟨_, _, _, z, _⟩ => z.elim, fun _ _ _ _ _ _ _ _ _ _ _ _ _ ⟨_, _, _, z, _⟩ => z.elim⟩
theorem ok_eqN {f fS CV CU CS : Addr} {fd dS : FuncData} {k : Nat} {A : EqRel} (F : Fun K "are_equal" "are_equal" sEq f fd) (T : VTxt K mg CV CU CS) (gE : mg "are_equal" = some (.ref f)) (bE : Binds K fd ["one", "other"] [])
    (GS : FnOk P w K mg base CX0 2 fS dS ["value"] spSort) (gS : mg "sort_of" = some (.ref fS)) (kS : PySem.W.keepIn K (.ref fS) = true) (bS : Binds K dS ["value"] []) (hk : 2 ≤ k)
    (GE : FnOk P w K mg base CX0 k f fd ["one", "other"] (spEqP A)) : FnOk P w K mg base CX0 (k + 1) f fd ["one", "other"] (spEqP (Nxt A)) := by
  have kE := F.kp
  refine F.ok scEq (fun vs H Q E h => ?_) (fun cdv A' outer s H vs Q E hr h => ?_)
  · obtain ⟨v, u, rfl, _⟩ := h
    rfl
  · obtain ⟨v, u, rfl, hN, kk⟩ := h
    have hu := hu_of hr
    have hr2 : Room 2 _ := hr.mono hk
    refine ⟨_, (pss_cons (ps_if (PW.pt (pw_or (pt_val (pe_callB call_isi (by rfl) T.isi (by decide +kernel) (pa_cons (pv 0) (pa_cons (pe_glob (v := .ref CV) rfl T.gV rfl) pa_nil)))) (pw_or1 (pt_val (pe_callB call_isi (by rfl) T.isi (by decide +kernel) (pa_cons (pv 1) (pa_cons (pe_glob (v := .ref CV) rfl T.gV rfl) pa_nil))))))) pss_never pss_nil)
      (pss_cons (ps_if (PW.pt (pw_or (pt_val (pe_callB call_isi (by rfl) T.isi (by decide +kernel) (pa_cons (pv 0) (pa_cons (pe_glob (v := .ref CU) rfl T.gU rfl) pa_nil)))) (pw_or1 (pt_val (pe_callB call_isi (by rfl) T.isi (by decide +kernel) (pa_cons (pv 1) (pa_cons (pe_glob (v := .ref CU) rfl T.gU rfl) pa_nil))))))) pss_never pss_nil)
      (pss_cons (ps_if (PW.pt (pw_or (pt_val (pe_callB call_isi (by rfl) T.isi (by decide +kernel) (pa_cons (pv 0) (pa_cons (pe_bltn (v := .ty "list") (by rfl) T.list (by decide +kernel) rfl) pa_nil)))) (pw_or1 (pt_val (pe_callB call_isi (by rfl) T.isi (by decide +kernel) (pa_cons (pv 1) (pa_cons (pe_bltn (v := .ty "list") (by rfl) T.list (by decide +kernel) rfl) pa_nil))))))) pss_never pss_nil)
      (pss_cons (ps_if (pt_cmpR op_ne (pe_call GS hr2 rfl gS kS bS .nil pass0 (pa_cons (pv 0) pa_nil)) (pe_call GS hr2 rfl gS kS bS .nil pass0 (pa_cons (pv 1) pa_nil)) (nomark _)) (pss_one (ps_ret pe_bl)) pss_nil)
      (pss_cons (ps_if (pt_val (pe_callB call_isi (by rfl) T.isi (by decide +kernel) (pa_cons (pv 0) (pa_cons (pe_bltn (v := .ty "dict") (by rfl) T.dict (by decide +kernel) rfl) pa_nil)))) (pss_cons (ps_set (i := 2) scEq.nd rfl (Or.inr rfl) (pe_lock (pe_dc (own := [("key", 3)]) (g := gName 3) (tt := tYes) rfl scEq.nd (pi_keys (pv 1)) (blkOk_by (own := [("key", 3)]) (N := eqN) (sc := defScope sEq) (by decide +kernel)) (fun _ _ _ _ _ => pg_name (i := 3) scEq.nd rfl (Or.inl rfl)) (fun _ _ _ _ _ => pts_nil) (fun _ _ _ _ _ => (pv 3)) (fun _ _ _ _ _ => (pv 3)))))
        (pss_cons (ps_if (PW.pt (pw_or (pt_cmpR op_ne (pe_callB call_lenX (by rfl) T.len (by decide +kernel) (pa_cons (pv 0) pa_nil)) (pe_callB call_lenX (by rfl) T.len (by decide +kernel) (pa_cons (pv 1) pa_nil)) (nomark _)) (pw_or1 (pt_not (pt_val (pe_callB (cr_all rfl) (by rfl) T.all (by decide +kernel) (pa_cons (pe_lock (pe_lc (own := [("key", 3)]) (g := gName 3) (tt := tYes) rfl scEq.nd (pi_keys (pv 0)) (blkOk_by (own := [("key", 3)]) (N := eqN) (sc := defScope sEq) (by decide +kernel)) (fun _ _ _ _ _ => pg_name (i := 3) scEq.nd rfl (Or.inl rfl)) (fun _ _ _ _ _ => pts_nil) (fun _ _ _ _ _ => (pe_and (pe_cmp (pc_din hu (pv 3) (pv 2)) (by rfl)) (pe_one (pe_call GE hr rfl gE kE bE .nil pass0 (pa_cons (pv 3) (pa_cons (pe_dget hu (pv 2) (pv 3) (fun _ _ => rfl)) pa_nil)))))))) pa_nil))))))) (pss_one (ps_ret pe_bl)) pss_nil)
        (pss_one (ps_ret (pe_callB (cr_all rfl) (by rfl) T.all (by decide +kernel) (pa_cons (pe_lock (pe_lc (own := [("key", 3)]) (g := gName 3) (tt := tYes) rfl scEq.nd (pi_keys (pv 0)) (blkOk_by (own := [("key", 3)]) (N := eqN) (sc := defScope sEq) (by decide +kernel)) (fun _ _ _ _ _ => pg_name (i := 3) scEq.nd rfl (Or.inl rfl)) (fun _ _ _ _ _ => pts_nil) (fun _ _ _ _ _ => (pe_call GE hr rfl gE kE bE .nil pass0 (pa_cons (pe_dget hu (pv 0) (pv 3) (fun _ _ => rfl)) (pa_cons (pe_dget hu (pv 1) (pv 3) (fun _ _ => rfl)) pa_nil)))))) pa_nil)))))) pss_nil)
      (pss_cons (ps_if (pt_val (pe_callB call_isi (by rfl) T.isi (by decide +kernel) (pa_cons (pv 0) (pa_cons (pe_bltn (v := .ty "tuple") (by rfl) T.tuple (by decide +kernel) rfl) pa_nil)))) (pss_one (ps_ret (pe_and (pe_cmpR op_eq (pe_callB call_lenX (by rfl) T.len (by decide +kernel) (pa_cons (pv 0) pa_nil)) (pe_callB call_lenX (by rfl) T.len (by decide +kernel) (pa_cons (pv 1) pa_nil)) (nomark _)) (pe_one (pe_callB (cr_all rfl) (by rfl) T.all (by decide +kernel) (pa_cons (pe_lc (own := [("mine", 4), ("its", 5)]) (g := gTup K 2 (gCons (gName 4) (gCons (gName 5) gNil))) (tt := tYes) rfl scEq.nd (RZ.pi_zipA (by rfl) T.zip (pa_cons (pv 0) (pa_cons (pv 1) pa_nil))) (blkOk_by (own := [("mine", 4), ("its", 5)]) (N := eqN) (sc := defScope sEq) (by decide +kernel)) (fun _ _ _ _ _ => (pg_tup rfl (pgs_cons (pg_name (i := 4) scEq.nd rfl (Or.inl rfl)) (pgs_cons (pg_name (i := 5) scEq.nd rfl (Or.inl rfl)) pgs_nil)))) (fun _ _ _ _ _ => pts_nil) (fun _ _ _ _ _ => (pe_call GE hr rfl gE kE bE .nil pass0 (pa_cons (pv 4) (pa_cons (pv 5) pa_nil))))) pa_nil)))))) pss_nil)
      (pss_one (ps_ret (pe_cmpR op_eq (pv 0) (pv 1) (nomark _)))))))))), ?_⟩
    obtain ⟨t, z, s1, s2⟩ := hN.srt
    -- no Valued, no Unknown, no list
    refine ⟨_, rfl, _, _, _, _, false, rfl, .own _, s1.ty, T.kV _ s1.mem, _, rfl, iteF ?_⟩
    refine ⟨_, rfl, _, _, _, _, false, rfl, .own _, s2.ty, T.kV _ s2.mem, _, rfl, iteF ?_⟩
    refine ⟨_, rfl, _, _, _, _, false, rfl, .own _, s1.ty, T.kU _ s1.mem, _, rfl, iteF ?_⟩
    refine ⟨_, rfl, _, _, _, _, false, rfl, .own _, s2.ty, T.kU _ s2.mem, _, rfl, iteF ?_⟩
    have kl : PySem.W.kitOne K (.type t) (.type "list") = some false := by cases s1 <;> exact kit_ty (by decide +kernel)
    refine ⟨_, rfl, _, _, _, _, false, rfl, .ty _, s1.ty, kl, _, rfl, iteF ?_⟩
    refine ⟨_, rfl, _, _, _, _, false, rfl, .ty _, s2.ty, kl, _, rfl, iteF ?_⟩
    -- the sorts are alike
    refine ⟨_, rfl, v, t, z, rfl, s1, _, rfl, u, t, z, rfl, s2, rfl, _, rfl, iteNS rfl ?_⟩
    cases hN with
    | flat h =>
      obtain ⟨rfl, h⟩ := h
      rcases h with ⟨i, rfl⟩ | ⟨x, rfl⟩
      · refine ⟨_, rfl, _, _, _, _, false, rfl, .ty _, .base (.int i), kit_ty (by decide +kernel), _, rfl, iteF ?_⟩
        refine ⟨_, rfl, _, _, _, _, false, rfl, .ty _, .base (.int i), kit_ty (by decide +kernel), _, rfl, iteF ?_⟩
        refine ⟨_, rfl, _, rfl, rfl, ?_⟩
        rw [decide_eq_true rfl]
        exact kk H (Same.refl H)
      · refine ⟨_, rfl, _, _, _, _, false, rfl, .ty _, .base (.str x), kit_ty (by decide +kernel), _, rfl, iteF ?_⟩
        refine ⟨_, rfl, _, _, _, _, false, rfl, .ty _, .base (.str x), kit_ty (by decide +kernel), _, rfl, iteF ?_⟩
        refine ⟨_, rfl, _, rfl, rfl, ?_⟩
        rw [decide_eq_true rfl]
        exact kk H (Same.refl H)
    | @map d kvs hd fk hA =>
      refine ⟨_, rfl, _, _, _, _, true, rfl, .ty _, .base (.dK hd), kit_ty (by decide +kernel), _, rfl, iteT ?_⟩
      -- twins
      refine ⟨d, _, hd, trivial, fun od => ?_⟩
      refine ⟨_, rfl, d, od, rfl, .inl ⟨kvs, upd_same, fun D hD => ?_⟩⟩
      refine dc_it walk_keys (fun i H2 => Same (upd H d (.frz od (.dK kvs))) H2 ∧ H2 D = some (.dK ((kvs.take i).map fun p => (p.1, kV p.1)))) ⟨same_new hD, upd_same⟩ (fun i H2 _ q => q.1 _ _ upd_same) ?_ ?_
      · rintro i x H2 H3 hi ⟨m, fD⟩ ⟨rfl, k0, v0, ek, rfl⟩
        have nDd : ∀ b o, (upd H d (.frz od (.dK kvs))) b = some o → b ≠ D := fun b o q => ne_of_none q hD
        refine ⟨rfl, _, rfl, _, rfl, _, k0, rfl, fD, ?_, fun b o q => ?_, ?_⟩
        · rw [List.length_map, List.length_take]
          have := fk.len
          exact small1000 (by omega)
        · rw [upd_ne (nDd b o q)]
          exact m b o q
        · have e1 := valV_take fk.nd ek (fun p => (p.1, kV p.1)) (fun _ => rfl)
          rw [upd_same, putK_new _ e1, take_next ek, List.map_append]
          rfl
      · rintro H2 ⟨m, fD⟩
        rw [List.take_length] at fD
        have nD : D ≠ d := fun z => by
          rw [z, upd_same] at hD
          cases hD
        refine ⟨m _ _ upd_same, ?_⟩
        have m1 : Same H (upd H2 d (.dK kvs)) := same_lock hd m
        have g1 : (upd H2 d (.dK kvs)) D = some (.dK (kvs.map fun p => (p.1, kV p.1))) := by rw [upd_ne nD]; exact fD
        have d1 : (upd H2 d (.dK kvs)) d = some (.dK kvs) := upd_same
        generalize (upd H2 d (.dK kvs)) = G1 at m1 g1 d1 ⊢
        have ndT : ((kvs.map fun p => (p.1, kV p.1)).map (·.1)).Nodup := by
          rw [List.map_map]
          exact fk.nd
        refine ⟨_, rfl, .inl ⟨d, kvs, rfl, d1, _, rfl, .inl ⟨d, kvs, rfl, d1, rfl, _, rfl, iteNS rfl ?_⟩⟩⟩
        -- all keys are equal
        refine ⟨d, _, d1, trivial, fun oe => ?_⟩
        refine ⟨_, rfl, d, oe, rfl, .inl ⟨kvs, upd_same, fun D2 hD2 => ?_⟩⟩
        refine lc_it walk_keys (fun i H2 => Same (upd G1 d (.frz oe (.dK kvs))) H2 ∧ H2 D2 = some (.lst ((List.replicate i true).map V.bl))) ⟨same_new hD2, upd_same⟩ (fun i H2 _ q => q.1 _ _ upd_same) ?_ ?_
        · rintro i x H2 H3 hi ⟨m2, f2⟩ ⟨rfl, k0, v0, ek, rfl⟩
          obtain ⟨x, n, e⟩ := fk.vals _ (List.mem_of_getElem? ek)
          cases e
          have gT := m2 D _ (by rw [upd_ne nD]; exact g1)
          have eT : (kvs.map fun p => (p.1, kV p.1))[i]? = some (Sum.inr x, V.str x) := by rw [List.getElem?_map, ek]; rfl
          have gv := valV_at ndT eT
          refine ⟨rfl, _, rfl, _, rfl, D, some (.str x), rfl, .inl ⟨_, Sum.inr x, .inl gT, rfl, gv.symm⟩, true, rfl, iteT ?_⟩
          refine ⟨_, rfl, _, rfl, _, rfl, D, .str x, rfl, .inl ⟨_, Sum.inr x, .inl gT, rfl, gv.symm⟩, .str x, .str x, rfl, hA _ _ _ ⟨rfl, .inr ⟨x, rfl⟩⟩, fun H4 m4 => ?_⟩
          refine ⟨_, m4 _ _ f2, ?_, fun b o q => ?_, ?_⟩
          · rw [List.length_map, List.length_replicate]
            have := fk.len
            exact small1000 (by omega)
          · rw [upd_ne (ne_of_none q hD2)]
            exact m4 _ _ (m2 b o q)
          · rw [upd_same, rep_next]
        · rintro H3 ⟨m2, f2⟩
          have nD2 : D2 ≠ d := fun z => by
            rw [z, upd_same] at hD2
            cases hD2
          refine ⟨m2 _ _ upd_same, ?_⟩
          have m3 : Same G1 (upd H3 d (.dK kvs)) := same_lock d1 m2
          have f3 : (upd H3 d (.dK kvs)) D2 = some (.lst ((List.replicate kvs.length true).map V.bl)) := by rw [upd_ne nD2]; exact f2
          have d3 := m3 _ _ d1
          generalize (upd H3 d (.dK kvs)) = G3 at m3 f3 d3 ⊢
          refine ⟨D2, _, rfl, SqL.of f3, _, rfl, ?_⟩
          rw [all_true]
          refine iteF ?_
          -- all items are equal
          refine ⟨d, _, d3, trivial, fun og => ?_⟩
          refine ⟨_, rfl, d, og, rfl, .inl ⟨kvs, upd_same, fun D4 hD4 => ?_⟩⟩
          refine lc_it walk_keys (fun i H2 => Same (upd G3 d (.frz og (.dK kvs))) H2 ∧ H2 D4 = some (.lst ((List.replicate i true).map V.bl))) ⟨same_new hD4, upd_same⟩ (fun i H2 _ q => q.1 _ _ upd_same) ?_ ?_
          · rintro i x H5 H6 hi ⟨m5, f5⟩ ⟨rfl, k0, v0, ek, rfl⟩
            obtain ⟨x, n, e⟩ := fk.vals _ (List.mem_of_getElem? ek)
            cases e
            have gd := m5 d _ upd_same
            have gv := valV_at fk.nd ek
            refine ⟨rfl, _, rfl, _, rfl, d, .int n, rfl, .inl ⟨_, Sum.inr x, .inr ⟨og, gd⟩, rfl, gv.symm⟩, ?_⟩
            refine ⟨_, rfl, _, rfl, d, .int n, rfl, .inl ⟨_, Sum.inr x, .inr ⟨og, gd⟩, rfl, gv.symm⟩, .int n, .int n, rfl, hA _ _ _ ⟨rfl, .inl ⟨n, rfl⟩⟩, fun H7 m7 => ?_⟩
            refine ⟨_, m7 _ _ f5, ?_, fun b o q => ?_, ?_⟩
            · rw [List.length_map, List.length_replicate]
              have := fk.len
              exact small1000 (by omega)
            · rw [upd_ne (ne_of_none q hD4)]
              exact m7 _ _ (m5 b o q)
            · rw [upd_same, rep_next]
          · rintro H5 ⟨m5, f5⟩
            have nD4 : D4 ≠ d := fun z => by
              rw [z, upd_same] at hD4
              cases hD4
            refine ⟨m5 _ _ upd_same, ?_⟩
            have m6 : Same G3 (upd H5 d (.dK kvs)) := same_lock d3 m5
            refine ⟨D4, _, rfl, SqL.of (by rw [upd_ne nD4]; exact f5), ?_⟩
            rw [all_true]
            exact kk _ ((m1.trans m3).trans m6)
    | @tup t s xs ht hs hl hz hA mon =>
      refine ⟨_, rfl, _, _, _, _, false, rfl, .ty _, .base (.tup ht), kit_ty (by decide +kernel), _, rfl, iteF ?_⟩
      refine ⟨_, rfl, _, _, _, _, true, rfl, .ty _, .base (.tup ht), kit_ty (by decide +kernel), _, rfl, iteT ?_⟩
      refine ⟨_, rfl, .inr ⟨t, xs, rfl, ht, _, rfl, .inr ⟨s, xs, rfl, hs, rfl, ?_⟩⟩⟩
      rw [decide_eq_true rfl]
      refine ⟨true, rfl, iteT ?_⟩
      refine ⟨_, rfl, _, rfl, t, s, xs, xs, rfl, .inr ⟨SqT.of ht, SqT.of hs, fun D hD => ?_⟩⟩
      refine lc_it (walk_zipT (xs := xs) (ys := xs) rfl rfl) (fun i H2 => Same H H2 ∧ H2 D = some (.lst ((List.replicate i true).map V.bl))) ⟨same_new hD, upd_same⟩ (fun i H2 _ q => ⟨SqT.of (q.1 _ _ ht), SqT.of (q.1 _ _ hs)⟩) ?_ ?_
      · rintro i x H2 H3 hi ⟨m, fD⟩ ⟨T0, y1, y2, rfl, hT0, rfl, e1, e2⟩
        have ey : y1 = y2 := Option.some.inj (e1.symm.trans e2)
        subst ey
        have mT := same_new (o := .tup [y1, y1]) hT0
        have fT := at_new (o := .tup [y1, y1]) hT0
        generalize (upd H2 T0 (.tup [y1, y1])) = H4 at mT fT ⊢
        refine ⟨T0, _, rfl, SqT.of fT, rfl, _, _, rfl, _, _, rfl, rfl, rfl, ?_⟩
        refine ⟨_, rfl, _, rfl, y1, y1, rfl, mon _ _ _ _ (m.trans mT) (hA y1 (List.mem_of_getElem? e1)), fun H5 m5 => ?_⟩
        refine ⟨_, m5 _ _ (mT _ _ fD), ?_, fun b o q => ?_, ?_⟩
        · rw [List.length_map, List.length_replicate]
          exact small1000 (by omega)
        · rw [upd_ne (ne_of_none q hD)]
          exact m5 _ _ (mT _ _ (m b o q))
        · rw [upd_same, rep_next]
      · rintro H2 ⟨m, fD⟩
        refine ⟨D, _, rfl, SqL.of fD, ?_⟩
        rw [all_true]
        exact kk _ m
end
end K25

namespace K25
open PySem L2 XR
theorem n1 : ¬ (("objects" : Str) = "deposed") := by decide +kernel
theorem n2 : ¬ (("objects" : Str) = "outputs") := by decide +kernel
theorem n3 : ¬ (("objects" : Str) = "serial") := by decide +kernel
theorem n4 : ¬ (("deposed" : Str) = "outputs") := by decide +kernel
theorem n5 : ¬ (("deposed" : Str) = "serial") := by decide +kernel
theorem n6 : ¬ (("outputs" : Str) = "serial") := by decide +kernel
def fldsS (o d u : Addr) (n : Int) : List (Str × V) := putF "serial" (.int n) (putF "outputs" (.ref u) (putF "deposed" (.ref d) (putF "objects" (.ref o) [])))
theorem fS_o (o d u : Addr) (n : Int) : (fldsS o d u n).lookup ("objects" : Str) = some (.ref o) := by
  unfold fldsS
  rw [lookup_putF, if_neg n3, lookup_putF, if_neg n2, lookup_putF, if_neg n1, lookup_putF, if_pos rfl]
theorem fS_d (o d u : Addr) (n : Int) : (fldsS o d u n).lookup ("deposed" : Str) = some (.ref d) := by
  unfold fldsS
  rw [lookup_putF, if_neg n5, lookup_putF, if_neg n4, lookup_putF, if_pos rfl]
theorem fS_u (o d u : Addr) (n : Int) : (fldsS o d u n).lookup ("outputs" : Str) = some (.ref u) := by
  unfold fldsS
  rw [lookup_putF, if_neg n6, lookup_putF, if_pos rfl]
theorem fS_s (o d u : Addr) (n : Int) : (fldsS o d u n).lookup ("serial" : Str) = some (.int n) := by
  unfold fldsS
  rw [lookup_putF, if_pos rfl]
theorem fS_no (o d u : Addr) (n : Int) {m : Str} (h1 : ¬ m = "serial") (h2 : ¬ m = "outputs") (h3 : ¬ m = "deposed") (h4 : ¬ m = "objects") : (fldsS o d u n).lookup m = none := by
  unfold fldsS
  rw [lookup_putF, if_neg h1, lookup_putF, if_neg h2, lookup_putF, if_neg h3, lookup_putF, if_neg h4]
  all_goals rfl
theorem flatE : FlatK [] := ⟨List.nodup_nil, fun _ h => absurd h (by simp), by decide⟩
theorem flat1 (x : Str) (i : Int) : FlatK [(Sum.inr x, V.int i)] := ⟨by simp, fun p h => by
  have e : p = (Sum.inr x, V.int i) := by simpa using h
  exact ⟨x, i, e⟩, (by show 1 ≤ 100; decide)⟩
/-- a State with the serial n and the output k -/
structure StAt (CS : Addr) (H : Hp) (s : Addr) (n : Int) (k : Int) : Prop where
  ex : ∃ dx o d u, H s = some (.ins CS dx (fldsS o d u n)) ∧ H o = some (.dK []) ∧ H d = some (.dK []) ∧ H u = some (.dK [(Sum.inr "out", .int k)])
theorem StAt.same {CS : Addr} {H H' : Hp} {s : Addr} {n k : Int} (h : StAt CS H s n k) (m : Same H H') : StAt CS H' s n k := by
  obtain ⟨dx, o, d, u, a, b, c, e⟩ := h.ex
  exact ⟨dx, o, d, u, m _ _ a, m _ _ b, m _ _ c, m _ _ e⟩
theorem StAt.ser {CS : Addr} {H : Hp} {s : Addr} {n k : Int} (h : StAt CS H s n k) : Ser CS H s n := by
  obtain ⟨dx, o, d, u, a, _⟩ := h.ex
  exact ⟨dx, _, a, fS_s _ _ _ _⟩
def spStI (CS : Addr) : Sp := fun vs H Q _ => ∃ (a dx o d u : Addr) (n k : Int), vs = [.ref a, .ref o, .ref d, .ref u, .int n] ∧ H a = some (.ins CS dx []) ∧ H o = some (.dK []) ∧ H d = some (.dK []) ∧ H u = some (.dK [(Sum.inr "out", .int k)]) ∧
  ∀ H', But a H H' → StAt CS H' a n k → Q .non H'
def spStN (CS : Addr) : Sp := fun vs H Q _ => ∃ (a : Addr), vs = [.ref a] ∧ Q (.str "State") H
def spStF (CS : Addr) : Sp := fun vs H Q _ => ∃ (a dx o d u : Addr) (n : Int), vs = [.ref a] ∧ H a = some (.ins CS dx (fldsS o d u n)) ∧ ∀ (t : Addr) (H' : Hp), Same H H' → H' t = some (.tup [.ref o, .ref d, .ref u, .int n]) → Q (.ref t) H'
def REq (CS : Addr) : Addr → Addr → Hp → Prop := fun a b H => a = b ∧ ∃ n k, StAt CS H a n k
def A1 : EqRel := Nxt (Nxt fun _ _ _ => False)
theorem A1_mon : ∀ (H H' : Hp) (v u : V), Same H H' → A1 H v u → A1 H' v u := fun H H' v u m h => by
  cases h with
  | flat h => exact .flat h
  | map h fk hA => exact .map (m _ _ h) fk hA
  | tup h h2 hl hz hA mon => exact .tup (m _ _ h) (m _ _ h2) hl hz (fun x hx => mon _ _ _ _ m (hA x hx)) mon
section
variable {P : Program} {w : World} {K : PySem.W.Frag} {mg : Str → Option Value} {base : Heap}
theorem scSt : FnScope ["self", "objects", "deposed", "outputs", "serial"] ["self", "objects", "deposed", "outputs", "serial"] (defScope sStI) := ⟨rfl, rfl, rfl, by decide +kernel, rfl, by decide +kernel, by decide +kernel⟩
theorem ok_StI {f fC CV CU CS : Addr} {fd dC : FuncData} (F : Fun K "__init__" "State.__init__" sStI f fd) (T : VTxt K mg CV CU CS) (GC : FnOk P w K mg base CX0 2 fC dC ["value"] spCop1) (gC : mg "copied" = some (.ref fC)) (kC : PySem.W.keepIn K (.ref fC) = true) (bC : Binds K dC ["value"] []) :
    FnOk P w K mg base CX0 3 f fd ["self", "objects", "deposed", "outputs", "serial"] (spStI CS) := by
  refine F.ok scSt (fun vs H Q E h => ?_) (fun cdv A outer s H vs Q E hr h => ?_)
  · obtain ⟨a, dx, o, d, u, n, k, rfl, _⟩ := h
    rfl
  · obtain ⟨a, dx, o, d, u, n, k, rfl, ha, ho, hd, hu, kk⟩ := h
    refine ⟨_, pss_cons (ps_fld (pv 0) (pe_callTy call_dictD (by rfl) T.dict (by decide +kernel) (pa_cons (pv 1) pa_nil)) rfl) (pss_cons (ps_fld (pv 0) (pe_callTy call_dictD (by rfl) T.dict (by decide +kernel) (pa_cons (pv 2) pa_nil)) rfl)
      (pss_cons (ps_fld (pv 0) (pe_call GC hr rfl gC kC bC .nil pass0 (pa_cons (pv 3) pa_nil)) rfl) (pss_one (ps_fld (pv 0) (pv 4) rfl)))), ?_⟩
    refine ⟨_, rfl, o, [], rfl, .inl ho, fun o' ho' => ?_⟩
    have m1 := same_new (o := .dK []) ho'
    have e1 := at_new (o := .dK []) ho'
    generalize (upd H o' (.dK [])) = H1 at m1 e1 ⊢
    have a1 := m1 _ _ ha
    refine ⟨_, rfl, a, CS, dx, [], rfl, a1, T.cs, T.nO, (by show 0 < 1000; decide), ?_⟩
    have b2 : But a H1 (upd H1 a (.ins CS dx (putF "objects" (.ref o') []))) := But.upd
    have a2 : (upd H1 a (.ins CS dx (putF "objects" (.ref o') []))) a = some (.ins CS dx (putF "objects" (.ref o') [])) := upd_same
    have noa : ∀ {b : Addr} {kvs : List (Key × V)} {G : Hp} {fs : List (Str × V)}, G b = some (.dK kvs) → G a = some (.ins CS dx fs) → b ≠ a := fun h1 h2 => ne_of h1 h2 (fun z => nomatch z)
    have ob := b2 _ _ e1 (noa e1 a1)
    have hd2 := b2 _ _ (m1 _ _ hd) (noa (m1 _ _ hd) a1)
    have hu2 := b2 _ _ (m1 _ _ hu) (noa (m1 _ _ hu) a1)
    have B2 : But a H (upd H1 a (.ins CS dx (putF "objects" (.ref o') []))) := (But.of m1).trans b2
    generalize (upd H1 a (.ins CS dx (putF "objects" (.ref o') []))) = H2 at b2 a2 ob hd2 hu2 B2 ⊢
    refine ⟨_, rfl, d, [], rfl, .inl hd2, fun d' hd' => ?_⟩
    have m3 := same_new (o := .dK []) hd'
    have e3 := at_new (o := .dK []) hd'
    generalize (upd H2 d' (.dK [])) = H3 at m3 e3 ⊢
    have a3 := m3 _ _ a2
    refine ⟨_, rfl, a, CS, dx, _, rfl, a3, T.cs, T.nD, (by show 1 < 1000; decide), ?_⟩
    have b4 : But a H3 (upd H3 a (.ins CS dx (putF "deposed" (.ref d') (putF "objects" (.ref o') [])))) := But.upd
    have a4 : (upd H3 a (.ins CS dx (putF "deposed" (.ref d') (putF "objects" (.ref o') [])))) a = some (.ins CS dx (putF "deposed" (.ref d') (putF "objects" (.ref o') []))) := upd_same
    replace ob := b4 _ _ (m3 _ _ ob) (noa (m3 _ _ ob) a3)
    have db := b4 _ _ e3 (noa e3 a3)
    replace hu2 := b4 _ _ (m3 _ _ hu2) (noa (m3 _ _ hu2) a3)
    have B4 := (B2.trans (But.of m3)).trans b4
    generalize (upd H3 a (.ins CS dx (putF "deposed" (.ref d') (putF "objects" (.ref o') [])))) = H4 at b4 a4 ob db hu2 B4 ⊢
    refine ⟨_, rfl, u, _, rfl, hu2, flat1 _ _, fun u' H5 m5 e5 => ?_⟩
    have a5 := m5 _ _ a4
    have l5 : (putF "deposed" (.ref d') (putF "objects" (.ref o') [])).length < 1000 := by
      show (if ("objects" : Str) = "deposed" then [(("objects" : Str), V.ref d')] else (("objects" : Str), V.ref o') :: putF "deposed" (V.ref d') []).length < 1000
      rw [if_neg n1]
      show 2 < 1000
      decide
    refine ⟨_, rfl, a, CS, dx, _, rfl, a5, T.cs, T.nU, l5, ?_⟩
    have b6 : But a H5 (upd H5 a (.ins CS dx (putF "outputs" (.ref u') (putF "deposed" (.ref d') (putF "objects" (.ref o') []))))) := But.upd
    have a6 : (upd H5 a (.ins CS dx (putF "outputs" (.ref u') (putF "deposed" (.ref d') (putF "objects" (.ref o') []))))) a = some (.ins CS dx (putF "outputs" (.ref u') (putF "deposed" (.ref d') (putF "objects" (.ref o') [])))) := upd_same
    replace ob := b6 _ _ (m5 _ _ ob) (noa (m5 _ _ ob) a5)
    replace db := b6 _ _ (m5 _ _ db) (noa (m5 _ _ db) a5)
    have ub := b6 _ _ e5 (noa e5 a5)
    have B6 := (B4.trans (But.of m5)).trans b6
    generalize (upd H5 a (.ins CS dx (putF "outputs" (.ref u') (putF "deposed" (.ref d') (putF "objects" (.ref o') []))))) = H6 at b6 a6 ob db ub B6 ⊢
    have l6 : (putF "outputs" (.ref u') (putF "deposed" (.ref d') (putF "objects" (.ref o') []))).length < 1000 := by
      show (putF "outputs" (V.ref u') (if ("objects" : Str) = "deposed" then [(("objects" : Str), V.ref d')] else (("objects" : Str), V.ref o') :: putF "deposed" (V.ref d') [])).length < 1000
      rw [if_neg n1]
      show (if ("objects" : Str) = "outputs" then _ else (("objects" : Str), V.ref o') :: (if ("deposed" : Str) = "outputs" then _ else (("deposed" : Str), V.ref d') :: putF "outputs" (V.ref u') [])).length < 1000
      rw [if_neg n2, if_neg n4]
      show 3 < 1000
      decide
    refine ⟨_, rfl, _, rfl, a, CS, dx, _, rfl, a6, T.cs, T.nS, l6, ?_⟩
    have b7 : But a H6 (upd H6 a (.ins CS dx (fldsS o' d' u' n))) := But.upd
    exact kk _ (B6.trans b7) ⟨dx, o', d', u', upd_same, b7 _ _ ob (noa ob a6), b7 _ _ db (noa db a6), b7 _ _ ub (noa ub a6)⟩
theorem scSN : FnScope ["self"] ["self"] (defScope sStN) := ⟨rfl, rfl, rfl, by decide +kernel, rfl, by decide +kernel, by decide +kernel⟩
theorem ok_StN {f CS : Addr} {fd : FuncData} (F : Fun K "class_name" "State.class_name" sStN f fd) : FnOk P w K mg base CX0 1 f fd ["self"] (spStN CS) := by
  refine F.ok scSN (fun vs H Q E h => ?_) (fun cdv A outer s H vs Q E hr h => ?_)
  · obtain ⟨a, rfl, _⟩ := h
    rfl
  · obtain ⟨a, rfl, k⟩ := h
    exact ⟨_, pss_one (ps_ret pe_str), k⟩
theorem scSF : FnScope ["self"] ["self"] (defScope sStF) := ⟨rfl, rfl, rfl, by decide +kernel, rfl, by decide +kernel, by decide +kernel⟩
theorem ok_StF {f CV CU CS : Addr} {fd : FuncData} (F : Fun K "fields" "State.fields" sStF f fd) (T : VTxt K mg CV CU CS) : FnOk P w K mg base CX0 1 f fd ["self"] (spStF CS) := by
  refine F.ok scSF (fun vs H Q E h => ?_) (fun cdv A outer s H vs Q E hr h => ?_)
  · obtain ⟨a, dx, o, d, u, n, rfl, _⟩ := h
    rfl
  · obtain ⟨a, dx, o, d, u, n, rfl, ha, k⟩ := h
    refine ⟨_, pss_one (ps_ret (pe_tup (pa_cons (pe_fld (pv 0) rfl) (pa_cons (pe_fld (pv 0) rfl) (pa_cons (pe_fld (pv 0) rfl) (pa_cons (pe_fld (pv 0) rfl) pa_nil)))))), ?_⟩
    exact ⟨_, rfl, a, CS, dx, _, _, rfl, ha, T.cs, T.nO, fS_o _ _ _ _, _, rfl, a, CS, dx, _, _, rfl, ha, T.cs, T.nD, fS_d _ _ _ _, _, rfl, a, CS, dx, _, _, rfl, ha, T.cs, T.nU, fS_u _ _ _ _, _, rfl, a, CS, dx, _, _, rfl, ha, T.cs, T.nS, fS_s _ _ _ _,
      (by show 4 ≤ sizeLine; decide), fun t ht => k t _ (same_new ht) upd_same⟩
theorem scVe : FnScope ["self", "other"] ["self", "other"] (defScope sVEq) := ⟨rfl, rfl, rfl, by decide +kernel, rfl, by decide +kernel, by decide +kernel⟩
theorem ok_VEq {f fE fN fF CV CU CS : Addr} {fd dE dN dF : FuncData} (F : Fun K "__eq__" "Valued.__eq__" sVEq f fd) (T : VTxt K mg CV CU CS) (GE : FnOk P w K mg base CX0 5 fE dE ["one", "other"] (spEqP (Nxt A1))) (gE : mg "are_equal" = some (.ref fE)) (kE : PySem.W.keepIn K (.ref fE) = true) (bE : Binds K dE ["one", "other"] [])
    (GN : FnOk P w K mg base CX0 1 fN dN ["self"] (spStN CS)) (mCn : Meth K CS "class_name" fN) (bCn : Binds K dN ["self"] []) (GF : FnOk P w K mg base CX0 1 fF dF ["self"] (spStF CS)) (mFi : Meth K CS "fields" fF) (bFi : Binds K dF ["self"] []) :
    FnOk P w K mg base CX0 6 f fd ["self", "other"] (spEq (REq CS)) := by
  refine F.ok scVe (fun vs H Q E h => ?_) (fun cdv A outer s H vs Q E hr h => ?_)
  · obtain ⟨a, b, rfl, _⟩ := h
    rfl
  · obtain ⟨a, b, rfl, ⟨rfl, n, k, st⟩, kk⟩ := h
    have hr1 : Room 1 _ := hr.mono (by decide)
    obtain ⟨dx, o, d, u, ha, ho, hd, hu⟩ := st.ex
    have nl : ∀ {m : Str}, ¬ m = "serial" → ¬ m = "outputs" → ¬ m = "deposed" → ¬ m = "objects" → (fldsS o d u n).lookup m = none := fun h1 h2 h3 h4 => fS_no _ _ _ _ h1 h2 h3 h4
    refine ⟨_, (pss_cons (ps_if (PW.pt (pw_or (pt_not (pt_val (pe_callB call_isi (by rfl) T.isi (by decide +kernel) (pa_cons (pv 1) (pa_cons (pe_glob (v := .ref CV) rfl T.gV rfl) pa_nil))))) (pw_or1 (pt_cmpR op_ne (pe_meth0 (pv 0) T.cs mCn GN hr1 bCn .nil pass0) (pe_meth0 (pv 1) T.cs mCn GN hr1 bCn .nil pass0) (nomark _))))) (pss_one (ps_ret pe_bl)) pss_nil)
      (pss_one (ps_ret (pe_call GE hr rfl gE kE bE .nil pass0 (pa_cons (pe_meth0 (pv 0) T.cs mFi GF hr1 bFi .nil pass0) (pa_cons (pe_meth0 (pv 1) T.cs mFi GF hr1 bFi .nil pass0) pa_nil)))))), ?_⟩
    refine ⟨_, rfl, _, _, _, _, true, rfl, .own _, .base (.ins ha T.cs T.c1 T.c2 T.c3 T.c4), T.kS, _, rfl, iteF ?_⟩
    refine ⟨_, rfl, a, dx, _, rfl, ha, nl (by decide +kernel) (by decide +kernel) (by decide +kernel) (by decide +kernel), a, rfl, _, rfl, a, dx, _, rfl, ha, nl (by decide +kernel) (by decide +kernel) (by decide +kernel) (by decide +kernel), a, rfl, rfl, _, rfl, iteNS rfl ?_⟩
    refine ⟨_, rfl, a, dx, _, rfl, ha, nl (by decide +kernel) (by decide +kernel) (by decide +kernel) (by decide +kernel), a, dx, o, d, u, n, rfl, ha, fun t1 H1 m1 e1 => ?_⟩
    refine ⟨_, rfl, a, dx, _, rfl, m1 _ _ ha, nl (by decide +kernel) (by decide +kernel) (by decide +kernel) (by decide +kernel), a, dx, o, d, u, n, rfl, m1 _ _ ha, fun t2 H2 m2 e2 => ?_⟩
    have m12 := m1.trans m2
    refine ⟨_, _, rfl, .tup (m2 _ _ e1) e2 (by show (4:Nat) ≠ 3; decide) (by show 4 ≤ 100; decide) (fun x hx => ?_) A1_mon, fun H3 m3 => kk H3 (m12.trans m3)⟩
    have f0 : ∀ v u (H : Hp), A0 v u → Nxt (fun _ _ _ => False) H v u := fun v u H h => .flat h
    simp only [List.mem_cons, List.not_mem_nil, or_false] at hx
    rcases hx with rfl | rfl | rfl | rfl
    · exact .map (m12 _ _ ho) flatE f0
    · exact .map (m12 _ _ hd) flatE f0
    · exact .map (m12 _ _ hu) (flat1 _ _) f0
    · exact .flat ⟨rfl, .inl ⟨n, rfl⟩⟩
end
end K25

namespace K25
open PySem L2 XR
/-! ### _law_told -/
def EchT (CL CE : Addr) (Q : VK) : XK := fun cls d H => (cls = .ref CL ∧ ∃ dd v, d = some dd ∧ H dd = some (.xd [("holder", v)]) ∧ ∀ t, H t = none → Q (.ref t) (upd H t (.tup [.str "locked", v]))) ∨
  (cls = .ref CE ∧ ∃ dd v, d = some dd ∧ H dd = some (.xd [("serial", v)]) ∧ ∀ t, H t = none → Q (.ref t) (upd H t (.tup [.str "stale", v])))
def TTold (CL CE : Addr) : (XK → Hp → VK → Prop) → Hp → VK → Prop := fun tl H Q => tl (EchT CL CE Q) H fun v H1 => ∀ t, H1 t = none → Q (.ref t) (upd H1 t (.tup [.str "told", v]))
abbrev tldN : List Str := ["_law_ask", "e"]
theorem scTo : FnScope tldN ["_law_ask"] (defScope sTold) := ⟨rfl, rfl, rfl, by decide +kernel, rfl, by decide +kernel, by decide +kernel⟩
structure ToldOk (K : PySem.W.Frag) (mg : Str → Option Value) (CP CL CE : Addr) : Prop where
  xL : XcOk K CP CL
  xE : XcOk K CP CE
  nL : CL ≠ CP
  nE : CE ≠ CP
  ne : CL ≠ CE
  gL : mg "Locked" = some (.ref CL)
  gE : mg "Stale" = some (.ref CE)
  oL : PySem.W.findIn K (.ref CL) "holder" = some none
  oE : PySem.W.findIn K (.ref CE) "serial" = some none
theorem two {α : Type} {l : List α} (h : l.length = 2) : ∃ a b, l = [a, b] := match l, h with | [a, b], _ => ⟨a, b, rfl⟩
theorem lk1 {x : Str} {v : V} : ([(x, v)] : List (Str × V)).lookup x = some v := by simp [List.lookup_cons]
theorem told_gives {X : Cx} {g CP CL CE : Addr} {cdg : Value} {q : Str} (T : ToldOk X.K X.mg CP CL CE) : LamX.GivesTo X tldN "_law_told" (defScope sTold) g cdg (defBody sTold) "_law_ask" q (TTold CL CE) := by
  intro f c' s H Q tl act hc h
  refine ⟨_, pss_one (ps_tryA (X := (cxOf C8.CX0 X.prog X.w X.K X.mg X.base tldN "_law_told" (defScope sTold) g cdg X.A X.stack s H C8.E0).nox)
      (tb := fun W D σ H => ∃ Ech : XK, (∀ cls d σ' H', Ech cls d H' → σ'.length = 2 → W cls d σ' H') ∧ σ[0]? = some (some (.ref f)) ∧ H c' = some (LamX.CodeO c' q) ∧ tl Ech H fun v H1 => ∀ t, H1 t = none → D.rt (.ref t) (upd H1 t (.tup [.str "told", v])))
      rfl rfl scTo.nd LamX.takes0 (fun W pn xe tk _ => ?_)
      (HdsA.cons (c := .ref CL) (i := 1) ⟨rfl, by decide, .inl T.gL⟩ rfl rfl (fun a oe cls d pn hz hf => pss_one (ps_ret (pe_tup (pa_cons pe_str (pa_cons (pe_xf T.xL.xf T.oL hz hf (pv 1)) pa_nil)))))
      (HdsA.cons (c := .ref CE) (i := 1) ⟨rfl, by decide, .inl T.gE⟩ rfl rfl (fun a oe cls d pn hz hf => pss_one (ps_ret (pe_tup (pa_cons pe_str (pa_cons (pe_xf T.xE.xf T.oE hz hf (pv 1)) pa_nil))))) HdsA.nil))), ?_⟩
  · refine ⟨fun pins s' σ H' D I h' => ?_⟩
    obtain ⟨Ech, hW, h1, h2, h3⟩ := h'
    have tk' : Takes ((cxOf C8.CX0 X.prog X.w X.K X.mg X.base tldN "_law_told" (defScope sTold) g cdg X.A X.stack s H C8.E0).tr pn xe) (fun cls d σ H => σ.length = 2 → W cls d σ H) := fun u s1 xx => by
      obtain ⟨a, B, sI, pins', σ', H', cls, d, e, J', nb, up, sky, na, os, ag, w⟩ := xx
      exact tk u s1 ⟨a, B, sI, pins', σ', H', cls, d, e, J', nb, up, sky, na, os, ag, w J'.len⟩
    refine (pss_one (ps_ret (pe_tup (pa_cons pe_str (pa_cons (act _ pn xe Ech _ _ tk' hW) pa_nil))))).run pins s' σ H' D I ⟨h1, h2, ?_⟩
    have e : (fun v H1 => ∀ t, H1 t = none → D.rt (.ref t) (upd H1 t (.tup [.str "told", v]))) = (fun v H1 => [V.str "told", v].length ≤ sizeLine ∧ ∀ t, H1 t = none → D.rt (.ref t) (upd H1 t (.tup [.str "told", v]))) := by
      funext v H1
      exact propext ⟨fun h => ⟨(by show 2 ≤ sizeLine; decide), h⟩, fun h => h.2⟩
    rw [e] at h3
    exact h3
  · refine ⟨EchT CL CE Q, fun cls d σ' H' hE hl => ?_, rfl, hc, h⟩
    rcases hE with ⟨rfl, dd, v, rfl, hd, k⟩ | ⟨rfl, dd, v, rfl, hd, k⟩
    · refine ⟨true, ?_, fun _ a ha => ?_, fun z => Bool.noConfusion z⟩
      · exact (T.xL.exm T.xL T.nL).trans (congrArg some (decide_eq_true rfl))
      · obtain ⟨u0, u1, rfl⟩ := two hl
        exact ⟨_, rfl, rfl, rfl, dd, _, v, rfl, hd, lk1, (by show 2 ≤ sizeLine; decide), fun t ht => k t ht⟩
    · refine ⟨false, ?_, fun z => Bool.noConfusion z, fun _ => ⟨true, ?_, fun _ a ha => ?_, fun z => Bool.noConfusion z⟩⟩
      · exact (T.xE.exm T.xL T.nL).trans (congrArg some (decide_eq_false (Ne.symm T.ne)))
      · exact (T.xE.exm T.xE T.nE).trans (congrArg some (decide_eq_true rfl))
      · obtain ⟨u0, u1, rfl⟩ := two hl
        exact ⟨_, rfl, rfl, rfl, dd, _, v, rfl, hd, lk1, (by show 2 ≤ sizeLine; decide), fun t ht => k t ht⟩
end K25

namespace K25
open PySem L2 XR
/-! ### the law's own account of the store -/
abbrev kHo : Key := Sum.inr ("holder" : Str)
abbrev kSt : Key := Sum.inr ("state" : Str)
def Mp (H : Hp) (m : Addr) (hv : V) (st : Addr) : Prop := H m = some (.dK [(kHo, hv), (kSt, .ref st)])
theorem nhs : ¬ (kHo = kSt) := by decide +kernel
theorem nsh : ¬ (kSt = kHo) := by decide +kernel
theorem Mp.h {H : Hp} {m st : Addr} {hv : V} (h : Mp H m hv st) : DGet H m (.str "holder") (some hv) := by
  have g := DGet.k (k := kHo) h
  rw [valV_pos rfl] at g
  exact g
theorem Mp.s {H : Hp} {m st : Addr} {hv : V} (h : Mp H m hv st) : DGet H m (.str "state") (some (.ref st)) := by
  have g := DGet.k (k := kSt) h
  rw [valV_neg nhs, valV_pos rfl] at g
  exact g
theorem Mp.puth {H : Hp} {m st : Addr} {hv : V} (y : V) (h : Mp H m hv st) : DPut H m (.str "holder") y (upd H m (.dK [(kHo, y), (kSt, .ref st)])) := by
  have g := DPut.k (k := kHo) (v := y) h (by show 2 < sizeLine; decide)
  have e : putK [(kHo, hv), (kSt, .ref st)] (kHo) y = [(kHo, y), (kSt, .ref st)] := by
    simp [putK, nsh]
    exact fun z => absurd z (by decide +kernel)
  rw [e] at g
  exact g
theorem Mp.puts {H : Hp} {m st : Addr} {hv : V} (s : Addr) (h : Mp H m hv st) : DPut H m (.str "state") (.ref s) (upd H m (.dK [(kHo, hv), (kSt, .ref s)])) := by
  have g := DPut.k (k := kSt) (v := .ref s) h (by show 2 < sizeLine; decide)
  have e : putK [(kHo, hv), (kSt, .ref st)] (kSt) (.ref s) = [(kHo, hv), (kSt, .ref s)] := by
    simp [putK, nhs]
    exact fun z => absurd z (by decide +kernel)
  rw [e] at g
  exact g
/-- what is due: the answer (tag, val), and then the holder hv' and the state st' -/
inductive Due (hv h : V) (b : Bool) (n k : Int) (st s : Addr) : Str → Str → V → V → Addr → Prop
  | held (e : hv ≠ .non) : Due hv h b n k st s "lock" "locked" hv hv st
  | lock (e : hv = .non) : Due hv h b n k st s "lock" "told" .non h st
  | no {word : Str} (e : ¬ Has hv h b) (nl : word ≠ "lock") : Due hv h b n k st s word "locked" hv hv st
  | unlock (e : Has hv h b) : Due hv h b n k st s "unlock" "told" .non .non st
  | stale (e : Has hv h b) (z : ¬ (k = n ∨ k = n + 1)) : Due hv h b n k st s "write" "stale" (.int n) hv st
  | write (e : Has hv h b) (z : k = n ∨ k = n + 1) : Due hv h b n k st s "write" "told" .non hv s
def spDue (K : PySem.W.Frag) (CS : Addr) : Sp := fun vs H Q _ => ∃ (m st s : Addr) (hv h : V) (b : Bool) (n k : Int) (word : Str), vs = [.ref m, .str word, h, .ref s] ∧ (word = "lock" ∨ word = "unlock" ∨ word = "write") ∧ Mp H m hv st ∧ HvOk hv ∧ HdOk K H h b ∧ Ser CS H st n ∧ Ser CS H s k ∧
  ∀ (tag : Str) (val hv' : V) (st' t : Addr) (H' : Hp), Due hv h b n k st s word tag val hv' st' → But m H H' → Mp H' m hv' st' → H' t = some (.tup [.str tag, val]) → Q (.ref t) H'
section
variable {P : Program} {w : World} {K : PySem.W.Frag} {mg : Str → Option Value} {base : Heap}
theorem scDu : FnScope ["_law_m", "_law_word", "_law_holder", "_law_state"] ["_law_m", "_law_word", "_law_holder", "_law_state"] (defScope sDue) := ⟨rfl, rfl, rfl, by decide +kernel, rfl, by decide +kernel, by decide +kernel⟩
theorem ok_due {f CT CS : Addr} {fd : FuncData} (F : Fun K "_law_due" "_law_due" sDue f fd) (T : STxt K mg CT CS) : FnOk P w K mg base CX0 1 f fd ["_law_m", "_law_word", "_law_holder", "_law_state"] (spDue K CS) := by
  refine F.ok scDu (fun vs H Q E h => ?_) (fun cdv A outer s0 H vs Q E hr h => ?_)
  · obtain ⟨m, st, s, hv, h, b, n, k, word, rfl, _⟩ := h
    rfl
  · obtain ⟨m, st, s, hv, h, b, n, k, word, rfl, hw, hm, o1, ⟨⟨ty, o2, o3⟩, o4⟩, ⟨dn, fn, hn, ln⟩, ⟨dk, fk, hk, lk⟩, kk⟩ := h
    have hu := hu_of hr
    have two : 2 ≤ sizeLine := by decide
    -- a tuple is made, nothing else
    have plain : ∀ {tag : Str} {val : V} {t : Addr} {H1 : Hp} {hv' : V} {st' : Addr}, Due hv h b n k st s word tag val hv' st' → But m H H1 → Mp H1 m hv' st' → H1 t = none → Q (.ref t) (upd H1 t (.tup [.str tag, val])) := fun d bu hm' ht =>
      kk _ _ _ _ _ _ d (bu.trans (But.of (same_new ht))) (same_new ht _ _ hm') upd_same
    refine ⟨_, (pss_cons (ps_if (pt_cmpR op_eq (pv 1) pe_str (nomark _)) (pss_cons (ps_if (pt_cmpR op_notN (pe_dget hu (pv 0) pe_str (fun _ _ => rfl)) pe_non (nomark _)) (pss_one (ps_ret (pe_tup (pa_cons pe_str (pa_cons (pe_dget hu (pv 0) pe_str (fun _ _ => rfl)) pa_nil))))) pss_nil)
        (pss_cons (ps_dput hu (pv 0) pe_str (pv 2) rfl)
        (pss_one (ps_ret (pe_tup (pa_cons pe_str (pa_cons pe_non pa_nil))))))) pss_nil)
      (pss_cons (ps_if (PW.pt (pw_or (pt_cmpR op_isN (pe_dget hu (pv 0) pe_str (fun _ _ => rfl)) pe_non (nomark _)) (pw_or (pt_not (pt_val (pe_callB call_isi (by rfl) T.isi (by decide +kernel) (pa_cons (pv 2) (pa_cons (pe_bltn (v := .ty "str") (by rfl) T.str (by decide +kernel) rfl) pa_nil))))) (pw_or1 (pt_cmpR op_ne (pe_dget hu (pv 0) pe_str (fun _ _ => rfl)) (pv 2) (nomark _)))))) (pss_one (ps_ret (pe_tup (pa_cons pe_str (pa_cons (pe_dget hu (pv 0) pe_str (fun _ _ => rfl)) pa_nil))))) pss_nil)
      (pss_cons (ps_if (pt_cmpR op_eq (pv 1) pe_str (nomark _)) (pss_cons (ps_dput hu (pv 0) pe_str pe_non rfl)
        (pss_one (ps_ret (pe_tup (pa_cons pe_str (pa_cons pe_non pa_nil)))))) pss_nil)
      (pss_cons (ps_if (pt_cmpR op_notIn_seq (pe_op op_sub (pe_fld (pv 3) rfl) (pe_fld (pe_dget hu (pv 0) pe_str (fun _ _ => rfl)) rfl)) (pe_tup (pa_cons pe_int (pa_cons pe_int pa_nil))) (by rfl)) (pss_one (ps_ret (pe_tup (pa_cons pe_str (pa_cons (pe_fld (pe_dget hu (pv 0) pe_str (fun _ _ => rfl)) rfl) pa_nil))))) pss_nil)
      (pss_cons (ps_dput hu (pv 0) pe_str (pv 3) rfl)
      (pss_one (ps_ret (pe_tup (pa_cons pe_str (pa_cons pe_non pa_nil)))))))))), ?_⟩
    refine ⟨_, rfl, rfl, _, rfl, ?_⟩
    by_cases el : word = "lock"
    · subst el
      refine iteT ?_
      refine ⟨_, rfl, m, _, rfl, hm.h, rfl, _, rfl, ?_⟩
      by_cases e : hv = .non
      · rw [decide_eq_true e]
        refine iteF ?_
        exact ⟨_, rfl, _, rfl, m, _, rfl, hm.puth h, two, fun t ht => plain (.lock e) But.upd upd_same ht⟩
      · rw [decide_eq_false e]
        refine iteT ?_
        exact ⟨_, rfl, m, _, rfl, hm.h, two, fun t ht => plain (.held e) (But.of fun _ _ z => z) hm ht⟩
    · have el' : ¬ V.str word = V.str "lock" := fun z => el (by cases z; rfl)
      rw [decide_eq_false el']
      refine iteF ?_
      refine ⟨_, rfl, m, _, rfl, hm.h, rfl, _, rfl, ?_⟩
      have no : ¬ Has hv h b → ∀ t, H t = none → Q (.ref t) (upd H t (.tup [.str "locked", hv])) := fun z t ht => plain (.no z el) (But.of fun _ _ z => z) hm ht
      by_cases e : hv = .non
      · rw [decide_eq_true e]
        refine iteT (iteT ?_)
        exact ⟨_, rfl, m, _, rfl, hm.h, two, no fun z => z.1 e⟩
      rw [decide_eq_false e]
      refine iteF ?_
      refine ⟨_, rfl, _, _, ty, _, b, rfl, .ty _, o2, o3, _, rfl, ?_⟩
      cases b with
      | false =>
        refine iteT (iteT ?_)
        exact ⟨_, rfl, m, _, rfl, hm.h, two, no fun z => Bool.noConfusion z.2.1⟩
      | true =>
      obtain ⟨x, rfl⟩ := o4 rfl
      obtain ⟨y, rfl⟩ := o1.resolve_left e
      refine iteF ?_
      refine ⟨_, rfl, m, _, rfl, hm.h, _, rfl, rfl, _, rfl, ?_⟩
      by_cases q : V.str y = V.str x
      case neg =>
        rw [decide_eq_false q]
        refine iteT ?_
        exact ⟨_, rfl, m, _, rfl, hm.h, two, no fun z => q z.2.2⟩
      rw [decide_eq_true q]
      refine iteF ?_
      have hs : Has (.str y) (.str x) true := ⟨e, rfl, q⟩
      refine ⟨_, rfl, rfl, _, rfl, ?_⟩
      by_cases eu : word = "unlock"
      · subst eu
        refine iteT ?_
        exact ⟨_, rfl, m, _, rfl, hm.puth .non, two, fun t ht => plain (.unlock hs) But.upd upd_same ht⟩
      have eu' : ¬ V.str word = V.str "unlock" := fun z => eu (by cases z; rfl)
      rw [decide_eq_false eu']
      refine iteF ?_
      obtain rfl : word = "write" := (hw.resolve_left el).resolve_left eu
      refine ⟨_, rfl, s, CS, dk, fk, _, rfl, hk, T.cs, T.nS, lk, _, rfl, m, _, rfl, hm.s, st, CS, dn, fn, _, rfl, hn, T.cs, T.nS, ln, _, _, rfl, rfl, two, fun t ht => ?_⟩
      have nt := same_new (o := .tup [.int 0, .int 1]) ht
      have et := at_new (o := .tup [.int 0, .int 1]) ht
      generalize (upd H t (.tup [.int 0, .int 1])) = G at nt et ⊢
      refine ⟨t, _, rfl, .inr (SqT.of et), rfl, rfl, _, rfl, ?_⟩
      have ev : inV (.int (k - n)) [V.int 0, .int 1] = decide (k = n ∨ k = n + 1) := by
        rw [Bool.eq_iff_iff]
        simp [inV, eqV]
        omega
      rw [ev]
      have hmG : Mp G m _ _ := nt _ _ hm
      by_cases z : k = n ∨ k = n + 1
      · rw [decide_eq_true z]
        refine iteF ?_
        exact ⟨_, rfl, _, rfl, m, _, rfl, hmG.puts s, two, fun t ht => plain (.write hs z) ((But.of nt).trans But.upd) upd_same ht⟩
      · rw [decide_eq_false z]
        refine iteT ?_
        exact ⟨_, rfl, m, _, rfl, hmG.s, st, CS, dn, fn, _, rfl, nt _ _ hn, T.cs, T.nS, ln, two, fun t ht => plain (.stale hs z) (But.of nt) hmG ht⟩
end
end K25

namespace K25
open PySem L2 XR
/-! ### what is kept while the well, the account, the store are written -/
def Low (CS : Addr) (o : HO) : Prop := o = .tup [.str "ann"] ∨ o = .lst [] ∨ (∃ dx fs, o = .ins CS dx fs) ∨ o = .dK [] ∨ ∃ p, o = .dK [p]
def Kp (x : Addr) (H H' : Hp) : Prop := ∀ b o, H b = some o → b ≠ x → (∀ ps, o ≠ .tbl ps) → H' b = some o
def LowK (CS : Addr) (H H' : Hp) : Prop := ∀ b o, H b = some o → Low CS o → H' b = some o
theorem Kp.trans {x : Addr} {H H1 H2 : Hp} (a : Kp x H H1) (b : Kp x H1 H2) : Kp x H H2 := fun c o h n t => b c o (a c o h n t) n t
theorem Kp.but {x : Addr} {H H' : Hp} (b : But x H H') : Kp x H H' := fun c o h n _ => b c o h n
theorem Kp.same {x : Addr} {H H' : Hp} (b : Same H H') : Kp x H H' := fun c o h _ _ => b c o h
theorem Kp.ext {x : Addr} {H H' : Hp} (b : LamX.ExtN H H') : Kp x H H' := fun c o h _ t => b c o h t
theorem Low.notbl {CS : Addr} {o : HO} (h : Low CS o) : ∀ ps, o ≠ .tbl ps := fun ps z => by
  subst z
  rcases h with z | z | ⟨_, _, z⟩ | z | ⟨_, z⟩ <;> cases z
theorem low_wl {CS : Addr} {a b c : V} : ¬ Low CS (.lst [a, b, c]) := fun h => by
  rcases h with z | z | ⟨_, _, z⟩ | z | ⟨_, z⟩ <;> cases z
theorem low_mp {CS : Addr} {a b : Key × V} : ¬ Low CS (.dK [a, b]) := fun h => by
  rcases h with z | z | ⟨_, _, z⟩ | z | ⟨_, z⟩ <;> cases z
theorem low_st {CS CT dx : Addr} {fs : List (Str × V)} (n : CT ≠ CS) : ¬ Low CS (.ins CT dx fs) := fun h => by
  rcases h with z | z | ⟨_, _, z⟩ | z | ⟨_, z⟩
  · cases z
  · cases z
  · cases z; exact n rfl
  · cases z
  · cases z
theorem Kp.low {x CS : Addr} {H H' : Hp} {ox : HO} (k : Kp x H H') (e : H x = some ox) (n : ¬ Low CS ox) : LowK CS H H' := fun b o h l => k b o h (fun z => n (by rw [z, e] at h; cases h; exact l)) l.notbl
theorem StAt.low {CS : Addr} {H H' : Hp} {s : Addr} {n k : Int} (h : StAt CS H s n k) (m : LowK CS H H') : StAt CS H' s n k := by
  obtain ⟨dx, o, d, u, a, b, c, e⟩ := h.ex
  exact ⟨dx, o, d, u, m _ _ a (.inr (.inr (.inl ⟨_, _, rfl⟩))), m _ _ b (.inr (.inr (.inr (.inl rfl)))), m _ _ c (.inr (.inr (.inr (.inl rfl)))), m _ _ e (.inr (.inr (.inr (.inr ⟨_, rfl⟩))))⟩
/-- what may be handed in as a holder -/
inductive HdV (CS : Addr) (H : Hp) : V → Bool → Prop
  | str (x : Str) (hx : PyData.strOk x = true) : HdV CS H (.str x) true
  | non : HdV CS H .non false
  | int (i : Int) : HdV CS H (.int i) false
  | bl (b : Bool) : HdV CS H (.bl b) false
  | tup {a : Addr} (h : H a = some (.tup [.str "ann"])) : HdV CS H (.ref a) false
  | lst {a : Addr} (h : H a = some (.lst [])) : HdV CS H (.ref a) false
  | dK {a : Addr} (h : H a = some (.dK [])) : HdV CS H (.ref a) false
  | ins {a dx : Addr} {fs : List (Str × V)} (h : H a = some (.ins CS dx fs)) : HdV CS H (.ref a) false
theorem HdV.low {CS : Addr} {H H' : Hp} {v : V} {b : Bool} (h : HdV CS H v b) (m : LowK CS H H') : HdV CS H' v b := by
  cases h with
  | str x hx => exact .str x hx
  | non => exact .non
  | int i => exact .int i
  | bl b => exact .bl b
  | tup h => exact .tup (m _ _ h (.inl rfl))
  | lst h => exact .lst (m _ _ h (.inr (.inl rfl)))
  | dK h => exact .dK (m _ _ h (.inr (.inr (.inr (.inl rfl)))))
  | ins h => exact .ins (m _ _ h (.inr (.inr (.inl ⟨_, _, rfl⟩))))
theorem HdV.ok {K : PySem.W.Frag} {mg : Str → Option Value} {CV CU CS : Addr} {H : Hp} {v : V} {b : Bool} (h : HdV CS H v b) (T : VTxt K mg CV CU CS) (ks : PySem.W.kitOne K (.ref CS) (.type "str") = some false) : HdOk K H v b := by
  cases h with
  | str x hx => exact ⟨⟨_, .base (.str x), kit_ty (by decide +kernel)⟩, fun _ => ⟨x, rfl⟩⟩
  | non => exact ⟨⟨_, .base .non, kit_ty (by decide +kernel)⟩, fun z => Bool.noConfusion z⟩
  | int i => exact ⟨⟨_, .base (.int i), kit_ty (by decide +kernel)⟩, fun z => Bool.noConfusion z⟩
  | bl b => exact ⟨⟨_, .base (.bl b), kit_ty (by decide +kernel)⟩, fun z => Bool.noConfusion z⟩
  | tup h => exact ⟨⟨_, .base (.tup h), kit_ty (by decide +kernel)⟩, fun z => Bool.noConfusion z⟩
  | lst h => exact ⟨⟨_, .base (.lst h), kit_ty (by decide +kernel)⟩, fun z => Bool.noConfusion z⟩
  | dK h => exact ⟨⟨_, .base (.dK h), kit_ty (by decide +kernel)⟩, fun z => Bool.noConfusion z⟩
  | ins h => exact ⟨⟨_, .base (.ins h T.cs T.c1 T.c2 T.c3 T.c4), ks⟩, fun z => Bool.noConfusion z⟩
theorem tabs_but {TL : List (Addr × Str)} {x : Addr} {H H' : Hp} {o : HO} (t : LamX.Tabs TL H) (b : But x H H') (e : H x = some o) (n1 : ∀ ps, o ≠ .tbl ps) (n2 : ∀ c q, o ≠ LamX.CodeO c q) : LamX.Tabs TL H' := fun p hp => by
  obtain ⟨ps, h1, h2, h3⟩ := t p hp
  refine ⟨ps, b _ _ h1 (fun z => n1 ps (by rw [z, e] at h1; cases h1; rfl)), h2, fun pos cv hc => ?_⟩
  obtain ⟨c, e1, e2⟩ := h3 pos cv hc
  exact ⟨c, e1, b _ _ e2 (fun z => n2 c p.2 (by rw [z, e] at e2; cases e2; rw [z]))⟩
theorem code_lst {xs : List V} (c : Addr) (q : Str) : HO.lst xs ≠ LamX.CodeO c q := fun z => by unfold LamX.CodeO at z; cases z
theorem code_dK {xs : List (Key × V)} (c : Addr) (q : Str) : HO.dK xs ≠ LamX.CodeO c q := fun z => by unfold LamX.CodeO at z; cases z
theorem code_ins {C d : Addr} {xs : List (Str × V)} (c : Addr) (q : Str) : HO.ins C d xs ≠ LamX.CodeO c q := fun z => by unfold LamX.CodeO at z; cases z
def SOk (v : V) : Prop := ∀ x, v = .str x → PyData.strOk x = true
theorem HdV.sok {CS : Addr} {H : Hp} {v : V} {b : Bool} (h : HdV CS H v b) : SOk v := fun x e => by
  subst e
  cases h with
  | str _ hx => exact hx
/-- the round's state: the store holds (st, hv), the account (st2, hv2) -/
structure J (TL : List (Addr × Str)) (CT CS : Addr) (H0 H : Hp) (w m a fi st : Addr) (hv : V) (st2 : Addr) (hv2 : V) (c : Int) : Prop where
  well : ∃ aw bw, Well H w aw bw c
  tabs : LamX.Tabs TL H
  map : Mp H m hv2 st2
  sto : ∃ dx, H a = some (.ins CT dx (flds st hv))
  hvo : HvOk hv
  sta : ∃ n k, StAt CS H st n k
  fis : ∃ dx fs, H fi = some (.ins CS dx fs)
  keep : Kp w H0 H
  nm : H0 m = none
  na : H0 a = none
  nc : CT ≠ CS
  sok : SOk hv
section
variable {TL : List (Addr × Str)} {CT CS : Addr} {H0 H H' : Hp} {w m a fi st st2 : Addr} {hv hv2 : V} {c : Int}
theorem J.lowW (j : J TL CT CS H0 H w m a fi st hv st2 hv2 c) (k : Kp w H H') : LowK CS H H' := by
  obtain ⟨aw, bw, W⟩ := j.well
  exact k.low W.at_ low_wl
theorem J.lowM (j : J TL CT CS H0 H w m a fi st hv st2 hv2 c) (k : Kp m H H') : LowK CS H H' := k.low j.map low_mp
theorem J.lowA (j : J TL CT CS H0 H w m a fi st hv st2 hv2 c) (k : Kp a H H') : LowK CS H H' := by
  obtain ⟨dx, W⟩ := j.sto
  exact k.low W (low_st j.nc)
theorem J.mw (j : J TL CT CS H0 H w m a fi st hv st2 hv2 c) : m ≠ w := by
  obtain ⟨aw, bw, W⟩ := j.well
  exact ne_of j.map W.at_ (fun z => nomatch z)
theorem J.aw (j : J TL CT CS H0 H w m a fi st hv st2 hv2 c) : a ≠ w := by
  obtain ⟨aw, bw, W⟩ := j.well
  obtain ⟨dx, s⟩ := j.sto
  exact ne_of s W.at_ (fun z => nomatch z)
theorem J.am (j : J TL CT CS H0 H w m a fi st hv st2 hv2 c) : a ≠ m := by
  obtain ⟨dx, s⟩ := j.sto
  exact ne_of s j.map (fun z => nomatch z)
theorem J.kpW {c' : Int} (j : J TL CT CS H0 H w m a fi st hv st2 hv2 c) (k : Kp w H H') (t : LamX.Tabs TL H') (W : ∃ aw bw, Well H' w aw bw c') : J TL CT CS H0 H' w m a fi st hv st2 hv2 c' := by
  have l := j.lowW k
  obtain ⟨dx, s⟩ := j.sto
  obtain ⟨n, k', z⟩ := j.sta
  obtain ⟨dx', fs, f⟩ := j.fis
  exact ⟨W, t, k _ _ j.map j.mw (fun _ z => nomatch z), ⟨dx, k _ _ s j.aw (fun _ z => nomatch z)⟩, j.hvo, ⟨n, k', z.low l⟩, ⟨dx', fs, l _ _ f (.inr (.inr (.inl ⟨_, _, rfl⟩)))⟩, j.keep.trans k, j.nm, j.na, j.nc, j.sok⟩
theorem J.same (j : J TL CT CS H0 H w m a fi st hv st2 hv2 c) (k : Same H H') : J TL CT CS H0 H' w m a fi st hv st2 hv2 c := by
  obtain ⟨aw, bw, W⟩ := j.well
  exact j.kpW (Kp.same k) (j.tabs.ext k) ⟨aw, bw, W.same k⟩
theorem J.ext (j : J TL CT CS H0 H w m a fi st hv st2 hv2 c) (k : LamX.ExtN H H') (t : LamX.Tabs TL H') : J TL CT CS H0 H' w m a fi st hv st2 hv2 c := by
  obtain ⟨aw, bw, W⟩ := j.well
  exact j.kpW (Kp.ext k) t ⟨aw, bw, k _ _ W.at_ (fun _ z => nomatch z), W.c0, W.c1⟩
theorem J.drew {c' aw bw : Int} (j : J TL CT CS H0 H w m a fi st hv st2 hv2 c) (k : But w H H') (W : Well H' w aw bw c') : J TL CT CS H0 H' w m a fi st hv st2 hv2 c' := by
  obtain ⟨aw', bw', W0⟩ := j.well
  exact j.kpW (Kp.but k) (tabs_but j.tabs k W0.at_ (fun _ z => nomatch z) code_lst) ⟨aw, bw, W⟩
theorem J.due {st3 : Addr} {hv3 : V} (j : J TL CT CS H0 H w m a fi st hv st2 hv2 c) (k : But m H H') (hm : Mp H' m hv3 st3) : J TL CT CS H0 H' w m a fi st hv st3 hv3 c := by
  have l := j.lowM (Kp.but k)
  obtain ⟨dx, s⟩ := j.sto
  obtain ⟨n, k', z⟩ := j.sta
  obtain ⟨dx', fs, f⟩ := j.fis
  obtain ⟨aw, bw, W⟩ := j.well
  exact ⟨⟨aw, bw, k _ _ W.at_ (Ne.symm j.mw), W.c0, W.c1⟩, tabs_but j.tabs k j.map (fun _ z => nomatch z) code_dK, hm, ⟨dx, k _ _ s j.am⟩, j.hvo, ⟨n, k', z.low l⟩, ⟨dx', fs, l _ _ f (.inr (.inr (.inl ⟨_, _, rfl⟩)))⟩,
    fun b o e n t => k _ _ (j.keep b o e n t) (fun z => by rw [z, j.nm] at e; cases e), j.nm, j.na, j.nc, j.sok⟩
theorem J.told {st3 dx3 : Addr} {hv3 : V} (j : J TL CT CS H0 H w m a fi st hv st2 hv2 c) (k : But a H H') (hm : H' a = some (.ins CT dx3 (flds st3 hv3))) (ho : HvOk hv3) (hso : SOk hv3) (hs : ∃ n k, StAt CS H' st3 n k) : J TL CT CS H0 H' w m a fi st3 hv3 st2 hv2 c := by
  have l := j.lowA (Kp.but k)
  obtain ⟨dx, s⟩ := j.sto
  obtain ⟨dx', fs, f⟩ := j.fis
  obtain ⟨aw, bw, W⟩ := j.well
  exact ⟨⟨aw, bw, k _ _ W.at_ (Ne.symm j.aw), W.c0, W.c1⟩, tabs_but j.tabs k s (fun _ z => nomatch z) code_ins, k _ _ j.map (Ne.symm j.am), ⟨dx3, hm⟩, ho, hs, ⟨dx', fs, l _ _ f (.inr (.inr (.inl ⟨_, _, rfl⟩)))⟩,
    fun b o e n t => k _ _ (j.keep b o e n t) (fun z => by rw [z, j.na] at e; cases e), j.nm, j.na, j.nc, hso⟩
end
/-! ### what the store answers is what is due -/
section
variable {K : PySem.W.Frag} {CT CS CL CE : Addr} {H : Hp} {a dx st s : Addr} {hv h : V} {b : Bool} {n k : Int} {tag : Str} {val hv' : V} {st' : Addr} {Q : VK}
theorem Due.hvo {word : Str} (d : Due hv h b n k st s word tag val hv' st') (o : HvOk hv) (l : word = "lock" → HvOk h) : HvOk hv' := by
  cases d with
  | held e => exact o
  | lock e => exact l rfl
  | no e nl => exact o
  | unlock e => exact .inl rfl
  | stale e _ => exact o
  | write e _ => exact o
theorem Due.sok {word : Str} (d : Due hv h b n k st s word tag val hv' st') (o : SOk hv) (l : SOk h) : SOk hv' := by
  cases d with
  | held e => exact o
  | lock e => exact l
  | no e nl => exact o
  | unlock e => exact fun x z => nomatch z
  | stale e _ => exact o
  | write e _ => exact o
theorem Due.tagOk {word : Str} (d : Due hv h b n k st s word tag val hv' st') : PyData.strOk tag = true := by
  cases d <;> decide +kernel
theorem Due.sts {word : Str} (d : Due hv h b n k st s word tag val hv' st') : st' = st ∨ st' = s := by
  cases d with
  | held e => exact .inl rfl
  | lock e => exact .inl rfl
  | no e nl => exact .inl rfl
  | unlock e => exact .inl rfl
  | stale e _ => exact .inl rfl
  | write e _ => exact .inr rfl
theorem Due.vals {word : Str} (d : Due hv h b n k st s word tag val hv' st') (o : HvOk hv) (so : SOk hv) : val = .non ∨ (∃ x, val = .str x ∧ PyData.strOk x = true) ∨ ∃ i, val = .int i := by
  have oo : hv = .non ∨ (∃ x, hv = .str x ∧ PyData.strOk x = true) ∨ ∃ i, hv = .int i := o.elim .inl (fun ⟨x, hx⟩ => .inr (.inl ⟨x, hx, so x hx⟩))
  cases d with
  | held e => exact oo
  | lock e => exact .inl rfl
  | no e nl => exact oo
  | unlock e => exact .inl rfl
  | stale e _ => exact .inr (.inr ⟨_, rfl⟩)
  | write e _ => exact .inl rfl
def After (CT : Addr) (H : Hp) (a dx : Addr) (st' : Addr) (hv' : V) (tag : Str) (val : V) (Q : VK) : Prop := ∀ t H2, But a H H2 → H2 a = some (.ins CT dx (flds st' hv')) → H2 t = some (.tup [.str tag, val]) → Q (.ref t) H2
def Told (Q : VK) : VK := fun v H2 => ∀ t, H2 t = none → Q (.ref t) (upd H2 t (.tup [.str "told", v]))
theorem lk_of (A : After CT H a dx st hv "locked" hv Q) (ha : H a = some (.ins CT dx (flds st hv))) : Rais CL "holder" hv H (EchT CL CE Q) := fun d H' hd m e =>
  .inl ⟨rfl, d, hv, rfl, e, fun t ht => A t _ ((But.of m).trans (But.of (same_new ht))) (same_new ht _ _ (m _ _ ha)) upd_same⟩
theorem sl_of (A : After CT H a dx st hv "stale" (.int n) Q) (ha : H a = some (.ins CT dx (flds st hv))) : Rais CE "serial" (.int n) H (EchT CL CE Q) := fun d H' hd m e =>
  .inr ⟨rfl, d, .int n, rfl, e, fun t ht => A t _ ((But.of m).trans (But.of (same_new ht))) (same_new ht _ _ (m _ _ ha)) upd_same⟩
theorem td_of {H2 : Hp} {t : Addr} (A : After CT H a dx st' hv' "told" .non Q) (m : But a H H2) (ha : H2 a = some (.ins CT dx (flds st' hv'))) (ht : H2 t = none) : Q (.ref t) (upd H2 t (.tup [.str "told", .non])) :=
  A t _ (m.trans (But.of (same_new ht))) (same_new ht _ _ ha) upd_same
theorem told_write (ha : H a = some (.ins CT dx (flds st hv))) (o1 : HvOk hv) (o2 : HdOk K H h b) (s1 : Ser CS H st n) (s2 : Ser CS H s k) (d : Due hv h b n k st s "write" tag val hv' st') (A : After CT H a dx st' hv' tag val Q) :
    spWrite K CT CS CL CE [.ref a, h, .ref s] H (Told Q) (EchT CL CE Q) := by
  refine ⟨a, dx, st, s, hv, h, b, n, k, rfl, ha, o1, o2, s1, s2, fun z => ?_, fun z y => ?_, fun z y H' bu e t ht => ?_⟩
  · generalize hw : ("write" : Str) = wd at d
    cases d with
    | held e => exact absurd hw (by decide +kernel)
    | lock e => exact absurd hw (by decide +kernel)
    | no e nl => exact lk_of A ha
    | unlock e => exact absurd hw (by decide +kernel)
    | stale e _ => exact absurd e z
    | write e _ => exact absurd e z
  · generalize hw : ("write" : Str) = wd at d
    cases d with
    | held e => exact absurd hw (by decide +kernel)
    | lock e => exact absurd hw (by decide +kernel)
    | no e nl => exact absurd z e
    | unlock e => exact absurd hw (by decide +kernel)
    | stale e _ => exact sl_of A ha
    | write e x => exact absurd x y
  · generalize hw : ("write" : Str) = wd at d
    cases d with
    | held e => exact absurd hw (by decide +kernel)
    | lock e => exact absurd hw (by decide +kernel)
    | no e nl => exact absurd z e
    | unlock e => exact absurd hw (by decide +kernel)
    | stale e x => exact absurd y x
    | write _ x => exact td_of A bu e ht
theorem told_unlock (ha : H a = some (.ins CT dx (flds st hv))) (o1 : HvOk hv) (o2 : HdOk K H h b) (d : Due hv h b n k st s "unlock" tag val hv' st') (A : After CT H a dx st' hv' tag val Q) :
    spUnlock K CT CL [.ref a, h] H (Told Q) (EchT CL CE Q) := by
  refine ⟨a, dx, st, hv, h, b, rfl, ha, o1, o2, fun z t ht => ?_, fun z => ?_⟩
  · generalize hw : ("unlock" : Str) = wd at d
    cases d with
    | held e => exact absurd hw (by decide +kernel)
    | lock e => exact absurd hw (by decide +kernel)
    | no e nl => exact absurd z e
    | unlock e => exact td_of A But.upd upd_same ht
    | stale e _ => exact absurd hw (by decide +kernel)
    | write e _ => exact absurd hw (by decide +kernel)
  · generalize hw : ("unlock" : Str) = wd at d
    cases d with
    | held e => exact absurd hw (by decide +kernel)
    | lock e => exact absurd hw (by decide +kernel)
    | no e nl => exact lk_of A ha
    | unlock e => exact absurd e z
    | stale e _ => exact absurd hw (by decide +kernel)
    | write e x => exact absurd hw (by decide +kernel)
theorem told_lock (ha : H a = some (.ins CT dx (flds st hv))) (d : Due hv h b n k st s "lock" tag val hv' st') (A : After CT H a dx st' hv' tag val Q) :
    spLock CT CL [.ref a, h] H (Told Q) (EchT CL CE Q) := by
  refine ⟨a, dx, st, hv, h, rfl, ha, fun z t ht => ?_, fun z => ?_⟩
  · generalize hw : ("lock" : Str) = wd at d
    cases d with
    | held e => exact absurd z e
    | lock e => exact td_of A But.upd upd_same ht
    | no e nl => exact absurd hw.symm nl
    | unlock e => exact absurd hw (by decide +kernel)
    | stale e _ => exact absurd hw (by decide +kernel)
    | write e _ => exact absurd hw (by decide +kernel)
  · generalize hw : ("lock" : Str) = wd at d
    cases d with
    | held e => exact lk_of A ha
    | lock e => exact absurd e z
    | no e nl => exact absurd hw.symm nl
    | unlock e => exact absurd hw (by decide +kernel)
    | stale e _ => exact absurd hw (by decide +kernel)
    | write e x => exact absurd hw (by decide +kernel)
end
/-! ### new States and Stores -/
theorem mkSt {CS : Addr} {H1 : Hp} {o d u : Addr} {n k : Int} {Q : Addr → Hp → Prop} {E : XK} (ho : H1 o = some (.dK [])) (hd : H1 d = some (.dK [])) (hu : H1 u = some (.dK [(Sum.inr "out", .int k)])) (kk : ∀ x H2, H1 x = none → Same H1 H2 → StAt CS H2 x n k → Q x H2) :
    ∀ x dx, H1 x = none → H1 dx = none → dx ≠ x → spStI CS (.ref x :: ([.ref o, .ref d, .ref u, .int n] ++ [])) (upd (upd H1 dx (.own x)) x (.ins CS dx [])) (fun v H2 => v = .non ∧ Q x H2) E := fun x dx hx hdx nx => by
  have m1 : Same H1 (upd (upd H1 dx (.own x)) x (.ins CS dx [])) := (same_new hdx).trans (same_new (by rw [upd_ne (Ne.symm nx)]; exact hx))
  exact ⟨x, dx, o, d, u, n, k, rfl, upd_same, m1 _ _ ho, m1 _ _ hd, m1 _ _ hu, fun H' bu st => ⟨rfl, kk x H' hx (bu.same m1 hx) st⟩⟩
theorem mkSto {CT : Addr} {H1 : Hp} {st : Addr} {Q : Addr → Hp → Prop} {E : XK} (kk : ∀ x dx H2, H1 x = none → Same H1 H2 → H2 x = some (.ins CT dx (flds st .non)) → Q x H2) :
    ∀ x dx, H1 x = none → H1 dx = none → dx ≠ x → spSInit CT (.ref x :: ([.ref st] ++ [])) (upd (upd H1 dx (.own x)) x (.ins CT dx [])) (fun v H2 => v = .non ∧ Q x H2) E := fun x dx hx hdx nx => by
  have m1 : Same H1 (upd (upd H1 dx (.own x)) x (.ins CT dx [])) := (same_new hdx).trans (same_new (by rw [upd_ne (Ne.symm nx)]; exact hx))
  exact ⟨x, dx, st, rfl, upd_same, fun H' bu st => ⟨rfl, kk x dx H' hx (bu.same m1 hx) st⟩⟩
end K25

namespace K25
open PySem L2 XR
abbrev TLof (PT : Addr) : List (Addr × Str) := [(PT, ("_law_right" : Str) ++ ".<locals>." ++ "<lambda>")]
def spRight (PT : Addr) : Sp := fun vs H Q _ => ∃ (w : Addr) (a b c : Int), vs = [.ref w] ∧ Well H w a b c ∧ c ≤ 900000 ∧ LamX.Tabs (TLof PT) H ∧ ∀ (a' b' c' : Int) (H' : Hp), c' ≤ c + 200 → Well H' w a' b' c' → LamX.Tabs (TLof PT) H' → Kp w H H' → Q (.bl true) H'
section
variable {P : Program} {w : World} {K : PySem.W.Frag} {mg : Str → Option Value} {base : Heap}
theorem scR : FnScope ["_law_well_here", "_law_first", "_law_m", "_law_turn", "_law_number", "_law_due_here", "_law_told_here", "_law_holder", "_law_state", "_law_store", "_law_word"] ["_law_well_here"] (defScope sRight) := ⟨rfl, rfl, rfl, by decide +kernel, rfl, by decide +kernel, by decide +kernel⟩
theorem seq_cut {t u : TS} {D : Ends} {σ : L2.St} {H : Hp} (R : L2.St → Hp → Prop) (k : ∀ N : L2.St → Hp → Prop, (∀ σ H, R σ H → N σ H) → t { D with nx := N } σ H) (h2 : ∀ σ H, R σ H → u D σ H) : tSeq t u D σ H := k (u D) h2
theorem gname_i {i : Nat} {v : V} {σ : L2.St} {H : Hp} {Q : L2.St → Hp → Prop} (h : Q (σ.set i (some v)) H) : gName i v σ H Q := h
theorem out1 (v : V) : mergeK [] [((Sum.inr ("out" : Str) : Key), v)] = [((Sum.inr ("out" : Str) : Key), v)] := rfl
theorem ok_right {f c PT CT CS CV CU CP CL CE fSt fTt fD fO fDu fTo fW fL fU fK fQ : Addr} {dSt dTt dD dO dDu dW dL dU dK dQ : FuncData} {oc kV doc pm ct ocT kVT docT pmT cdvT ctT : Value} {od an odT anT : Option Addr} {osl oslT : Array (Option Value)}
    (lk : K.lookup f = some ⟨oc, od, .func (PySem.W.fnOf "_law_right" "_law_right" (defArgs sRight) (defBody sRight) (defScope sRight) .none kV doc pm an (.ref c) ct), osl⟩) (hcd : PySem.W.codeIn K (.ref c) "_law_right" = true)
    (R_ts : STxt K mg CT CS) (R_tv : VTxt K mg CV CU CS) (R_ks : PySem.W.kitOne K (.ref CS) (.type "str") = some false) (R_nc : CT ≠ CS) (R_range : mg "range" = none)
    (R_kSt : Mk K CS fSt) (R_gSt : FnOk P w K mg base CX0 3 fSt dSt ["self", "objects", "deposed", "outputs", "serial"] (spStI CS)) (R_nSt : mg "State" = some (.ref CS)) (R_bSt : Binds K dSt ["self", "objects", "deposed", "outputs", "serial"] [])
    (R_kTt : Mk K CT fTt) (R_gTt : FnOk P w K mg base CX0 1 fTt dTt ["self", "state"] (spSInit CT)) (R_nTt : mg "Store" = some (.ref CT)) (R_bTt : Binds K dTt ["self", "state"] [])
    (R_gD : FnOk P w K mg base CX0 1 fD dD ["_law_well_here", "_law_often"] spDraw) (R_nD : mg "_law_draw" = some (.ref fD)) (R_kD : PySem.W.keepIn K (.ref fD) = true) (R_bD : Binds K dD ["_law_well_here", "_law_often"] [])
    (R_gO : FnOk P w K mg base CX0 2 fO dO ["_law_well_here", "_law_some"] (spOne K)) (R_nO : mg "_law_one" = some (.ref fO)) (R_kO : PySem.W.keepIn K (.ref fO) = true) (R_bO : Binds K dO ["_law_well_here", "_law_some"] [])
    (R_gDu : FnOk P w K mg base CX0 1 fDu dDu ["_law_m", "_law_word", "_law_holder", "_law_state"] (spDue K CS)) (R_nDu : mg "_law_due" = some (.ref fDu)) (R_kDu : PySem.W.keepIn K (.ref fDu) = true) (R_bDu : Binds K dDu ["_law_m", "_law_word", "_law_holder", "_law_state"] [])
    (R_to : ToldOk K mg CP CL CE) (R_gTo : mg "_law_told" = some (.ref fTo)) (R_kTo : PySem.W.keepIn K (.ref fTo) = true) (R_lTo : K.lookup fTo = some ⟨ocT, odT, .func (PySem.W.fnOf "_law_told" "_law_told" (defArgs sTold) (defBody sTold) (defScope sTold) .none kVT docT pmT anT cdvT ctT), oslT⟩) (R_cTo : PySem.W.codeIn K cdvT "_law_told" = true)
    (R_bTo : Binds K (PySem.W.fnOf "_law_told" "_law_told" (defArgs sTold) (defBody sTold) (defScope sTold) .none kVT docT pmT anT cdvT ctT) ["_law_ask"] [])
    (R_mW : Meth K CT "write" fW) (R_gW : FnOk P w K mg base (L2.CX P w) 4 fW dW ["self", "holder", "state"] (spWrite K CT CS CL CE)) (R_bW : Binds K dW ["self", "holder", "state"] [])
    (R_mL : Meth K CT "lock" fL) (R_gL : FnOk P w K mg base (L2.CX P w) 3 fL dL ["self", "holder"] (spLock CT CL)) (R_bL : Binds K dL ["self", "holder"] [])
    (R_mU : Meth K CT "unlock" fU) (R_gU : FnOk P w K mg base (L2.CX P w) 4 fU dU ["self", "holder"] (spUnlock K CT CL)) (R_bU : Binds K dU ["self", "holder"] [])
    (R_mK : Meth K CT "kept" fK) (R_gK : FnOk P w K mg base CX0 1 fK dK ["self"] (spKept CT)) (R_bK : Binds K dK ["self"] [])
    (R_gQ : FnOk P w K mg base CX0 6 fQ dQ ["self", "other"] (spEq (REq CS))) (R_eQ : PySem.W.findIn K (.ref CS) "__eq__" = some (some (.ref fQ))) (R_isQ : PySem.W.isFn K (.ref fQ) = true) (R_bQ : Binds K dQ ["self", "other"] [])
    (TB : LamX.TabB base mg c PT) :
    FnOk P w K mg base CX0 7 f (PySem.W.fnOf "_law_right" "_law_right" (defArgs sRight) (defBody sRight) (defScope sRight) .none kV doc pm an (.ref c) ct) ["_law_well_here"] (spRight PT) := by
  refine fn_of lk hcd scR (fun vs H Q E h => ?_) (fun A outer s0 H vs Q E hr h => ?_)
  · obtain ⟨w, a, b, c, rfl, _⟩ := h
    rfl
  · have hu := hu_of hr
    have hr6 : Room 6 _ := hr
    have hr1 : Room 1 _ := hr.mono (by decide)
    have hr2 : Room 2 _ := hr.mono (by decide)
    have hr4 : Room 4 _ := hr.mono (by decide)
    have R_tm : (PT, ("_law_right" : Str) ++ ".<locals>." ++ "<lambda>") ∈ TLof PT := List.mem_singleton.mpr rfl
    have R_tu : ∀ p ∈ TLof PT, p.1 = PT → p.2 = ("_law_right" : Str) ++ ".<locals>." ++ "<lambda>" := fun p hp _ => by rw [List.mem_singleton.mp hp]
    obtain ⟨wl, a, b, c0, rfl, W, hc, tb, kk⟩ := h
    have go : ∃ t, PSs (cxOf CX0 P w K mg base ["_law_well_here", "_law_first", "_law_m", "_law_turn", "_law_number", "_law_due_here", "_law_told_here", "_law_holder", "_law_state", "_law_store", "_law_word"] "_law_right" (defScope sRight) f (.ref c) A outer s0 H E).nox (defBody sRight) t ∧ t { nx := fun _ H' => Q .non H', rt := Q } (L2.start ["_law_well_here", "_law_first", "_law_m", "_law_turn", "_law_number", "_law_due_here", "_law_told_here", "_law_holder", "_law_state", "_law_store", "_law_word"] [.ref wl]) H := by
      refine ⟨_, (pss_cons (ps_set (i := 1) scR.nd rfl (Or.inl rfl) (pe_make R_kSt R_gSt hr4 rfl R_nSt R_bSt .nil pass0 (pa_cons pe_dnewK (pa_cons pe_dnewK (pa_cons (pe_disp (pps_cons pe_str pe_int pps_nil) (by rfl) (by rfl) (fun z => by cases z) (by decide)) (pa_cons (pe_call R_gD hr1 rfl R_nD R_kD R_bD .nil pass0 (pa_cons (pv 0) (pa_cons pe_int pa_nil))) pa_nil))))))
      (pss_cons (ps_asg (pe_tup (pa_cons (pe_make R_kTt R_gTt hr2 rfl R_nTt R_bTt .nil pass0 (pa_cons (pv 1) pa_nil)) (pa_cons (pe_disp (pps_cons pe_str pe_non (pps_cons pe_str (pv 1) pps_nil)) (by rfl) (by rfl) (fun z => by cases z) (by decide)) pa_nil))) (pg_tup rfl (pgs_cons (pg_name (i := 9) scR.nd rfl (Or.inr rfl)) (pgs_cons (pg_name (i := 2) scR.nd rfl (Or.inl rfl)) pgs_nil))))
      (pss_cons (ps_for PassesOwn.never rfl (pi_range1 (by rfl) R_range (pa_cons (pe_op op_add pe_int (pe_call R_gD hr1 rfl R_nD R_kD R_bD .nil pass0 (pa_cons (pv 0) (pa_cons pe_int pa_nil)))) pa_nil)) (pg_name (i := 3) scR.nd rfl (Or.inl rfl))
        (pss_cons (ps_set (i := 10) scR.nd rfl (Or.inr rfl) (pe_call R_gO hr2 rfl R_nO R_kO R_bO .nil pass0 (pa_cons (pv 0) (pa_cons (pe_lst (pa_cons pe_str (pa_cons pe_str (pa_cons pe_str (pa_cons pe_str (pa_cons pe_str pa_nil)))))) pa_nil))))
        (pss_cons (ps_set (i := 7) scR.nd rfl (Or.inr rfl) (pe_call R_gO hr2 rfl R_nO R_kO R_bO .nil pass0 (pa_cons (pv 0) (pa_cons (pe_lst (pa_cons pe_str (pa_cons pe_str (pa_cons pe_str (pa_cons pe_str (pa_cons pe_str (pa_cons pe_str pa_nil))))))) pa_nil))))
        (pss_cons (ps_if (PW.pt (pw_and (pt_cmpR op_ne (pv 10) pe_str (nomark _)) (pw_and1 (pt_cmpR op_eq (pe_call R_gD hr1 rfl R_nD R_kD R_bD .nil pass0 (pa_cons (pv 0) (pa_cons pe_int pa_nil))) pe_int (nomark _))))) (pss_one (ps_set (i := 7) scR.nd rfl (Or.inr rfl) (pe_call R_gO hr2 rfl R_nO R_kO R_bO .nil pass0 (pa_cons (pv 0) (pa_cons (pe_lst (pa_cons pe_non (pa_cons pe_int (pa_cons pe_bl (pa_cons (pe_tup (pa_cons pe_str pa_nil)) (pa_cons (pe_lst pa_nil) (pa_cons pe_dnewK (pa_cons (pv 1) pa_nil)))))))) pa_nil))))) pss_nil)
        (pss_cons (ps_set (i := 4) scR.nd rfl (Or.inl rfl) (pe_op op_add (pe_fld (pe_dget hu (pv 2) pe_str (fun _ _ => rfl)) rfl) (pe_call R_gO hr2 rfl R_nO R_kO R_bO .nil pass0 (pa_cons (pv 0) (pa_cons (pe_lst (pa_cons pe_int (pa_cons pe_int (pa_cons pe_int (pa_cons pe_int (pa_cons pe_int (pa_cons (pe_un un_neg pe_int) (pa_cons pe_int pa_nil)))))))) pa_nil)))))
        (pss_cons (ps_set (i := 8) scR.nd rfl (Or.inr rfl) (pe_make R_kSt R_gSt hr4 rfl R_nSt R_bSt .nil pass0 (pa_cons pe_dnewK (pa_cons pe_dnewK (pa_cons (pe_disp (pps_cons pe_str (pv 3) pps_nil) (by rfl) (by rfl) (fun z => by cases z) (by decide)) (pa_cons (pv 4) pa_nil))))))
        (pss_cons (ps_set (i := 5) scR.nd rfl (Or.inl rfl) (pe_call R_gDu hr1 rfl R_nDu R_kDu R_bDu .nil pass0 (pa_cons (pv 2) (pa_cons (pv 10) (pa_cons (pv 7) (pa_cons (pv 8) pa_nil))))))
        (pss_cons (ps_if (pt_cmpR op_eq (pv 10) pe_str (nomark _)) (pss_one (ps_set (i := 6) scR.nd rfl (Or.inl rfl) (LamX.pe_lamcall (T := TLof PT) (TT := TTold CL CE) (k := 4) rfl R_gTo R_kTo R_lTo R_cTo R_bTo scTo rfl (Or.inl rfl) (told_gives R_to) TB rfl R_tm R_tu hr6 (LamX.lamS_by (sc := defScope sRight) (by decide +kernel)) rfl (fun _ _ _ _ _ => rfl) (fun A' outer' s' H' E' f' c' hr' => (pe_meth (pv 9) R_ts.cl R_mW R_gW hr' R_bW .nil (passes_call (takes_of rfl rfl rfl rfl) (fun _ _ _ _ h => h)) (pa_cons (pv 7) (pa_cons (pv 8) pa_nil))))))) (pss_one (ps_set (i := 6) scR.nd rfl (Or.inl rfl) (LamX.pe_lamcall (T := TLof PT) (TT := TTold CL CE) (k := 4) rfl R_gTo R_kTo R_lTo R_cTo R_bTo scTo rfl (Or.inl rfl) (told_gives R_to) TB rfl R_tm R_tu hr6 (LamX.lamS_by (sc := defScope sRight) (by decide +kernel)) rfl (fun _ _ _ _ _ => rfl) (fun A' outer' s' H' E' f' c' hr' => (pe_ifExp (pt_cmpR op_eq (pv 10) pe_str (nomark _)) (pe_meth (pv 9) R_ts.cl R_mL R_gL (hr'.mono (by decide)) R_bL .nil (passes_call (takes_of rfl rfl rfl rfl) (fun _ _ _ _ h => h)) (pa_cons (pv 7) pa_nil)) (pe_meth (pv 9) R_ts.cl R_mU R_gU hr' R_bU .nil (passes_call (takes_of rfl rfl rfl rfl) (fun _ _ _ _ h => h)) (pa_cons (pv 7) pa_nil))))))))
        (pss_one (ps_if (PW.pt (pw_or (pt_cmpR (op_neD hr.units) (pv 6) (pv 5) (nomark _)) (pw_or (pt_not (pt_cmpR (op_eqG (rcG_ins R_gQ R_eQ R_isQ R_bQ pass0) hr6) (pe_meth0 (pv 9) R_ts.cl R_mK R_gK hr1 R_bK .nil pass0) (pe_dget hu (pv 2) pe_str (fun _ _ => rfl)) (nomark _))) (pw_or1 (pt_cmpR (op_ne_dictA (Nat.lt_of_succ_lt hu)) (pe_fld (pe_meth0 (pv 9) R_ts.cl R_mK R_gK hr1 R_bK .nil pass0) rfl) (pe_fld (pe_dget hu (pv 2) pe_str (fun _ _ => rfl)) rfl) (nomark _)))))) (pss_one (ps_ret pe_bl)) pss_nil))))))))))
      (pss_one (ps_ret pe_bl))))), ?_⟩
      -- first
      intro p1 h1
      have n1 := same_new (o := .dK []) h1
      have e1 := at_new (o := .dK []) h1
      generalize (upd H p1 (.dK [])) = H1 at n1 e1 ⊢
      intro p2 h2
      have n2 := same_new (o := .dK []) h2
      have e2 := at_new (o := .dK []) h2
      generalize (upd H1 p2 (.dK [])) = H2 at n2 e2 ⊢
      intro p3 h3
      refine ⟨upd_same, [(Sum.inr "out", .int 0)], rfl, (by show 1 ≤ 15; decide), ?_⟩
      rw [out1]
      have n3 : Same H2 (upd (upd H2 p3 (.dK [])) p3 (.dK [(Sum.inr "out", .int 0)])) := fun b o e => by rw [upd_ne (ne_of_none e h3), upd_ne (ne_of_none e h3)]; exact e
      have e3 : (upd (upd H2 p3 (.dK [])) p3 (.dK [(Sum.inr "out", .int 0)])) p3 = some (.dK [(Sum.inr "out", .int 0)]) := upd_same
      generalize (upd (upd H2 p3 (.dK [])) p3 (.dK [(Sum.inr "out", .int 0)])) = H3 at n3 e3 ⊢
      have n13 := (n1.trans n2).trans n3
      have W3 := W.same n13
      refine ⟨_, rfl, wl, a, b, c0, 5, rfl, W3, by omega, by decide, by decide, fun d a' c1 H4 d0 d1 hc1 W4 B4 => ?_⟩
      have dw : ∀ {q : Addr} {kvs : List (Key × V)}, H3 q = some (.dK kvs) → q ≠ wl := fun h => ne_of h W3.at_ (fun z => nomatch z)
      have f1 := B4 _ _ (n3 _ _ (n2 _ _ e1)) (dw (n3 _ _ (n2 _ _ e1)))
      have f2 := B4 _ _ (n3 _ _ e2) (dw (n3 _ _ e2))
      have f3 := B4 _ _ e3 (dw e3)
      have t4 := tabs_but (tb.ext n13) B4 W3.at_ (fun _ z => nomatch z) code_lst
      have b4 : But wl H H4 := (But.of n13).trans B4
      have k4 : Kp wl H H4 := (Kp.same n13).trans (Kp.but B4)
      refine mkSt f1 f2 f3 fun fi H5 _ n5 st5 => ?_
      have W5 := W4.same n5
      have t5 := t4.ext n5
      have k5 := k4.trans (Kp.same n5)
      have b5 := b4.trans (But.of n5)
      clear W4 t4 k4 f1 f2 f3 dw W3 n13 B4 e1 e2 e3 n1 n2 n3
      -- store, m
      refine ⟨_, rfl, mkSto fun sa dxa H6 ha0 n6 a6 => ?_⟩
      have W6 := W5.same n6
      have t6 := t5.ext n6
      have k6 := k5.trans (Kp.same n6)
      have b6 := b5.trans (But.of n6)
      have st6 := st5.same n6
      intro m hm0
      refine ⟨_, rfl, upd_same, [(kHo, .non), (kSt, .ref fi)], rfl, (by show 2 ≤ 15; decide), ?_⟩
      have m6 : Same H6 (upd (upd H6 m (.dK [])) m (.dK (mergeK [] [(kHo, .non), (kSt, .ref fi)]))) := fun b o e => by rw [upd_ne (ne_of_none e hm0), upd_ne (ne_of_none e hm0)]; exact e
      have em : Mp (upd (upd H6 m (.dK [])) m (.dK (mergeK [] [(kHo, .non), (kSt, .ref fi)]))) m .non fi := by
        show _ = _
        rw [upd_same]
        have e : mergeK [] [(kHo, V.non), (kSt, .ref fi)] = [(kHo, .non), (kSt, .ref fi)] := by
          show putK (putK [] kHo V.non) kSt (.ref fi) = _
          have e0 : putK [] kHo V.non = [(kHo, .non)] := rfl
          rw [e0]
          simp [putK]
          exact fun z => absurd z (by decide +kernel)
        rw [e]
      generalize (upd (upd H6 m (.dK [])) m (.dK (mergeK [] [(kHo, .non), (kSt, .ref fi)]))) = H7 at m6 em ⊢
      refine ⟨(by show 2 ≤ sizeLine; decide), fun tp htp => ?_⟩
      have n8 := same_new (o := .tup [.ref sa, .ref m]) htp
      have e8 := at_new (o := .tup [.ref sa, .ref m]) htp
      generalize (upd H7 tp (.tup [.ref sa, .ref m])) = H8 at n8 e8 ⊢
      refine ⟨tp, _, rfl, SqT.of e8, rfl, _, _, rfl, _, _, rfl, rfl, ?_⟩
      have m68 := m6.trans n8
      have fresh : ∀ {G : Hp} {q : Addr} {xs : List V}, But wl H G → G wl = some (.lst xs) → G q = none → H q = none := fun {G q xs} bu hw h => by
        cases z : H q with
        | none => rfl
        | some u =>
          by_cases e : q = wl
          · rw [e, hw] at h; cases h
          · rw [bu _ _ z e] at h; cases h
      have j8 : J (TLof PT) CT CS H H8 wl m sa fi fi .non fi .non c1 := ⟨⟨_, _, W6.same m68⟩, t6.ext m68, n8 _ _ em, ⟨dxa, m68 _ _ a6⟩, .inl rfl, ⟨_, _, st6.same m68⟩, (let ⟨dx, o, d, u, z, _⟩ := (st6.same m68).ex; ⟨dx, _, z⟩), k6.trans (Kp.same m68), fresh b6 W6.at_ hm0, fresh b5 W5.at_ ha0, R_nc, fun x z => nomatch z⟩
      clear W6 t6 k6 st6 em e8 a6 W5 t5 k5 st5
      -- for turn in range(5 + draw)
      obtain ⟨aw, bw, W8⟩ := j8.well
      refine ⟨_, rfl, wl, aw, bw, c1, 26, rfl, W8, by omega, by decide, by decide, fun d2 a2 c2 H9 d20 d21 hc2 W9 B9 => ?_⟩
      have j9 := j8.drew B9 W9
      refine ⟨5, d2, rfl, rfl, 5 + d2, rfl, ?_⟩
      refine ⟨by omega, by omega, for_range (lo := 0) (n := (5 + d2).toNat) (fun i σ H' => ∃ x3 x4 x5 x6 x7 x8 x10 : Option V, σ = [some (.ref wl), some (.ref fi), some (.ref m), x3, x4, x5, x6, x7, x8, some (.ref sa), x10] ∧
        ∃ st hv c', c' ≤ c2 + 5 * (i : Int) ∧ J (TLof PT) CT CS H H' wl m sa fi st hv st hv c') ⟨none, none, none, none, none, none, none, rfl, fi, .non, c2, by omega, j9⟩ (fun i σ H' hi hP => ?_) (fun σ H' hP => ?_)⟩
      case refine_2 =>
        obtain ⟨x3, x4, x5, x6, x7, x8, x10, rfl, st, hv, c', hc', j⟩ := hP
        obtain ⟨aw', bw', W'⟩ := j.well
        exact kk _ _ c' H' (by omega) W' j.tabs j.keep
      obtain ⟨x3, x4, x5, x6, x7, x8, x10, rfl, st, hv, c', hc', j⟩ := hP
      clear j8 j9 W8 W9 B9 n8 m6 m68 n6 n5 tb
      -- the word
      obtain ⟨aw1, bw1, V1⟩ := j.well
      refine ⟨_, rfl, (by show 5 ≤ sizeLine; decide), fun l1 hl1 => ?_⟩
      have q1 := same_new (o := .lst [.str "lock", .str "unlock", .str "write", .str "write", .str "write"]) hl1
      have r1 := at_new (o := .lst [.str "lock", .str "unlock", .str "write", .str "write", .str "write"]) hl1
      have nl1 : l1 ≠ wl := fun z => by rw [z, V1.at_] at hl1; cases hl1
      have j1 := j.same q1
      generalize (upd H' l1 (.lst [.str "lock", .str "unlock", .str "write", .str "write", .str "write"])) = G1 at q1 r1 j1 ⊢
      refine ⟨wl, l1, aw1, bw1, c', _, rfl, V1.same q1, by omega, r1, nl1, by decide, by decide, fun v1 a1 c1' G2 hv1 hcc1 U1 D1 => ?_⟩
      have j2 := j1.drew D1 U1
      obtain ⟨word, rfl, hword⟩ : ∃ x : Str, v1 = .str x ∧ (x = "lock" ∨ x = "unlock" ∨ x = "write") := by
        simp only [List.mem_cons, List.not_mem_nil, or_false] at hv1
        rcases hv1 with rfl | rfl | rfl | rfl | rfl
        · exact ⟨_, rfl, .inl rfl⟩
        · exact ⟨_, rfl, .inr (.inl rfl)⟩
        · exact ⟨_, rfl, .inr (.inr rfl)⟩
        · exact ⟨_, rfl, .inr (.inr rfl)⟩
        · exact ⟨_, rfl, .inr (.inr rfl)⟩
      clear j j1 r1 q1 D1 V1 hl1
      -- the holder
      refine ⟨_, rfl, (by show 6 ≤ sizeLine; decide), fun l2 hl2 => ?_⟩
      have nl2 : l2 ≠ wl := fun z => by rw [z, U1.at_] at hl2; cases hl2
      have q2 := same_new (o := .lst [.str "ann", .str "ben", .str "ann", .str "ann", .str "", .str "ben"]) hl2
      have r2 := at_new (o := .lst [.str "ann", .str "ben", .str "ann", .str "ann", .str "", .str "ben"]) hl2
      have j3 := j2.same q2
      generalize (upd G2 l2 (.lst [.str "ann", .str "ben", .str "ann", .str "ann", .str "", .str "ben"])) = G3 at q2 r2 j3 ⊢
      refine ⟨wl, l2, a1, bw1, c1', _, rfl, U1.same q2, by omega, r2, nl2, by decide, by decide, fun v2 a2' c2' G4 hv2 hcc2 U2 D2 => ?_⟩
      have j4 := j3.drew D2 U2
      obtain ⟨hol, rfl, hso⟩ : ∃ x : Str, v2 = .str x ∧ PyData.strOk x = true := by
        simp only [List.mem_cons, List.not_mem_nil, or_false] at hv2
        rcases hv2 with rfl | rfl | rfl | rfl | rfl | rfl <;> exact ⟨_, rfl, by decide +kernel⟩
      clear j2 j3 r2 q2 D2 hl2 U1
      refine gname_i ?_
      dsimp only
      refine seq_cut (fun σ G => ∃ hol b cc, σ = [some (.ref wl), some (.ref fi), some (.ref m), some (.int (0 + (i : Int))), x4, x5, x6, some hol, x8, some (.ref sa), some (.str word)] ∧ HdV CS G hol b ∧ (word = "lock" → b = true) ∧ cc ≤ c' + 4 ∧ J (TLof PT) CT CS H G wl m sa fi st hv st hv cc) (fun Nx hN => ?_) (fun σ G hR => ?_)
      · refine ⟨_, rfl, rfl, _, rfl, ?_⟩
        by_cases ew : word = "lock"
        · subst ew
          refine iteF (iteF ?_)
          exact hN _ _ ⟨_, true, c2', rfl, .str hol hso, fun _ => rfl, by omega, j4⟩
        have ew' : ¬ V.str word = V.str "lock" := fun z => ew (by cases z; rfl)
        rw [decide_eq_false ew']
        refine iteT ?_
        refine ⟨_, rfl, wl, a2', bw1, c2', 6, rfl, U2, by omega, by decide, by decide, fun d3 a3 c3 G5 d30 d31 hc3 U3 D3 => ?_⟩
        have j5 := j4.drew D3 U3
        refine ⟨rfl, _, rfl, ?_⟩
        by_cases ed : d3 = 0
        case neg =>
          have ed' : ¬ V.int d3 = V.int 0 := fun z => ed (by cases z; rfl)
          rw [decide_eq_false ed']
          refine iteF ?_
          exact hN _ _ ⟨_, true, c3, rfl, .str hol hso, fun _ => rfl, by omega, j5⟩
        subst ed
        refine iteT ?_
        refine ⟨_, rfl, ?_⟩
        refine ⟨(by show 1 ≤ sizeLine; decide), fun tu htu => ?_⟩
        have q5 := same_new (o := .tup [.str "ann"]) htu
        have r5 := at_new (o := .tup [.str "ann"]) htu
        generalize (upd G5 tu (.tup [.str "ann"])) = G6 at q5 r5 ⊢
        refine ⟨(by show 0 ≤ sizeLine; decide), fun le hle => ?_⟩
        have q6 := same_new (o := .lst []) hle
        have r6 := at_new (o := .lst []) hle
        generalize (upd G6 le (.lst [])) = G7 at q6 r6 ⊢
        intro de hde
        have q7 := same_new (o := .dK []) hde
        have r7 := at_new (o := .dK []) hde
        generalize (upd G7 de (.dK [])) = G8 at q7 r7 ⊢
        refine ⟨_, rfl, (by show 7 ≤ sizeLine; decide), fun ll hll => ?_⟩
        have q8 := same_new (o := .lst [.non, .int 1, .bl true, .ref tu, .ref le, .ref de, .ref fi]) hll
        have r8 := at_new (o := .lst [.non, .int 1, .bl true, .ref tu, .ref le, .ref de, .ref fi]) hll
        have q58 := ((q5.trans q6).trans q7)
        have U8 := U3.same q58
        have nll : ll ≠ wl := fun z => by rw [z, U8.at_] at hll; cases hll
        have j8 := j5.same (q58.trans q8)
        generalize (upd G8 ll (.lst [.non, .int 1, .bl true, .ref tu, .ref le, .ref de, .ref fi])) = G9 at q8 r8 j8 ⊢
        refine ⟨wl, ll, a3, bw1, c3, _, rfl, U8.same q8, by omega, r8, nll, (by show 0 < 7; decide), (by show 7 < 1000; decide), fun v3 a4 c4 G10 hv3 hcc4 U4 D4 => ?_⟩
        have j10 := j8.drew D4 U4
        have lw := j8.lowW (Kp.but D4)
        have hdv : HdV CS G10 v3 false := by
          simp only [List.mem_cons, List.not_mem_nil, or_false] at hv3
          rcases hv3 with rfl | rfl | rfl | rfl | rfl | rfl | rfl
          · exact .non
          · exact .int 1
          · exact .bl true
          · exact (HdV.tup (CS := CS) (q8 _ _ (q7 _ _ (q6 _ _ r5)))).low lw
          · exact (HdV.lst (CS := CS) (q8 _ _ (q7 _ _ r6))).low lw
          · exact (HdV.dK (CS := CS) (q8 _ _ r7)).low lw
          · obtain ⟨dxf, fsf, hfi⟩ := j10.fis
            exact .ins hfi
        exact hN _ _ ⟨_, false, c4, rfl, hdv, fun z => absurd z ew, by omega, j10⟩
      obtain ⟨hol', b, cc, rfl, hd, hlb, hcc, j5⟩ := hR
      clear j4 U2 hcc2 hcc1
      -- the number
      obtain ⟨n0, k0, sta⟩ := j5.sta
      obtain ⟨dxs, os, ds, us, hst, hos, hds, hus⟩ := sta.ex
      obtain ⟨aw5, bw5, W5'⟩ := j5.well
      refine ⟨_, rfl, m, _, rfl, j5.map.s, st, CS, dxs, _, _, rfl, hst, R_ts.cs, R_ts.nS, fS_s _ _ _ _, _, rfl, 1, rfl, (by show 7 ≤ sizeLine; decide), fun l3 hl3 => ?_⟩
      have q9 := same_new (o := .lst [.int 1, .int 1, .int 1, .int 0, .int 2, .int (-1), .int 10]) hl3
      have r9 := at_new (o := .lst [.int 1, .int 1, .int 1, .int 0, .int 2, .int (-1), .int 10]) hl3
      have nl3 : l3 ≠ wl := fun z => by rw [z, W5'.at_] at hl3; cases hl3
      have j6 := j5.same q9
      have hd6 := hd.low (CS := CS) (fun b o e _ => q9 b o e)
      generalize (upd G l3 (.lst [.int 1, .int 1, .int 1, .int 0, .int 2, .int (-1), .int 10])) = G1' at q9 r9 j6 hd6 ⊢
      refine ⟨wl, l3, aw5, bw5, cc, _, rfl, W5'.same q9, by omega, r9, nl3, by decide, by decide, fun v4 a5 c5 G2' hv4 hcc5 U5 D5 => ?_⟩
      have j7 := j6.drew D5 U5
      have hd7 := hd6.low (j6.lowW (Kp.but D5))
      obtain ⟨z4, rfl⟩ : ∃ z : Int, v4 = .int z := by
        simp only [List.mem_cons, List.not_mem_nil, or_false] at hv4
        rcases hv4 with rfl | rfl | rfl | rfl | rfl | rfl | rfl <;> exact ⟨_, rfl⟩
      refine ⟨n0, z4, rfl, rfl, ?_⟩
      clear j5 j6 hd hd6 r9 q9 W5' hst hos hds hus sta nl3
      -- the new state
      intro p1 h1
      have n1 := same_new (o := .dK []) h1
      have e1 := at_new (o := .dK []) h1
      generalize (upd G2' p1 (.dK [])) = H1 at n1 e1 ⊢
      intro p2 h2
      have n2 := same_new (o := .dK []) h2
      have e2 := at_new (o := .dK []) h2
      generalize (upd H1 p2 (.dK [])) = H2 at n2 e2 ⊢
      intro p3 h3
      refine ⟨_, rfl, upd_same, [(Sum.inr "out", .int (0 + (i : Int)))], rfl, (by show 1 ≤ 15; decide), ?_⟩
      rw [out1]
      have n3 : Same H2 (upd (upd H2 p3 (.dK [])) p3 (.dK [(Sum.inr "out", .int (0 + (i : Int)))])) := fun b o e => by rw [upd_ne (ne_of_none e h3), upd_ne (ne_of_none e h3)]; exact e
      have e3 : (upd (upd H2 p3 (.dK [])) p3 (.dK [(Sum.inr "out", .int (0 + (i : Int)))])) p3 = some (.dK [(Sum.inr "out", .int (0 + (i : Int)))]) := upd_same
      generalize (upd (upd H2 p3 (.dK [])) p3 (.dK [(Sum.inr "out", .int (0 + (i : Int)))])) = H3 at n3 e3 ⊢
      refine ⟨_, rfl, mkSt (n3 _ _ (n2 _ _ e1)) (n3 _ _ e2) e3 fun sn H5 _ n5 st5 => ?_⟩
      have n15 := ((n1.trans n2).trans n3).trans n5
      have j8 := j7.same n15
      have hd8 := hd7.low (CS := CS) (fun b o e _ => n15 b o e)
      clear j7 hd7 n1 n2 n3 n5 e1 e2 e3 n15
      -- what is due
      obtain ⟨n1', k1', sta1⟩ := j8.sta
      refine ⟨_, rfl, _, rfl, _, rfl, _, rfl, m, st, sn, hv, hol', b, n1', n0 + z4, word, rfl, hword, j8.map, j8.hvo, hd8.ok R_tv R_ks, sta1.ser, st5.ser, fun tag val hv' st' du H6 due bu mp6 hdu => ?_⟩
      have j9 := j8.due bu mp6
      have lm := j8.lowM (Kp.but bu)
      have hd9 := hd8.low lm
      have st9 := st5.low lm
      have sta9 := sta1.low lm
      clear j8 hd8 st5 sta1 lm bu mp6
      refine gname_i ?_
      dsimp only
      refine seq_cut (fun σ G => ∃ td x4', σ = [some (.ref wl), some (.ref fi), some (.ref m), some (.int (0 + (i : Int))), x4', some (.ref du), some (.ref td), some hol', some (.ref sn), some (.ref sa), some (.str word)] ∧ G td = some (.tup [.str tag, val]) ∧ G du = some (.tup [.str tag, val]) ∧ J (TLof PT) CT CS H G wl m sa fi st' hv' st' hv' c5) (fun Nx hN => ?_) (fun σ G hR => ?_)
      · have hdok := hd9.ok R_tv R_ks
        have hv'o : HvOk hv' := due.hvo j9.hvo fun e => by
          obtain ⟨x, hx⟩ := hdok.2 (hlb e)
          exact .inr ⟨x, hx⟩
        have fin : ∀ {G1 : Hp} {dx : Addr} (_ : J (TLof PT) CT CS H G1 wl m sa fi st hv st' hv' c5) (_ : Kp wl H6 G1), After CT G1 sa dx st' hv' tag val (fun v G => gName 6 v [some (.ref wl), some (.ref fi), some (.ref m), some (.int (0 + (i : Int))), some (.int (n0 + z4)), some (.ref du), x6, some hol', some (.ref sn), some (.ref sa), some (.str word)] G Nx) := fun {G1 dx} jj kp td H2 bu e1 e2 => by
          obtain ⟨dxa', hsa⟩ := jj.sto
          have l1 := j9.lowW kp
          have l2 := jj.lowA (Kp.but bu)
          have du1 := kp _ _ hdu (by obtain ⟨_, _, z⟩ := j9.well; exact ne_of hdu z.at_ (fun z => nomatch z)) (fun _ z => nomatch z)
          have du2 := bu _ _ du1 (ne_of du1 hsa (fun z => nomatch z))
          refine hN _ _ ⟨td, _, rfl, e2, du2, jj.told bu e1 hv'o (due.sok j9.sok hd9.sok) ?_⟩
          rcases due.sts with z | z
          · rw [z]; exact ⟨_, _, (sta9.low l1).low l2⟩
          · rw [z]; exact ⟨_, _, (st9.low l1).low l2⟩
        refine ⟨_, rfl, rfl, _, rfl, ?_⟩
        by_cases ew : word = "write"
        · subst ew
          refine iteT ?_
          refine ⟨j9.tabs, fun G1 eN T1 => ?_⟩
          have j10 := j9.ext eN T1
          have kp : Kp wl H6 G1 := Kp.ext eN
          obtain ⟨dx1, hsa⟩ := j10.sto
          have l1 := j9.lowW kp
          exact ⟨_, rfl, sa, dx1, _, rfl, hsa, flds_no _ _ (by decide +kernel) (by decide +kernel), _, rfl, _, rfl, told_write hsa j10.hvo ((hd9.low l1).ok R_tv R_ks) (sta9.low l1).ser (st9.low l1).ser due (fin j10 kp)⟩
        have ew' : ¬ V.str word = V.str "write" := fun z => ew (by cases z; rfl)
        rw [decide_eq_false ew']
        refine iteF ?_
        refine ⟨j9.tabs, fun G1 eN T1 => ?_⟩
        have j10 := j9.ext eN T1
        have kp : Kp wl H6 G1 := Kp.ext eN
        obtain ⟨dx1, hsa⟩ := j10.sto
        have l1 := j9.lowW kp
        refine ⟨_, rfl, rfl, _, rfl, ?_⟩
        by_cases el : word = "lock"
        · subst el
          refine iteT ?_
          exact ⟨_, rfl, sa, dx1, _, rfl, hsa, flds_no _ _ (by decide +kernel) (by decide +kernel), _, rfl, told_lock hsa due (fin j10 kp)⟩
        have el' : ¬ V.str word = V.str "lock" := fun z => el (by cases z; rfl)
        rw [decide_eq_false el']
        refine iteF ?_
        obtain rfl : word = "unlock" := (hword.resolve_left el).resolve_right ew
        exact ⟨_, rfl, sa, dx1, _, rfl, hsa, flds_no _ _ (by decide +kernel) (by decide +kernel), _, rfl, told_unlock hsa j10.hvo ((hd9.low l1).ok R_tv R_ks) due (fin j10 kp)⟩
      have hval := due.vals j9.hvo j9.sok
      have htg := due.tagOk
      clear j9 hd9 st9 sta9 hdu due
      obtain ⟨td, x4', rfl, htd, hdu, j11⟩ := hR
      obtain ⟨vd, hvd, hsd⟩ : ∃ d : PyData, Dp K G val d ∧ SeqAt.shaped (.tuple [.str tag, d]) = true := by
        rcases hval with rfl | ⟨x, rfl, hx⟩ | ⟨z, rfl⟩
        · exact ⟨_, .non, by simp [SeqAt.shaped, PyData.canLay0, PyData.canLayAll0, PyData.depth, PyData.depthAll, htg]⟩
        · exact ⟨_, .str x, by simp [SeqAt.shaped, PyData.canLay0, PyData.canLayAll0, PyData.depth, PyData.depthAll, htg, hx]⟩
        · exact ⟨_, .int z, by simp [SeqAt.shaped, PyData.canLay0, PyData.canLayAll0, PyData.depth, PyData.depthAll, htg]⟩
      refine ⟨_, rfl, _, rfl, _, _, .tup (SqT.of htd) (.cons (.str tag) (.cons hvd .nil)), .tup (SqT.of hdu) (.cons (.str tag) (.cons hvd .nil)), hsd, hsd, ?_⟩
      rw [SeqAt.eqv_refl _ (SeqAt.canLay_of_shaped hsd)]
      refine ⟨_, rfl, iteF ?_⟩
      obtain ⟨dx1, hsa⟩ := j11.sto
      obtain ⟨n2, k2, sta2⟩ := j11.sta
      obtain ⟨dxs, os, ds, us, hst, hos, hds, hus⟩ := sta2.ex
      refine ⟨_, rfl, sa, dx1, _, rfl, hsa, flds_no _ _ (by decide +kernel) (by decide +kernel), sa, dx1, st', hv', rfl, hsa, _, rfl, m, _, rfl, j11.map.s, ⟨st', st', dxs, dxs, _, _, rfl, rfl, hst, hst, rfl, n2, k2, sta2⟩, fun G3 eG => ?_⟩
      refine ⟨_, rfl, iteF ?_⟩
      have j12 := j11.same eG
      refine ⟨_, rfl, sa, dx1, _, rfl, eG _ _ hsa, flds_no _ _ (by decide +kernel) (by decide +kernel), sa, dx1, st', hv', rfl, eG _ _ hsa, st', CS, dxs, _, _, rfl, eG _ _ hst, R_ts.cs, R_tv.nU, fS_u _ _ _ _, _, rfl, m, _, rfl, j12.map.s, st', CS, dxs, _, _, rfl, eG _ _ hst, R_ts.cs, R_tv.nU, fS_u _ _ _ _,
        us, us, _, _, rfl, rfl, eG _ _ hus, eG _ _ hus, rfl, (fun p hp => ?_), _, rfl, iteF ?_⟩
      · have e : p = ((Sum.inr ("out" : Str) : Key), V.int k2) := by simpa using hp
        rw [e]
        exact ⟨valV_pos rfl, rfl⟩
      exact ⟨_, _, _, _, _, _, _, rfl, st', hv', c5, by omega, j12⟩
    obtain ⟨t, h1, h2⟩ := go
    exact ⟨t, h1.nox, h2⟩
end
end K25

namespace K25
open PySem L2 XR
def spLaw (K : PySem.W.Frag) (PT : Addr) : Sp := fun vs H Q _ => ∃ (a : Addr) (ns : List Int), vs = [.ref a] ∧ SqL K H a (ns.map V.int) ∧ ns.length ≤ 63 ∧ LamX.Tabs (TLof PT) H ∧ ∀ H', Q (.bl true) H'
theorem cut_ints {ns : List Int} {i j : Option Int} {v : V} (h : v ∈ cutV (ns.map V.int) i j) : ∃ z, v = V.int z := by
  unfold cutV at h
  have h1 := List.mem_of_mem_take h
  have h2 := List.mem_of_mem_drop h1
  obtain ⟨z, _, e⟩ := List.mem_map.mp h2
  exact ⟨z, e.symm⟩
section
variable {P : Program} {w : World} {K : PySem.W.Frag} {mg : Str → Option Value} {base : Heap}
theorem scLw : FnScope ["_law_script", "_law_cell", "_law_well_here", "_law_turn"] ["_law_script"] (defScope sLaw) := ⟨rfl, rfl, rfl, by decide +kernel, rfl, by decide +kernel, by decide +kernel⟩
theorem ok_law {f PT fC fW fR : Addr} {fd dC dW dR : FuncData} (F : Fun K "law" "law" sLaw f fd) (rg : mg "range" = none)
    (gC : FnOk P w K mg base CX0 1 fC dC ["_law_script", "_law_k"] (spCellAt K)) (nC : mg "_law_cell_at" = some (.ref fC)) (kC : PySem.W.keepIn K (.ref fC) = true) (bC : Binds K dC ["_law_script", "_law_k"] [])
    (gW : FnOk P w K mg base CX0 1 fW dW ["_law_cell"] spWell) (nW : mg "_law_well" = some (.ref fW)) (kW : PySem.W.keepIn K (.ref fW) = true) (bW : Binds K dW ["_law_cell"] [])
    (gR : FnOk P w K mg base CX0 7 fR dR ["_law_well_here"] (spRight PT)) (nR : mg "_law_right" = some (.ref fR)) (kR : PySem.W.keepIn K (.ref fR) = true) (bR : Binds K dR ["_law_well_here"] []) :
    FnOk P w K mg base CX0 8 f fd ["_law_script"] (spLaw K PT) := by
  refine F.ok scLw (fun vs H Q E h => ?_) (fun cdv A outer s0 H vs Q E hr h => ?_)
  · obtain ⟨a, ns, rfl, _⟩ := h
    rfl
  · obtain ⟨a, ns, rfl, hS, hlen, tb, kk⟩ := h
    have hr7 : Room 7 _ := hr
    have hr1 : Room 1 _ := hr.mono (by decide)
    refine ⟨_, (pss_cons (ps_for PassesOwn.never rfl (pi_list (pe_op op_cat (pe_lst (pa_cons (pe_call gC hr1 rfl nC kC bC .nil pass0 (pa_cons (pv 0) (pa_cons pe_int pa_nil))) pa_nil)) (pe_slice sl_list (pv 0) (po_some pe_int) (po_some pe_int)))) (pg_name (i := 1) scLw.nd rfl (Or.inl rfl))
        (pss_cons (ps_set (i := 2) scLw.nd rfl (Or.inl rfl) (pe_call gW hr1 rfl nW kW bW .nil pass0 (pa_cons (pv 1) pa_nil)))
        (pss_one (ps_for PassesOwn.never rfl (pi_range1 (by rfl) rg (pa_cons pe_int pa_nil)) (pg_name (i := 3) scLw.nd rfl (Or.inl rfl))
          (pss_one (ps_if (pt_not (pt_val (pe_call gR hr7 rfl nR kR bR .nil pass0 (pa_cons (pv 2) pa_nil)))) (pss_one (ps_ret pe_bl)) pss_nil))))))
      (pss_one (ps_ret pe_bl))), ?_⟩
    refine ⟨_, rfl, a, ns, 0, rfl, hS, hlen, fun z0 => ?_⟩
    refine ⟨(by show 1 ≤ sizeLine; decide), fun q0 hq0 => ?_⟩
    have m0 := same_new (o := .lst [.int z0]) hq0
    refine ⟨_, rfl, _, rfl, _, rfl, a, _, rfl, hS.ext m0, fun q1 hq1 => ?_⟩
    have m1 := same_new (o := .lst (cutV (ns.map V.int) (some 1) (some 3))) hq1
    have lc := cutV_length (ns.map V.int) (some 1) (some 3)
    rw [List.length_map] at lc
    refine ⟨q0, q1, _, _, rfl, rfl, m1 _ _ upd_same, upd_same, ?_, fun q2 hq2 => ?_⟩
    · rw [sizeLine_eq]
      show 1 + _ ≤ _
      omega
    have m2 := same_new (o := .lst ([.int z0] ++ cutV (ns.map V.int) (some 1) (some 3))) hq2
    have f2 : (upd _ q2 (.lst ([.int z0] ++ cutV (ns.map V.int) (some 1) (some 3)))) q2 = _ := at_new hq2
    have s2 := (m0.trans m1).trans m2
    generalize (upd _ q2 (.lst ([.int z0] ++ cutV (ns.map V.int) (some 1) (some 3)))) = G2 at f2 s2 ⊢
    clear m0 m1 m2
    refine ⟨q2, rfl, ⟨_, SqL.of f2⟩, for_list (K := K) (a := q2) (xs := [.int z0] ++ cutV (ns.map V.int) (some 1) (some 3))
      (fun i σ H' => H' q2 = some (.lst ([.int z0] ++ cutV (ns.map V.int) (some 1) (some 3))) ∧ LamX.Tabs (TLof PT) H' ∧ ∃ x1 x2 x3 : Option V, σ = [some (.ref a), x1, x2, x3])
      ⟨f2, tb.ext s2, none, none, none, rfl⟩ (fun i σ H' _ ⟨m, _⟩ => SqL.of m) ?_ ?_⟩
    · rintro i y σ H3 hi ⟨m3, t3, x1, x2, x3, rfl⟩
      obtain ⟨z, rfl⟩ : ∃ z, y = V.int z := by
        rcases List.mem_append.mp (List.mem_of_getElem? hi) with h | h
        · exact ⟨z0, by simpa using h⟩
        · exact cut_ints h
      refine ⟨_, rfl, z, rfl, fun p a0 b0 H4 m4 np W => ?_⟩
      have nq : q2 ≠ p := ne_of_none m3 np
      refine ⟨4, rfl, by decide, by decide, for_range (lo := 0) (n := (4 : Int).toNat) (fun j σ H' => H' q2 = some (.lst ([.int z0] ++ cutV (ns.map V.int) (some 1) (some 3))) ∧ LamX.Tabs (TLof PT) H' ∧ (∃ a b c : Int, c ≤ 200 * (j : Int) ∧ Well H' p a b c) ∧ ∃ x3 : Option V, σ = [some (.ref a), some (.int z), some (.ref p), x3])
        ⟨m4 _ _ m3, t3.ext m4, ⟨a0, b0, 0, by decide, W⟩, x3, rfl⟩ ?_ ?_⟩
      · rintro j σ H5 hj ⟨m5, t5, ⟨a1, b1, c1, hc1, W1⟩, x3', rfl⟩
        have hj4 : j < 4 := hj
        refine ⟨_, rfl, p, a1, b1, c1, rfl, W1, by omega, t5, fun a' b' c' H6 hc6 W6 t6 k6 => ?_⟩
        refine ⟨_, rfl, iteF ?_⟩
        exact ⟨k6 _ _ m5 nq (fun _ z => nomatch z), t6, ⟨a', b', c', by omega, W6⟩, _, rfl⟩
      · rintro σ H5 ⟨m5, t5, _, x3', rfl⟩
        exact ⟨m5, t5, _, _, _, rfl⟩
    · rintro σ H3 ⟨_, _, x1, x2, x3, rfl⟩
      exact kk H3
end
end K25

namespace K25
open PySem L2 XR
theorem walk {l : PySem.W.OpenLaw} {q : Program} {loose : List Str} {XP : (Str → Option Value) → Heap → Prop} {YP : World → Heap → Prop} {d : DefRec} {K : Params → PySem.W.Frag} (hn : l.most = some 63) (hdf : d.params.defaults = []) (hrec : ((PyProof.Rows.recsOf q).any fun e => e.name == "_law_right") = true)
    (hY : ∀ (w : World) (h : Heap), YP w h → (K w.params).In h)
    (F : ∀ (w : World) (mg : Str → Option Value) (fa : Addr) (h : Heap), (K w.params).In h → h.Ns mainGlobals mg → mg d.name = some (.ref fa) → (∀ fr, mg "_law_right" = some (.ref fr) → LamX.OwnTab (K w.params) fr h) → LamX.LawAtS l w (K w.params) CX0 8 63 "_law_script" mg fa h) :
    PySem.W.WalkO q loose XP YP l.row.toRowW d [] (fun f vs => PySem.call f vs) :=
  walk_ofTab (n := 63) (k := 8) (x := "_law_script") (CX := fun _ => CX0) hn (by decide) hdf ⟨rfl, by decide, by decide⟩ hY (fun w mg fa h _ KX G hm own => F w mg fa h KX G hm fun fr => own _ fr hrec) fun _ _ _ _ _ z => z
theorem all_mk {l : PySem.W.OpenLaw} {w : World} {K : PySem.W.Frag} {h : Heap} {mg : Str → Option Value} {fa : Addr} (X : K.In h) (G : h.Ns mainGlobals mg) (hfa : mg "law" = some (.ref fa)) (own : ∀ fr, mg "_law_right" = some (.ref fr) → LamX.OwnTab K fr h)
    {CP CL CE CT CV CU CS : Addr}
    {nmL qL : Str} {NL : Addr} {bsL : List Value} {snL : List Str} {suL : List Value} {abL : Bool} {coL : Option Bool} {ddL : Option Addr} {m0L m1L m2L m3L m5L : Option Value}
    {nmE qE : Str} {NE : Addr} {bsE : List Value} {snE : List Str} {suE : List Value} {abE : Bool} {coE : Option Bool} {ddE : Option Addr} {m0E m1E m2E m3E m5E : Option Value}
    {cR PT : Addr}
    {ftag : Addr} {odtag antag : Option Addr} {sltag : Array (Option Value)} {octag kVtag dctag pmtag cttag : Value} {cdtag : Value}
    {fsort : Addr} {odsort ansort : Option Addr} {slsort : Array (Option Value)} {ocsort kVsort dcsort pmsort ctsort : Value} {cdsort : Value}
    {fcop : Addr} {odcop ancop : Option Addr} {slcop : Array (Option Value)} {occop kVcop dccop pmcop ctcop : Value} {cdcop : Value}
    {feq : Addr} {odeq aneq : Option Addr} {sleq : Array (Option Value)} {oceq kVeq dceq pmeq cteq : Value} {cdeq : Value}
    {fcell : Addr} {odcell ancell : Option Addr} {slcell : Array (Option Value)} {occell kVcell dccell pmcell ctcell : Value} {cdcell : Value}
    {fwell : Addr} {odwell anwell : Option Addr} {slwell : Array (Option Value)} {ocwell kVwell dcwell pmwell ctwell : Value} {cdwell : Value}
    {fdraw : Addr} {oddraw andraw : Option Addr} {sldraw : Array (Option Value)} {ocdraw kVdraw dcdraw pmdraw ctdraw : Value} {cddraw : Value}
    {fone : Addr} {odone anone : Option Addr} {slone : Array (Option Value)} {ocone kVone dcone pmone ctone : Value} {cdone : Value}
    {ftold : Addr} {odtold antold : Option Addr} {sltold : Array (Option Value)} {octold kVtold dctold pmtold cttold : Value} {cdtold : Value}
    {fdue : Addr} {oddue andue : Option Addr} {sldue : Array (Option Value)} {ocdue kVdue dcdue pmdue ctdue : Value} {cddue : Value}
    {fright : Addr} {odright anright : Option Addr} {slright : Array (Option Value)} {ocright kVright dcright pmright ctright : Value}
    {flaw : Addr} {odlaw anlaw : Option Addr} {sllaw : Array (Option Value)} {oclaw kVlaw dclaw pmlaw ctlaw : Value} {cdlaw : Value}
    {fIL : Addr} {odIL anIL : Option Addr} {slIL : Array (Option Value)} {ocIL kVIL dcIL pmIL ctIL : Value} {cdIL : Value}
    {fIE : Addr} {odIE anIE : Option Addr} {slIE : Array (Option Value)} {ocIE kVIE dcIE pmIE ctIE : Value} {cdIE : Value}
    {fSI : Addr} {odSI anSI : Option Addr} {slSI : Array (Option Value)} {ocSI kVSI dcSI pmSI ctSI : Value} {cdSI : Value}
    {fkept : Addr} {odkept ankept : Option Addr} {slkept : Array (Option Value)} {ockept kVkept dckept pmkept ctkept : Value} {cdkept : Value}
    {flock : Addr} {odlock anlock : Option Addr} {sllock : Array (Option Value)} {oclock kVlock dclock pmlock ctlock : Value} {cdlock : Value}
    {fchk : Addr} {odchk anchk : Option Addr} {slchk : Array (Option Value)} {occhk kVchk dcchk pmchk ctchk : Value} {cdchk : Value}
    {funl : Addr} {odunl anunl : Option Addr} {slunl : Array (Option Value)} {ocunl kVunl dcunl pmunl ctunl : Value} {cdunl : Value}
    {fwri : Addr} {odwri anwri : Option Addr} {slwri : Array (Option Value)} {ocwri kVwri dcwri pmwri ctwri : Value} {cdwri : Value}
    {fStI : Addr} {odStI anStI : Option Addr} {slStI : Array (Option Value)} {ocStI kVStI dcStI pmStI ctStI : Value} {cdStI : Value}
    {fStN : Addr} {odStN anStN : Option Addr} {slStN : Array (Option Value)} {ocStN kVStN dcStN pmStN ctStN : Value} {cdStN : Value}
    {fStF : Addr} {odStF anStF : Option Addr} {slStF : Array (Option Value)} {ocStF kVStF dcStF pmStF ctStF : Value} {cdStF : Value}
    {fVEq : Addr} {odVEq anVEq : Option Addr} {slVEq : Array (Option Value)} {ocVEq kVVEq dcVEq pmVEq ctVEq : Value} {cdVEq : Value}
    {ddR : Option Addr} {vsR : Array Value} {slR : Array (Option Value)} {fileR : Str} {tfR tgR ttR : Tok} {flR txR : Int} {inR : Bool}
    (aP : PySem.W.nsIn K mainGlobals "PlanError" = some (some (.ref CP)))
    (rP : PySem.W.readsIn K CP (.type "type") = true)
    (gP : PySem.W.specialIn K (.ref CP) "__getattribute__" = some (some (.builtin "type.__getattribute__")))
    (vP : PySem.W.findCls K (.ref CP) (.type "type") "__init__" = some (.val (.builtin "ValueError.__init__")))
    (hn : PySem.W.specialIn K (.builtin "object.__class__") "__get__" = some (some (.builtin "getset_descriptor.__get__")))
    (ht : PySem.W.takesIn K (.builtin "object.__class__") = some true)
    (aL : PySem.W.nsIn K mainGlobals "Locked" = some (some (.ref CL)))
    (xL : K.lookup CL = some (excClassObj nmL qL CL NL bsL (XR.tail CP) true snL suL abL coL ddL m0L m1L m2L m3L m5L "ValueError.__new__"))
    (sL : PySem.W.findIn K (.ref CL) "__setattr__" = some (some (.builtin "object.__setattr__")))
    (gL : PySem.W.findIn K (.ref CL) "__getattribute__" = some (some (.builtin "BaseException.__getattribute__")))
    (kL : PySem.W.findIn K (.ref CL) "__getattr__" = some none)
    (hL : PySem.W.findIn K (.ref CL) "__class__" = some (some (.builtin "object.__class__")))
    (pL : PySem.W.keepIn K (.ref CL) = true)
    (tL : PySem.W.typeIn K (.ref CL) = some (.type "type"))
    (aE : PySem.W.nsIn K mainGlobals "Stale" = some (some (.ref CE)))
    (xE : K.lookup CE = some (excClassObj nmE qE CE NE bsE (XR.tail CP) true snE suE abE coE ddE m0E m1E m2E m3E m5E "ValueError.__new__"))
    (sE : PySem.W.findIn K (.ref CE) "__setattr__" = some (some (.builtin "object.__setattr__")))
    (gE : PySem.W.findIn K (.ref CE) "__getattribute__" = some (some (.builtin "BaseException.__getattribute__")))
    (kE : PySem.W.findIn K (.ref CE) "__getattr__" = some none)
    (hE : PySem.W.findIn K (.ref CE) "__class__" = some (some (.builtin "object.__class__")))
    (pE : PySem.W.keepIn K (.ref CE) = true)
    (tE : PySem.W.typeIn K (.ref CE) = some (.type "type"))
    (aT : PySem.W.nsIn K mainGlobals "Store" = some (some (.ref CT)))
    (aV : PySem.W.nsIn K mainGlobals "Valued" = some (some (.ref CV)))
    (aU : PySem.W.nsIn K mainGlobals "Unknown" = some (some (.ref CU)))
    (aS : PySem.W.nsIn K mainGlobals "State" = some (some (.ref CS)))
    (c1T : PySem.W.plainGet K CT Str.empty = true)
    (c2T : PySem.W.hasDictIn K CT = true)
    (c3T : PySem.W.plainOver K CT = true)
    (c4T : PySem.W.findIn K (.ref CT) "__setattr__" = some (some (.builtin "object.__setattr__")))
    (mkT : PySem.W.makesIn K CT = true)
    (kpT : PySem.W.keepIn K (.ref CT) = true)
    (c1S : PySem.W.plainGet K CS Str.empty = true)
    (c2S : PySem.W.hasDictIn K CS = true)
    (c3S : PySem.W.plainOver K CS = true)
    (c4S : PySem.W.findIn K (.ref CS) "__setattr__" = some (some (.builtin "object.__setattr__")))
    (mkS : PySem.W.makesIn K CS = true)
    (kpS : PySem.W.keepIn K (.ref CS) = true)
    (nT_now : PySem.W.findIn K (.ref CT) "now" = some none)
    (nT_holder : PySem.W.findIn K (.ref CT) "holder" = some none)
    (nS_objects : PySem.W.findIn K (.ref CS) "objects" = some none)
    (nS_deposed : PySem.W.findIn K (.ref CS) "deposed" = some none)
    (nS_outputs : PySem.W.findIn K (.ref CS) "outputs" = some none)
    (nS_serial : PySem.W.findIn K (.ref CS) "serial" = some none)
    (nL_holder : PySem.W.findIn K (.ref CL) "holder" = some none)
    (nE_serial : PySem.W.findIn K (.ref CE) "serial" = some none)
    (i1V : PySem.W.isClsIn K CV = true)
    (i2V : PySem.W.typeIn K (.ref CV) = some (.type "type"))
    (i1U : PySem.W.isClsIn K CU = true)
    (i2U : PySem.W.typeIn K (.ref CU) = some (.type "type"))
    (mSV : PySem.W.mroIn K CS (.ref CV) = some true)
    (mSs : PySem.W.mroIn K CS (.type "str") = some false)
    (cS1 : PySem.W.findIn K (.ref CS) "__class__" = some (some (.builtin "object.__class__")))
    (cS4 : PySem.W.mroIn K CS (.type "object") = some true)
    (b_isinstance : PySem.W.nsIn K mainGlobals "isinstance" = some none)
    (b_len : PySem.W.nsIn K mainGlobals "len" = some none)
    (b_all : PySem.W.nsIn K mainGlobals "all" = some none)
    (b_zip : PySem.W.nsIn K mainGlobals "zip" = some none)
    (b_tuple : PySem.W.nsIn K mainGlobals "tuple" = some none)
    (b_dict : PySem.W.nsIn K mainGlobals "dict" = some none)
    (b_list : PySem.W.nsIn K mainGlobals "list" = some none)
    (b_bool : PySem.W.nsIn K mainGlobals "bool" = some none)
    (b_int : PySem.W.nsIn K mainGlobals "int" = some none)
    (b_str : PySem.W.nsIn K mainGlobals "str" = some none)
    (b_range : PySem.W.nsIn K mainGlobals "range" = some none)
    (a_tag : PySem.W.nsIn K mainGlobals "is_tag" = some (some (.ref ftag)))
    (ltag : K.lookup ftag = some ⟨octag, odtag, .func (PySem.W.fnOf "is_tag" "is_tag" (defArgs sTag) (defBody sTag) (defScope sTag) .none kVtag dctag pmtag antag cdtag cttag), sltag⟩)
    (ytag : PySem.W.codeIn K cdtag "is_tag" = true)
    (ztag : PySem.W.keepIn K (.ref ftag) = true)
    (a_sort : PySem.W.nsIn K mainGlobals "sort_of" = some (some (.ref fsort)))
    (lsort : K.lookup fsort = some ⟨ocsort, odsort, .func (PySem.W.fnOf "sort_of" "sort_of" (defArgs sSort) (defBody sSort) (defScope sSort) .none kVsort dcsort pmsort ansort cdsort ctsort), slsort⟩)
    (ysort : PySem.W.codeIn K cdsort "sort_of" = true)
    (zsort : PySem.W.keepIn K (.ref fsort) = true)
    (a_cop : PySem.W.nsIn K mainGlobals "copied" = some (some (.ref fcop)))
    (lcop : K.lookup fcop = some ⟨occop, odcop, .func (PySem.W.fnOf "copied" "copied" (defArgs sCopied) (defBody sCopied) (defScope sCopied) .none kVcop dccop pmcop ancop cdcop ctcop), slcop⟩)
    (ycop : PySem.W.codeIn K cdcop "copied" = true)
    (zcop : PySem.W.keepIn K (.ref fcop) = true)
    (a_eq : PySem.W.nsIn K mainGlobals "are_equal" = some (some (.ref feq)))
    (leq : K.lookup feq = some ⟨oceq, odeq, .func (PySem.W.fnOf "are_equal" "are_equal" (defArgs sEq) (defBody sEq) (defScope sEq) .none kVeq dceq pmeq aneq cdeq cteq), sleq⟩)
    (yeq : PySem.W.codeIn K cdeq "are_equal" = true)
    (zeq : PySem.W.keepIn K (.ref feq) = true)
    (a_cell : PySem.W.nsIn K mainGlobals "_law_cell_at" = some (some (.ref fcell)))
    (lcell : K.lookup fcell = some ⟨occell, odcell, .func (PySem.W.fnOf "_law_cell_at" "_law_cell_at" (defArgs sCellAt) (defBody sCellAt) (defScope sCellAt) .none kVcell dccell pmcell ancell cdcell ctcell), slcell⟩)
    (ycell : PySem.W.codeIn K cdcell "_law_cell_at" = true)
    (zcell : PySem.W.keepIn K (.ref fcell) = true)
    (a_well : PySem.W.nsIn K mainGlobals "_law_well" = some (some (.ref fwell)))
    (lwell : K.lookup fwell = some ⟨ocwell, odwell, .func (PySem.W.fnOf "_law_well" "_law_well" (defArgs sWell) (defBody sWell) (defScope sWell) .none kVwell dcwell pmwell anwell cdwell ctwell), slwell⟩)
    (ywell : PySem.W.codeIn K cdwell "_law_well" = true)
    (zwell : PySem.W.keepIn K (.ref fwell) = true)
    (a_draw : PySem.W.nsIn K mainGlobals "_law_draw" = some (some (.ref fdraw)))
    (ldraw : K.lookup fdraw = some ⟨ocdraw, oddraw, .func (PySem.W.fnOf "_law_draw" "_law_draw" (defArgs sDraw) (defBody sDraw) (defScope sDraw) .none kVdraw dcdraw pmdraw andraw cddraw ctdraw), sldraw⟩)
    (ydraw : PySem.W.codeIn K cddraw "_law_draw" = true)
    (zdraw : PySem.W.keepIn K (.ref fdraw) = true)
    (a_one : PySem.W.nsIn K mainGlobals "_law_one" = some (some (.ref fone)))
    (lone : K.lookup fone = some ⟨ocone, odone, .func (PySem.W.fnOf "_law_one" "_law_one" (defArgs sOne) (defBody sOne) (defScope sOne) .none kVone dcone pmone anone cdone ctone), slone⟩)
    (yone : PySem.W.codeIn K cdone "_law_one" = true)
    (zone : PySem.W.keepIn K (.ref fone) = true)
    (a_told : PySem.W.nsIn K mainGlobals "_law_told" = some (some (.ref ftold)))
    (ltold : K.lookup ftold = some ⟨octold, odtold, .func (PySem.W.fnOf "_law_told" "_law_told" (defArgs sTold) (defBody sTold) (defScope sTold) .none kVtold dctold pmtold antold cdtold cttold), sltold⟩)
    (ytold : PySem.W.codeIn K cdtold "_law_told" = true)
    (ztold : PySem.W.keepIn K (.ref ftold) = true)
    (a_due : PySem.W.nsIn K mainGlobals "_law_due" = some (some (.ref fdue)))
    (ldue : K.lookup fdue = some ⟨ocdue, oddue, .func (PySem.W.fnOf "_law_due" "_law_due" (defArgs sDue) (defBody sDue) (defScope sDue) .none kVdue dcdue pmdue andue cddue ctdue), sldue⟩)
    (ydue : PySem.W.codeIn K cddue "_law_due" = true)
    (zdue : PySem.W.keepIn K (.ref fdue) = true)
    (a_right : PySem.W.nsIn K mainGlobals "_law_right" = some (some (.ref fright)))
    (lright : K.lookup fright = some ⟨ocright, odright, .func (PySem.W.fnOf "_law_right" "_law_right" (defArgs sRight) (defBody sRight) (defScope sRight) .none kVright dcright pmright anright (.ref cR) ctright), slright⟩)
    (yright : PySem.W.codeIn K (.ref cR) "_law_right" = true)
    (zright : PySem.W.keepIn K (.ref fright) = true)
    (a_law : PySem.W.nsIn K mainGlobals "law" = some (some (.ref flaw)))
    (llaw : K.lookup flaw = some ⟨oclaw, odlaw, .func (PySem.W.fnOf "law" "law" (defArgs sLaw) (defBody sLaw) (defScope sLaw) .none kVlaw dclaw pmlaw anlaw cdlaw ctlaw), sllaw⟩)
    (ylaw : PySem.W.codeIn K cdlaw "law" = true)
    (zlaw : PySem.W.keepIn K (.ref flaw) = true)
    (m_IL : PySem.W.findIn K (.ref CL) "__init__" = some (some (.ref fIL)))
    (j_IL : PySem.W.typeIn K (.ref fIL) = some (.type "function"))
    (lIL : K.lookup fIL = some ⟨ocIL, odIL, .func (PySem.W.fnOf "__init__" "Locked.__init__" (defArgs sIL) (defBody sIL) (defScope sIL) .none kVIL dcIL pmIL anIL cdIL ctIL), slIL⟩)
    (yIL : PySem.W.codeIn K cdIL "Locked.__init__" = true)
    (zIL : PySem.W.keepIn K (.ref fIL) = true)
    (m_IE : PySem.W.findIn K (.ref CE) "__init__" = some (some (.ref fIE)))
    (j_IE : PySem.W.typeIn K (.ref fIE) = some (.type "function"))
    (lIE : K.lookup fIE = some ⟨ocIE, odIE, .func (PySem.W.fnOf "__init__" "Stale.__init__" (defArgs sIE) (defBody sIE) (defScope sIE) .none kVIE dcIE pmIE anIE cdIE ctIE), slIE⟩)
    (yIE : PySem.W.codeIn K cdIE "Stale.__init__" = true)
    (zIE : PySem.W.keepIn K (.ref fIE) = true)
    (m_SI : PySem.W.findIn K (.ref CT) "__init__" = some (some (.ref fSI)))
    (j_SI : PySem.W.isFn K (.ref fSI) = true)
    (lSI : K.lookup fSI = some ⟨ocSI, odSI, .func (PySem.W.fnOf "__init__" "Store.__init__" (defArgs sSI) (defBody sSI) (defScope sSI) .none kVSI dcSI pmSI anSI cdSI ctSI), slSI⟩)
    (ySI : PySem.W.codeIn K cdSI "Store.__init__" = true)
    (zSI : PySem.W.keepIn K (.ref fSI) = true)
    (m_kept : PySem.W.findIn K (.ref CT) "kept" = some (some (.ref fkept)))
    (j_kept : PySem.W.isFn K (.ref fkept) = true)
    (lkept : K.lookup fkept = some ⟨ockept, odkept, .func (PySem.W.fnOf "kept" "Store.kept" (defArgs sKept) (defBody sKept) (defScope sKept) .none kVkept dckept pmkept ankept cdkept ctkept), slkept⟩)
    (ykept : PySem.W.codeIn K cdkept "Store.kept" = true)
    (zkept : PySem.W.keepIn K (.ref fkept) = true)
    (m_lock : PySem.W.findIn K (.ref CT) "lock" = some (some (.ref flock)))
    (j_lock : PySem.W.isFn K (.ref flock) = true)
    (llock : K.lookup flock = some ⟨oclock, odlock, .func (PySem.W.fnOf "lock" "Store.lock" (defArgs sLock) (defBody sLock) (defScope sLock) .none kVlock dclock pmlock anlock cdlock ctlock), sllock⟩)
    (ylock : PySem.W.codeIn K cdlock "Store.lock" = true)
    (zlock : PySem.W.keepIn K (.ref flock) = true)
    (m_chk : PySem.W.findIn K (.ref CT) "check_holder" = some (some (.ref fchk)))
    (j_chk : PySem.W.isFn K (.ref fchk) = true)
    (lchk : K.lookup fchk = some ⟨occhk, odchk, .func (PySem.W.fnOf "check_holder" "Store.check_holder" (defArgs sCheck) (defBody sCheck) (defScope sCheck) .none kVchk dcchk pmchk anchk cdchk ctchk), slchk⟩)
    (ychk : PySem.W.codeIn K cdchk "Store.check_holder" = true)
    (zchk : PySem.W.keepIn K (.ref fchk) = true)
    (m_unl : PySem.W.findIn K (.ref CT) "unlock" = some (some (.ref funl)))
    (j_unl : PySem.W.isFn K (.ref funl) = true)
    (lunl : K.lookup funl = some ⟨ocunl, odunl, .func (PySem.W.fnOf "unlock" "Store.unlock" (defArgs sUnlock) (defBody sUnlock) (defScope sUnlock) .none kVunl dcunl pmunl anunl cdunl ctunl), slunl⟩)
    (yunl : PySem.W.codeIn K cdunl "Store.unlock" = true)
    (zunl : PySem.W.keepIn K (.ref funl) = true)
    (m_wri : PySem.W.findIn K (.ref CT) "write" = some (some (.ref fwri)))
    (j_wri : PySem.W.isFn K (.ref fwri) = true)
    (lwri : K.lookup fwri = some ⟨ocwri, odwri, .func (PySem.W.fnOf "write" "Store.write" (defArgs sWrite) (defBody sWrite) (defScope sWrite) .none kVwri dcwri pmwri anwri cdwri ctwri), slwri⟩)
    (ywri : PySem.W.codeIn K cdwri "Store.write" = true)
    (zwri : PySem.W.keepIn K (.ref fwri) = true)
    (m_StI : PySem.W.findIn K (.ref CS) "__init__" = some (some (.ref fStI)))
    (j_StI : PySem.W.isFn K (.ref fStI) = true)
    (lStI : K.lookup fStI = some ⟨ocStI, odStI, .func (PySem.W.fnOf "__init__" "State.__init__" (defArgs sStI) (defBody sStI) (defScope sStI) .none kVStI dcStI pmStI anStI cdStI ctStI), slStI⟩)
    (yStI : PySem.W.codeIn K cdStI "State.__init__" = true)
    (zStI : PySem.W.keepIn K (.ref fStI) = true)
    (m_StN : PySem.W.findIn K (.ref CS) "class_name" = some (some (.ref fStN)))
    (j_StN : PySem.W.isFn K (.ref fStN) = true)
    (lStN : K.lookup fStN = some ⟨ocStN, odStN, .func (PySem.W.fnOf "class_name" "State.class_name" (defArgs sStN) (defBody sStN) (defScope sStN) .none kVStN dcStN pmStN anStN cdStN ctStN), slStN⟩)
    (yStN : PySem.W.codeIn K cdStN "State.class_name" = true)
    (zStN : PySem.W.keepIn K (.ref fStN) = true)
    (m_StF : PySem.W.findIn K (.ref CS) "fields" = some (some (.ref fStF)))
    (j_StF : PySem.W.isFn K (.ref fStF) = true)
    (lStF : K.lookup fStF = some ⟨ocStF, odStF, .func (PySem.W.fnOf "fields" "State.fields" (defArgs sStF) (defBody sStF) (defScope sStF) .none kVStF dcStF pmStF anStF cdStF ctStF), slStF⟩)
    (yStF : PySem.W.codeIn K cdStF "State.fields" = true)
    (zStF : PySem.W.keepIn K (.ref fStF) = true)
    (m_VEq : PySem.W.findIn K (.ref CS) "__eq__" = some (some (.ref fVEq)))
    (j_VEq : PySem.W.isFn K (.ref fVEq) = true)
    (lVEq : K.lookup fVEq = some ⟨ocVEq, odVEq, .func (PySem.W.fnOf "__eq__" "Valued.__eq__" (defArgs sVEq) (defBody sVEq) (defScope sVEq) .none kVVEq dcVEq pmVEq anVEq cdVEq ctVEq), slVEq⟩)
    (yVEq : PySem.W.codeIn K cdVEq "Valued.__eq__" = true)
    (zVEq : PySem.W.keepIn K (.ref fVEq) = true)
    (lR : K.lookup cR = some ⟨.type "code", ddR, .fields vsR, slR⟩)
    (v11 : vsR[11]? = some (.ref PT))
    (w11 : vsR.getD 11 .none = .ref PT)
    (w18 : vsR.getD 18 .none = .str fileR tfR)
    (w7 : vsR.getD 7 .none = .int flR tgR)
    (w9 : vsR.getD 9 .none = .bool inR)
    (w10 : vsR.getD 10 .none = .int txR ttR)
    (nPT : K.lookup PT = none)
    (neq : cR ≠ PT ∧ CL ≠ CE ∧ CL ≠ CP ∧ CE ≠ CP ∧ CT ≠ CS ∧ CS ≠ CV)
    : LamX.LawAtS l w K CX0 8 63 "_law_script" mg fa h := by
  have e := hfa.symm.trans (PySem.W.mg_of X G a_law)
  cases e
  obtain ⟨ne1, ne2, ne3, ne4, ne5, ne6⟩ := neq
  have PI : PIni K mg "PlanError" CP (.type "type") := ⟨PySem.W.mg_of X G aP, ⟨rP, gP⟩, vP⟩
  have XL : XcOk K CP CL := ⟨⟨_, _, _, _, _, _, _, _, _, _, _, _, _, _, xL⟩, sL, gL, kL, hL, pL, tL⟩
  have XE : XcOk K CP CE := ⟨⟨_, _, _, _, _, _, _, _, _, _, _, _, _, _, xE⟩, sE, gE, kE, hE, pE, tE⟩
  have GL := PySem.W.mg_of X G aL
  have GE := PySem.W.mg_of X G aE
  have GT := PySem.W.mg_of X G aT
  have GS := PySem.W.mg_of X G aS
  have GV := PySem.W.mg_of X G aV
  have GU := PySem.W.mg_of X G aU
  have cT : Cls K CT := ⟨c1T, c2T, c3T, c4T⟩
  have cS : Cls K CS := ⟨c1S, c2S, c3S, c4S⟩
  have B_isinstance := PySem.W.mg_none_of X G b_isinstance
  have B_len := PySem.W.mg_none_of X G b_len
  have B_all := PySem.W.mg_none_of X G b_all
  have B_zip := PySem.W.mg_none_of X G b_zip
  have B_tuple := PySem.W.mg_none_of X G b_tuple
  have B_dict := PySem.W.mg_none_of X G b_dict
  have B_list := PySem.W.mg_none_of X G b_list
  have B_bool := PySem.W.mg_none_of X G b_bool
  have B_int := PySem.W.mg_none_of X G b_int
  have B_str := PySem.W.mg_none_of X G b_str
  have B_range := PySem.W.mg_none_of X G b_range
  have ST : STxt K mg CT CS := ⟨cT, nT_now, nT_holder, cS, nS_serial, B_isinstance, B_str⟩
  have kV4 : ∀ t ∈ ["int", "str", "dict", "tuple"], PySem.W.kitOne K (.type t) (.ref CV) = some false := fun t ht => kit_tyC i1V i2V (sub4 t ht)
  have kU4 : ∀ t ∈ ["int", "str", "dict", "tuple"], PySem.W.kitOne K (.type t) (.ref CU) = some false := fun t ht => kit_tyC i1U i2U (sub4 t ht)
  have iSV : PySem.W.kitOne K (.ref CS) (.ref CV) = some true := kit_CC i1V i2V ne6 mSV
  have iSs : PySem.W.kitOne K (.ref CS) (.type "str") = some false := kit_CT (by decide +kernel) mSs
  have VT : VTxt K mg CV CU CS := ⟨B_isinstance, B_len, B_all, B_zip, B_tuple, B_dict, B_list, B_bool, B_int, B_str, GV, GU, kV4, kU4, iSV, cS, cS1, hn, ht, cS4, nS_objects, nS_deposed, nS_outputs, nS_serial⟩
  have t0 : Txt0 mg := ⟨B_int, B_len⟩
  have TO : ToldOk K mg CP CL CE := ⟨XL, XE, ne3, ne4, ne2, GL, GE, nL_holder, nE_serial⟩
  have F_tag := fun_mk (st := sTag) ltag ytag ztag
  have B_tag := F_tag.binds (ps := ["thing"]) fun _ _ _ _ _ _ us hl => match us, hl with | [_], _ => rfl
  have F_sort := fun_mk (st := sSort) lsort ysort zsort
  have B_sort := F_sort.binds (ps := ["value"]) fun _ _ _ _ _ _ us hl => match us, hl with | [_], _ => rfl
  have F_cop := fun_mk (st := sCopied) lcop ycop zcop
  have B_cop := F_cop.binds (ps := ["value"]) fun _ _ _ _ _ _ us hl => match us, hl with | [_], _ => rfl
  have F_eq := fun_mk (st := sEq) leq yeq zeq
  have B_eq := F_eq.binds (ps := ["one", "other"]) fun _ _ _ _ _ _ us hl => match us, hl with | [_, _], _ => rfl
  have F_cell := fun_mk (st := sCellAt) lcell ycell zcell
  have B_cell := F_cell.binds (ps := ["_law_script", "_law_k"]) fun _ _ _ _ _ _ us hl => match us, hl with | [_, _], _ => rfl
  have F_well := fun_mk (st := sWell) lwell ywell zwell
  have B_well := F_well.binds (ps := ["_law_cell"]) fun _ _ _ _ _ _ us hl => match us, hl with | [_], _ => rfl
  have F_draw := fun_mk (st := sDraw) ldraw ydraw zdraw
  have B_draw := F_draw.binds (ps := ["_law_well_here", "_law_often"]) fun _ _ _ _ _ _ us hl => match us, hl with | [_, _], _ => rfl
  have F_one := fun_mk (st := sOne) lone yone zone
  have B_one := F_one.binds (ps := ["_law_well_here", "_law_some"]) fun _ _ _ _ _ _ us hl => match us, hl with | [_, _], _ => rfl
  have F_told := fun_mk (st := sTold) ltold ytold ztold
  have B_told := F_told.binds (ps := ["_law_ask"]) fun _ _ _ _ _ _ us hl => match us, hl with | [_], _ => rfl
  have F_due := fun_mk (st := sDue) ldue ydue zdue
  have B_due := F_due.binds (ps := ["_law_m", "_law_word", "_law_holder", "_law_state"]) fun _ _ _ _ _ _ us hl => match us, hl with | [_, _, _, _], _ => rfl
  have F_right := fun_mk (st := sRight) lright yright zright
  have B_right := F_right.binds (ps := ["_law_well_here"]) fun _ _ _ _ _ _ us hl => match us, hl with | [_], _ => rfl
  have F_law := fun_mk (st := sLaw) llaw ylaw zlaw
  have B_law := F_law.binds (ps := ["_law_script"]) fun _ _ _ _ _ _ us hl => match us, hl with | [_], _ => rfl
  have F_IL := fun_mk (st := sIL) lIL yIL zIL
  have B_IL := F_IL.binds (ps := ["self", "holder"]) fun _ _ _ _ _ _ us hl => match us, hl with | [_, _], _ => rfl
  have F_IE := fun_mk (st := sIE) lIE yIE zIE
  have B_IE := F_IE.binds (ps := ["self", "serial"]) fun _ _ _ _ _ _ us hl => match us, hl with | [_, _], _ => rfl
  have F_SI := fun_mk (st := sSI) lSI ySI zSI
  have B_SI := F_SI.binds (ps := ["self", "state"]) fun _ _ _ _ _ _ us hl => match us, hl with | [_, _], _ => rfl
  have M_SI : Meth K CT "__init__" fSI := ⟨m_SI, j_SI, zSI⟩
  have F_kept := fun_mk (st := sKept) lkept ykept zkept
  have B_kept := F_kept.binds (ps := ["self"]) fun _ _ _ _ _ _ us hl => match us, hl with | [_], _ => rfl
  have M_kept : Meth K CT "kept" fkept := ⟨m_kept, j_kept, zkept⟩
  have F_lock := fun_mk (st := sLock) llock ylock zlock
  have B_lock := F_lock.binds (ps := ["self", "holder"]) fun _ _ _ _ _ _ us hl => match us, hl with | [_, _], _ => rfl
  have M_lock : Meth K CT "lock" flock := ⟨m_lock, j_lock, zlock⟩
  have F_chk := fun_mk (st := sCheck) lchk ychk zchk
  have B_chk := F_chk.binds (ps := ["self", "holder"]) fun _ _ _ _ _ _ us hl => match us, hl with | [_, _], _ => rfl
  have M_chk : Meth K CT "check_holder" fchk := ⟨m_chk, j_chk, zchk⟩
  have F_unl := fun_mk (st := sUnlock) lunl yunl zunl
  have B_unl := F_unl.binds (ps := ["self", "holder"]) fun _ _ _ _ _ _ us hl => match us, hl with | [_, _], _ => rfl
  have M_unl : Meth K CT "unlock" funl := ⟨m_unl, j_unl, zunl⟩
  have F_wri := fun_mk (st := sWrite) lwri ywri zwri
  have B_wri := F_wri.binds (ps := ["self", "holder", "state"]) fun _ _ _ _ _ _ us hl => match us, hl with | [_, _, _], _ => rfl
  have M_wri : Meth K CT "write" fwri := ⟨m_wri, j_wri, zwri⟩
  have F_StI := fun_mk (st := sStI) lStI yStI zStI
  have B_StI := F_StI.binds (ps := ["self", "objects", "deposed", "outputs", "serial"]) fun _ _ _ _ _ _ us hl => match us, hl with | [_, _, _, _, _], _ => rfl
  have M_StI : Meth K CS "__init__" fStI := ⟨m_StI, j_StI, zStI⟩
  have F_StN := fun_mk (st := sStN) lStN yStN zStN
  have B_StN := F_StN.binds (ps := ["self"]) fun _ _ _ _ _ _ us hl => match us, hl with | [_], _ => rfl
  have M_StN : Meth K CS "class_name" fStN := ⟨m_StN, j_StN, zStN⟩
  have F_StF := fun_mk (st := sStF) lStF yStF zStF
  have B_StF := F_StF.binds (ps := ["self"]) fun _ _ _ _ _ _ us hl => match us, hl with | [_], _ => rfl
  have M_StF : Meth K CS "fields" fStF := ⟨m_StF, j_StF, zStF⟩
  have F_VEq := fun_mk (st := sVEq) lVEq yVEq zVEq
  have B_VEq := F_VEq.binds (ps := ["self", "other"]) fun _ _ _ _ _ _ us hl => match us, hl with | [_, _], _ => rfl
  have M_VEq : Meth K CS "__eq__" fVEq := ⟨m_VEq, j_VEq, zVEq⟩
  have A_tag := PySem.W.mg_of X G a_tag
  have A_sort := PySem.W.mg_of X G a_sort
  have A_cop := PySem.W.mg_of X G a_cop
  have A_eq := PySem.W.mg_of X G a_eq
  have A_cell := PySem.W.mg_of X G a_cell
  have A_well := PySem.W.mg_of X G a_well
  have A_draw := PySem.W.mg_of X G a_draw
  have A_one := PySem.W.mg_of X G a_one
  have A_told := PySem.W.mg_of X G a_told
  have A_due := PySem.W.mg_of X G a_due
  have A_right := PySem.W.mg_of X G a_right
  have A_law := PySem.W.mg_of X G a_law
  have hP : h.get? PT = some { cls := .none, data := .fields #[] } := own _ A_right cR PT _ _ _ _ _ _ lright rfl rfl lR v11
  have hC : PySem.W.CodeHd h cR PT := ⟨_, vsR, fileR, tfR, flR, tgR, inR, txR, ttR, X _ _ lR, rfl, rfl, v11, w11, w18, w7, w9, w10, ne1⟩
  refine ⟨_, [(cR, PT)], spLaw K PT, fun p hp => ?_, fun p hp => ?_, fun p hp => ?_, fun s v => .of_eq (fd := PySem.W.fnOf "law" "law" (defArgs sLaw) (defBody sLaw) (defScope sLaw) .none kVlaw dclaw pmlaw anlaw cdlaw ctlaw) rfl, fun H a ns hl _ hT hS => ?_, fun base _ _ TB => ?_⟩
  · rw [List.mem_singleton.mp hp]; exact hP
  · rw [List.mem_singleton.mp hp]; exact nPT
  · rw [List.mem_singleton.mp hp]; exact hC
  · refine ⟨a, ns, rfl, hS, hl, fun p hp => ?_, fun _ => rfl⟩
    rw [List.mem_singleton.mp hp]
    exact LamX.TabS.nil (hT (cR, PT) (List.mem_singleton.mpr rfl))
  · have tb := TB (cR, PT) (List.mem_singleton.mpr rfl)
    have NL : New1 l.prog w K mg base CP "Locked" "holder" CL fIL _ := ⟨XL, GL, m_IL, j_IL, nL_holder, ok_IL F_IL PI XL.oex nL_holder, B_IL⟩
    have NE : New1 l.prog w K mg base CP "Stale" "serial" CE fIE _ := ⟨XE, GE, m_IE, j_IE, nE_serial, ok_IE F_IE PI XE.oex nE_serial, B_IE⟩
    have gSort : FnOk l.prog w K mg base CX0 2 fsort _ ["value"] spSort := ok_sort F_sort VT F_tag A_tag B_tag
    have gCop : FnOk l.prog w K mg base CX0 2 fcop _ ["value"] spCop1 := ok_cop1 F_cop VT A_cop B_cop
    have gE3 := ok_eqN (k := 2) F_eq VT A_eq B_eq gSort A_sort zsort B_sort (Nat.le_refl _) (eq_none (P := l.prog) (w := w) (K := K) (mg := mg) (base := base))
    have gE4 := ok_eqN (k := 3) F_eq VT A_eq B_eq gSort A_sort zsort B_sort (by decide) gE3
    have gE5 : FnOk l.prog w K mg base CX0 5 feq _ ["one", "other"] (spEqP (Nxt A1)) := ok_eqN (k := 4) F_eq VT A_eq B_eq gSort A_sort zsort B_sort (by decide) gE4
    have gQ : FnOk l.prog w K mg base CX0 6 fVEq _ ["self", "other"] (spEq (REq CS)) := ok_VEq F_VEq VT gE5 A_eq zeq B_eq (ok_StN F_StN) M_StN B_StN (ok_StF F_StF VT) M_StF B_StF
    have gR := ok_right (P := l.prog) (w := w) (base := base) lright yright ST VT iSs ne5 B_range ⟨mkS, m_StI, j_StI, kpS⟩ (ok_StI F_StI VT gCop A_cop zcop B_cop) GS B_StI ⟨mkT, m_SI, j_SI, kpT⟩ (ok_SI F_SI ST) GT B_SI
      (ok_draw F_draw t0) A_draw zdraw B_draw (ok_one F_one t0 F_draw A_draw B_draw) A_one zone B_one (ok_due F_due ST) A_due zdue B_due TO A_told ztold ltold ytold B_told
      M_wri (ok_write F_wri ST F_chk M_chk B_chk NL NE) B_wri M_lock (ok_lock F_lock ST NL) B_lock M_unl (ok_unlock F_unl ST F_chk M_chk B_chk NL) B_unl M_kept (ok_kept F_kept ST) B_kept gQ m_VEq j_VEq B_VEq tb
    exact ok_law F_law B_range (ok_cellat F_cell t0) A_cell zcell B_cell (ok_well F_well) A_well zwell B_well gR A_right zright B_right
end K25
open PySem PySem.W PyProof.Rows
set_option maxRecDepth 100000 in
set_option maxHeartbeats 0 in
theorem PySem.Challenge.cw_planfirst_k25_whole_stores_and_locks_holds : PySem.Challenge.rw_planfirst_k25_whole_stores_and_locks.Holds := by
  w_on; o_law; k_head; (case hw => w_witness2)
  k_fill
  refine K25.walk (l := PySem.Challenge.rw_planfirst_k25_whole_stores_and_locks) rfl rfl ?hrec (fun w h Y => PySem.W.km_in_of Y) ?F
  case hrec => decide +kernel
  case F =>
    intro w mg fa h KX G hmg own
    refine' K25.all_mk KX G hmg own ?aP ?rP ?gP ?vP ?hn ?ht ?aL ?xL ?sL ?gL ?kL ?hL ?pL ?tL ?aE ?xE ?sE ?gE ?kE ?hE ?pE ?tE ?aT ?aV ?aU ?aS ?c1T ?c2T ?c3T ?c4T ?mkT ?kpT ?c1S ?c2S ?c3S ?c4S ?mkS ?kpS ?nT_now ?nT_holder ?nS_objects ?nS_deposed ?nS_outputs ?nS_serial ?nL_holder ?nE_serial ?i1V ?i2V ?i1U ?i2U ?mSV ?mSs ?cS1 ?cS4 ?b_isinstance ?b_len ?b_all ?b_zip ?b_tuple ?b_dict ?b_list ?b_bool ?b_int ?b_str ?b_range ?a_tag ?ltag ?ytag ?ztag ?a_sort ?lsort ?ysort ?zsort ?a_cop ?lcop ?ycop ?zcop ?a_eq ?leq ?yeq ?zeq ?a_cell ?lcell ?ycell ?zcell ?a_well ?lwell ?ywell ?zwell ?a_draw ?ldraw ?ydraw ?zdraw ?a_one ?lone ?yone ?zone ?a_told ?ltold ?ytold ?ztold ?a_due ?ldue ?ydue ?zdue ?a_right ?lright ?yright ?zright ?a_law ?llaw ?ylaw ?zlaw ?m_IL ?j_IL ?lIL ?yIL ?zIL ?m_IE ?j_IE ?lIE ?yIE ?zIE ?m_SI ?j_SI ?lSI ?ySI ?zSI ?m_kept ?j_kept ?lkept ?ykept ?zkept ?m_lock ?j_lock ?llock ?ylock ?zlock ?m_chk ?j_chk ?lchk ?ychk ?zchk ?m_unl ?j_unl ?lunl ?yunl ?zunl ?m_wri ?j_wri ?lwri ?ywri ?zwri ?m_StI ?j_StI ?lStI ?yStI ?zStI ?m_StN ?j_StN ?lStN ?yStN ?zStN ?m_StF ?j_StF ?lStF ?yStF ?zStF ?m_VEq ?j_VEq ?lVEq ?yVEq ?zVEq ?lR ?v11 ?w11 ?w18 ?w7 ?w9 ?w10 ?nPT ?neq
    (case aP => k_is)
    (case rP => k_is)
    (case gP => k_is)
    (case vP => k_is)
    (case hn => k_is)
    (case ht => k_is)
    (case aL => k_is)
    (case xL => k_is)
    (case sL => k_is)
    (case gL => k_is)
    (case kL => k_is)
    (case hL => k_is)
    (case pL => k_is)
    (case tL => k_is)
    (case aE => k_is)
    (case xE => k_is)
    (case sE => k_is)
    (case gE => k_is)
    (case kE => k_is)
    (case hE => k_is)
    (case pE => k_is)
    (case tE => k_is)
    (case aT => k_is)
    (case aV => k_is)
    (case aU => k_is)
    (case aS => k_is)
    (case c1T => k_is)
    (case c2T => k_is)
    (case c3T => k_is)
    (case c4T => k_is)
    (case mkT => k_is)
    (case kpT => k_is)
    (case c1S => k_is)
    (case c2S => k_is)
    (case c3S => k_is)
    (case c4S => k_is)
    (case mkS => k_is)
    (case kpS => k_is)
    (case nT_now => k_is)
    (case nT_holder => k_is)
    (case nS_objects => k_is)
    (case nS_deposed => k_is)
    (case nS_outputs => k_is)
    (case nS_serial => k_is)
    (case nL_holder => k_is)
    (case nE_serial => k_is)
    (case i1V => k_is)
    (case i2V => k_is)
    (case i1U => k_is)
    (case i2U => k_is)
    (case mSV => k_is)
    (case mSs => k_is)
    (case cS1 => k_is)
    (case cS4 => k_is)
    (case b_isinstance => k_is)
    (case b_len => k_is)
    (case b_all => k_is)
    (case b_zip => k_is)
    (case b_tuple => k_is)
    (case b_dict => k_is)
    (case b_list => k_is)
    (case b_bool => k_is)
    (case b_int => k_is)
    (case b_str => k_is)
    (case b_range => k_is)
    (case a_tag => k_is)
    (case ltag => k_is)
    (case ytag => k_is)
    (case ztag => k_is)
    (case a_sort => k_is)
    (case lsort => k_is)
    (case ysort => k_is)
    (case zsort => k_is)
    (case a_cop => k_is)
    (case lcop => k_is)
    (case ycop => k_is)
    (case zcop => k_is)
    (case a_eq => k_is)
    (case leq => k_is)
    (case yeq => k_is)
    (case zeq => k_is)
    (case a_cell => k_is)
    (case lcell => k_is)
    (case ycell => k_is)
    (case zcell => k_is)
    (case a_well => k_is)
    (case lwell => k_is)
    (case ywell => k_is)
    (case zwell => k_is)
    (case a_draw => k_is)
    (case ldraw => k_is)
    (case ydraw => k_is)
    (case zdraw => k_is)
    (case a_one => k_is)
    (case lone => k_is)
    (case yone => k_is)
    (case zone => k_is)
    (case a_told => k_is)
    (case ltold => k_is)
    (case ytold => k_is)
    (case ztold => k_is)
    (case a_due => k_is)
    (case ldue => k_is)
    (case ydue => k_is)
    (case zdue => k_is)
    (case a_right => k_is)
    (case lright => k_is)
    (case yright => k_is)
    (case zright => k_is)
    (case a_law => k_is)
    (case llaw => k_is)
    (case ylaw => k_is)
    (case zlaw => k_is)
    (case m_IL => k_is)
    (case j_IL => k_is)
    (case lIL => k_is)
    (case yIL => k_is)
    (case zIL => k_is)
    (case m_IE => k_is)
    (case j_IE => k_is)
    (case lIE => k_is)
    (case yIE => k_is)
    (case zIE => k_is)
    (case m_SI => k_is)
    (case j_SI => k_is)
    (case lSI => k_is)
    (case ySI => k_is)
    (case zSI => k_is)
    (case m_kept => k_is)
    (case j_kept => k_is)
    (case lkept => k_is)
    (case ykept => k_is)
    (case zkept => k_is)
    (case m_lock => k_is)
    (case j_lock => k_is)
    (case llock => k_is)
    (case ylock => k_is)
    (case zlock => k_is)
    (case m_chk => k_is)
    (case j_chk => k_is)
    (case lchk => k_is)
    (case ychk => k_is)
    (case zchk => k_is)
    (case m_unl => k_is)
    (case j_unl => k_is)
    (case lunl => k_is)
    (case yunl => k_is)
    (case zunl => k_is)
    (case m_wri => k_is)
    (case j_wri => k_is)
    (case lwri => k_is)
    (case ywri => k_is)
    (case zwri => k_is)
    (case m_StI => k_is)
    (case j_StI => k_is)
    (case lStI => k_is)
    (case yStI => k_is)
    (case zStI => k_is)
    (case m_StN => k_is)
    (case j_StN => k_is)
    (case lStN => k_is)
    (case yStN => k_is)
    (case zStN => k_is)
    (case m_StF => k_is)
    (case j_StF => k_is)
    (case lStF => k_is)
    (case yStF => k_is)
    (case zStF => k_is)
    (case m_VEq => k_is)
    (case j_VEq => k_is)
    (case lVEq => k_is)
    (case yVEq => k_is)
    (case zVEq => k_is)
    (case lR => k_is)
    (case v11 => rfl)
    (case w11 => rfl)
    (case w18 => rfl)
    (case w7 => rfl)
    (case w9 => rfl)
    (case w10 => rfl)
    (case nPT => rfl)
    (case neq => decide)
