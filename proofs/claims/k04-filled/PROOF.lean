import PyProof.Rows.All
import Wide.All
import OpenK.AllK
import Wide.FinOn
import KE.KExcMore
import HandS.ForMost
import HandS.ForExc
import HandS.ExcInit
import HandS.ExcField
import HandS.ExcIs
import HandS.IsInst
import HandS.ExcValue
import HandS.ClsMeth
import HandS.RaiseMore
import HandS.DictComp
import HandS.TryMany
import HandS.Lambda
import HandS.More
import HandS.Walk
import HandS.Zip0
import HandS.Zip
import KE.KDictZip
import KE.KItemsList
import HandS.ListItems
import HandS.OwnEq
import KE.KDictList
import PyProof.NeKinds
import KE.KDictDisplayH
import HandS.Text
import PyProof.FitsInt
import PyProof.Rows.ReprOcc
import PyProof.StrLawsRepr
import PyProof.ReprRoads
import KE.KDictPairs
import HandS.Words
import HandS.ExcOwn
import PySem.Challenge.RW_planfirst_k04_whole_known_values_are_rig
set_option Elab.async false
set_option linter.all false
set_option maxRecDepth 100000
set_option maxHeartbeats 4000000
/-! Rules of my own for the hand layer: exceptions of own classes as values that are kept. -/
namespace XR
open PySem PySem.Spec PyProof.Rows L2
section
variable {X : Cx} {pins : List (Addr × Obj)} {σ : L2.St} {H : Hp} {s : Shared}

/-! ### PlanError.__init__(self, ..): the base class is an own class -/
structure PIni (K : PySem.W.Frag) (mg : Str → Option Value) (x : Str) (B : Addr) (mc : Value) : Prop where
  gB : mg x = some (.ref B)
  cr : ClX.CRead K B mc
  vB : PySem.W.findCls K (.ref B) mc "__init__" = some (.val (.builtin "ValueError.__init__"))
theorem pe_pinit {e : Expr} {es : List Expr} {ta : TA} {x : Str} {B : Addr} {mc : Value} {p1 p2 pos : Pos} {pl : Sem Bool} (P : PIni X.K X.mg x B mc) (hg : Gl X x) (ha : PA X (e :: es) ta)
    (hc : eval (.Call (.Attribute (.Name x p1) "__init__" p2) (e :: es) [] pos) X.env = (do
      let o ← eval (.Name x p1) X.env
      standAt p2.atName
      let (f, first) ← holding [o] (getMethod o "__init__" pl)
      callWith pos f first (backTo pos (starEach (e :: es) X.env)) (backToKw pos (keywordEach [] X.env))) := by rfl)
    (he : starEach (e :: es) X.env = (false, eval e X.env) :: starEach es X.env := by rfl) (hpl : (backTo pos (starEach es X.env)).any (·.1) = false := by rfl) (hdb : (x == ("__debug__" : Str)) = false := by decide) :
    PE X (.Call (.Attribute (.Name x p1) "__init__" p2) (e :: es) [] pos) (tVeI X.K ta) := by
  refine ⟨fun pins s σ H Q I h => ?_⟩
  refine PySem.W.methodCall_KW (ld_glob I hg P.gB ?_ hdb) hc
  refine PySem.W.method_cls I.kIn P.cr.ga (PySem.W.cls_value I.kIn P.cr.rd P.vB (by decide +kernel) ?_)
  show wpAny _ _ (callWith pos (Value.builtin "ValueError.__init__") [] (backTo pos (starEach (e :: es) X.env)) []) _ _ _
  refine PyProof.Rows.callWith_method1 (thn (ha.run pos pins _ σ H _ (I.tok _) h) fun us s1 hh => ?_) he hpl
  obtain ⟨vs, H1, I1, r1, a, C, ws, ev, hl, T, ea, q⟩ := hh
  subst ev
  cases r1 with
  | @cons _ u0 _ ur ra rr =>
    obtain rfl : u0 = Value.ref a := ra
    refine oinit_ok T I1 ea ?_ fun s' J => ⟨.non, H1, J, rfl, q⟩
    rw [← Paired.length rr, sizeLine_eq]
    omega

/-! ### C(e, ..) as a value -/
@[irreducible] def tNewO (C : Addr) (sp : Sp) (ta : TA) : TE := fun σ H Q => ta σ H fun vs H1 => vs.length ≤ 1000 ∧ ∀ a, H1 a = none →
  sp (.ref a :: vs) (upd H1 a (exo a C none)) (fun v H2 => v = .non ∧ Q (.ref a) H2) (fun _ _ _ => False)
theorem pe_newO {CX : CXT} {x : Str} {C fI : Addr} {k : Nat} {fd : FuncData} {ps : List Str} {sp : Sp} {e : Expr} {es : List Expr} {ta : TA} {p pos : Pos} (T : OexC X.K C)
    (iC : PySem.W.findIn X.K (.ref C) "__init__" = some (some (.ref fI))) (tI : PySem.W.typeIn X.K (.ref fI) = some (.type "function"))
    (F1 : FnOk X.prog X.w X.K X.mg X.base CX k fI fd ps sp) (hr : Room (k + 1) X.A) (hb : Binds X.K fd ps []) (hx : Passes CX X (fun _ _ _ => False)) (hg : Gl X x) (hm : X.mg x = some (.ref C)) (ha : PA X (e :: es) ta)
    (hdb : (x == ("__debug__" : Str)) = false := by decide) (he : starEach (e :: es) X.env = (false, eval e X.env) :: starEach es X.env := by rfl) (hpl : (backTo pos (starEach es X.env)).any (·.1) = false := by rfl) :
    PE X (.Call (.Name x p) (e :: es) [] pos) (tNewO C sp ta) := by
  refine ⟨fun pins s σ H Q I h => ?_⟩
  unfold tNewO at h
  obtain ⟨nm, q, N, bs, bm, sn, sub, ab, col, dd, k0, k1, k2, k3, k5, hC, hbm⟩ := T.cls
  refine wpAny_Call_Name_kw (ld_glob I hg hm ?_ hdb)
  refine PySem.W.callWith_K (h₀ := X.base) I.ok.mod.kin T.kC (thn (ha.run pos pins s σ H _ I h) fun us s1 hh => ?_) he hpl
  obtain ⟨vs, H1, I1, r1, hz, q1⟩ := hh
  refine ⟨I1.kIn, ?_⟩
  show wpAny _ _ (call (.ref C) us) _ _ _
  obtain ⟨hp, g, dr, tk, os⟩ := s1
  have le1 : hp.objs.size ≤ hp.objs.size + 1 := Nat.le_succ _
  have hq := q1 (hp.objs.size + 1) (I1.hok.fresh le1)
  have keep : ∀ b o, hp.get? b = some o → ((hp.push (PySem.W.kdv_tup us)).push (PySem.HandSPX.excO C hp.objs.size)).get? b = some o := fun b o z => Heap.get?_push_of_some _ (Heap.get?_push_of_some _ z)
  have at1 : ((hp.push (PySem.W.kdv_tup us)).push (PySem.HandSPX.excO C hp.objs.size)).get? (hp.objs.size + 1) = some (PySem.HandSPX.excO C hp.objs.size) := by heap_get
  have I2 : Inv X pins σ (upd H1 (hp.objs.size + 1) (exo (hp.objs.size + 1) C none)) ⟨(hp.push (PySem.W.kdv_tup us)).push (PySem.HandSPX.excO C hp.objs.size), g, dr, tk, os⟩ :=
    I1.laid (t' := tk) (a := hp.objs.size + 1) (o := exo (hp.objs.size + 1) C none) (h' := (hp.push (PySem.W.kdv_tup us)).push (PySem.HandSPX.excO C hp.objs.size)) keep le1 (exo_ok at1)
  have r2 : Vals (V.ref (hp.objs.size + 1) :: vs) (Value.ref (hp.objs.size + 1) :: us) := .cons rfl r1
  have hl : (Value.ref (hp.objs.size + 1) :: us ++ []).length = ps.length := by
    have z := r2.length
    rw [F1.len _ _ _ _ hq] at z
    simpa using z.symm
  have hus : us.length ≤ sizeLine := by
    rw [← Paired.length r1, sizeLine_eq]
    omega
  have hbb := hb _ (Value.ref (hp.objs.size + 1) :: us) I2.kIn hl
  rw [List.append_nil] at hbb
  refine wpAny_call (PySem.HandSPX.call_own F.excBase_ValueError (fun Y => PySem.HandSPX.refsVE_contains Y bm hbm) (I1.kIn _ _ hC) (PySem.W.looks_findIn I1.kIn iC) (fun self => PySem.W.bind_fn I1.kIn self tI) hus
    (codeAny_mono (F1.run _ X.stack _ _ ⟨Value.ref (hp.objs.size + 1) :: us, []⟩ (Value.ref (hp.objs.size + 1) :: us) _ _ (fun _ _ _ => False) (hr.make C us []) (I2.env0.make C us []) hbb r2 hq) fun r s' z => ?_))
  cases r with
  | error er => exact hx pins σ _ _ er s' I2 z
  | ok fl =>
    cases fl with
    | ret u =>
      obtain ⟨v, H2, os2, bare2, un2, hok2, rv, ev, q2⟩ := z
      subst ev
      exact ⟨rv, .ref (hp.objs.size + 1), H2, I2.call' (ch := []) os2 un2 hok2 bare2 (fun b z => absurd z (by simp)), rfl, q2⟩
    | next => exact False.elim z
    | brk => exact False.elim z
    | cont => exact False.elim z

/-! ### e.f, e such a value -/
@[irreducible] def tXget (K : PySem.W.Frag) (f : Str) (te : TE) : TE := fun σ H Q => te σ H fun x H1 => ∃ (a C dx : Addr) (fs : List (Str × V)) (v : V), x = .ref a ∧ XfC K C ∧ PySem.W.findIn K (.ref C) f = some none ∧
  H1 a = some (exo a C (some dx)) ∧ H1 dx = some (exd dx fs) ∧ fs.lookup f = some v ∧ Q v H1
theorem exo_inst {a C dx : Addr} {fs : List (Str × V)} (I : Inv X pins σ H s) (ea : H a = some (exo a C (some dx))) (ed : H dx = some (exd dx fs)) :
    ∃ (t1 : Addr) (od : Obj) (mA : Str → Option Value), PySem.W.InstAt s.heap a { cls := .ref C, dict := some dx, data := .fields #[.ref t1, .none, .none, .none, .bool false, .none] } C (some od) ∧ (∀ f, RelO (fs.lookup f) (mA f)) ∧ ∀ f, PySem.W.lookIn f od = some (mA f) := by
  obtain ⟨t1, ho⟩ := exo_at I.hok ea
  obtain ⟨mA, hns, rel⟩ := exd_at I.hok ed
  obtain ⟨od, hod, hl⟩ := lookIn_ns hns
  exact ⟨t1, od, mA, ⟨ho, rfl, rfl, hod⟩, rel, hl⟩
theorem pe_xget {e : Expr} {te : TE} {f : Str} {pos : Pos} (he : PE X e te) (hb : attributeBase e f X.env (eval e X.env) = eval e X.env := by rfl) : PE X (.Attribute e f pos) (tXget X.K f te) := by
  refine ⟨fun pins s σ H Q I h => ?_⟩
  unfold tXget at h
  refine attr_of hb (thn (he.run pins s σ H _ I h) fun u s1 hh => ?_)
  obtain ⟨x, H1, I1, rx, a, C, dx, fs, v, ex, T, hno, ea, ed, l, q⟩ := hh
  subst ex
  obtain rfl : u = Value.ref a := rx
  obtain ⟨t1, od, mA, J, rel, hl⟩ := exo_inst I1 ea ed
  obtain ⟨u, hu, ru⟩ := RelO.some_of (v := v) (o := mA f) (by rw [← l]; exact rel f)
  exact HandSPX.exc_get I1.kIn J T.ga T.gg T.exC (PySem.W.findObj_own T.hdC hno rfl (by rw [hl, hu])) (handed_of ru) ⟨v, H1, I1.tok _, ru, q⟩
end
end XR

/-! Own errors over PlanError: what is asked of a class, its __init__, raising it. -/
namespace XR
open PySem PySem.Spec PyProof.Rows L2
/-- all but what stands at w is as it was -/
def But (w : Addr) (H H' : Hp) : Prop := ∀ b o, H b = some o → b ≠ w → H' b = some o
theorem But.trans {w : Addr} {H H1 H2 : Hp} (a : But w H H1) (b : But w H1 H2) : But w H H2 := fun c o h n => b c o (a c o h n) n
theorem But.upd {w : Addr} {H : Hp} {o : HO} : But w H (upd H w o) := fun b u e n => by rw [upd_ne n]; exact e
theorem But.of {w : Addr} {H H' : Hp} (m : Same H H') : But w H H' := fun b u e _ => m b u e
theorem But.same {w : Addr} {H G H' : Hp} (m : But w G H') (h : Same H G) (n : H w = none) : Same H H' := fun b o e => m b o (h b o e) (ne_of_none e n)
theorem same_new {p : Addr} {H : Hp} {o : HO} (h : H p = none) : Same H (L2.upd H p o) := fun b u e => by rw [upd_ne (ne_of_none e h)]; exact e
theorem at_new {H : Hp} {a : Addr} {o : HO} (_ : H a = none) : L2.upd H a o a = some o := upd_same
abbrev tail (CP : Addr) : List Value := [.ref CP, .type "ValueError", .type "Exception", .type "BaseException", .type "object"]
structure XcOk (K : PySem.W.Frag) (CP C : Addr) : Prop where
  lk : ∃ nm q N bs sn sub ab col dd k0 k1 k2 k3 k5, K.lookup C = some (excClassObj nm q C N bs (tail CP) true sn sub ab col dd k0 k1 k2 k3 k5 "ValueError.__new__")
  sa : PySem.W.findIn K (.ref C) "__setattr__" = some (some (.builtin "object.__setattr__"))
  ga : PySem.W.findIn K (.ref C) "__getattribute__" = some (some (.builtin "BaseException.__getattribute__"))
  gg : PySem.W.findIn K (.ref C) "__getattr__" = some none
  ha : PySem.W.findIn K (.ref C) "__class__" = some (some (.builtin "object.__class__"))
  kC : PySem.W.keepIn K (.ref C) = true
  tyC : PySem.W.typeIn K (.ref C) = some (.type "type")
structure Cls0 (K : PySem.W.Frag) : Prop where
  hn : PySem.W.specialIn K (.builtin "object.__class__") "__get__" = some (some (.builtin "getset_descriptor.__get__"))
  ht : PySem.W.takesIn K (.builtin "object.__class__") = some true
section
variable {K : PySem.W.Frag} {CP C D : Addr}
theorem XcOk.cls (x : XcOk K CP C) : ∃ cd : ClassData, PySem.W.clsIn K C = some cd ∧ cd.mro = .ref C :: tail CP ∧ cd.hasDict = true := by
  obtain ⟨nm, q, N, bs, sn, sub, ab, col, dd, k0, k1, k2, k3, k5, h⟩ := x.lk
  refine ⟨{ name := nm, bases := bs, mro := .ref C :: tail CP, ns := N, qualname := q, hasDict := true, slotNames := sn, subclasses := sub, abstract := ab, collection := col, hasDel := false }, ?_, rfl, rfl⟩
  unfold PySem.W.clsIn
  rw [h]
theorem XcOk.mro (x : XcOk K CP C) (v : Value) : PySem.W.mroIn K C v = some ((Value.ref C :: tail CP).contains v) := by
  obtain ⟨cd, h1, h2, _⟩ := x.cls
  unfold PySem.W.mroIn
  rw [h1, Option.bind_some, h2]
  rfl
theorem XcOk.sub (x : XcOk K CP C) (v : Value) : PySem.W.subIn K (.ref C) v = some ((Value.ref C :: tail CP).contains v) := x.mro v
theorem XcOk.hd (x : XcOk K CP C) : PySem.W.hasDictIn K C = true := by
  obtain ⟨cd, h1, _, h3⟩ := x.cls
  unfold PySem.W.hasDictIn
  rw [h1]
  exact h3
theorem XcOk.oex (x : XcOk K CP C) : OexC K C := by
  obtain ⟨nm, q, N, bs, sn, sub, ab, col, dd, k0, k1, k2, k3, k5, h⟩ := x.lk
  exact ⟨⟨nm, q, N, bs, tail CP, sn, sub, ab, col, dd, k0, k1, k2, k3, k5, h, rfl⟩, x.sa, (x.sub _).trans (congrArg some (by rfl)), x.tyC, x.kC⟩
theorem XcOk.xf (x : XcOk K CP C) : XfC K C := ⟨x.ga, x.gg, (x.sub _).trans (congrArg some (by rfl)), x.hd⟩
theorem XcOk.isCls (x : XcOk K CP C) : ((PySem.W.clsIn K C).isSome && PySem.W.typeIn K (.ref C) == some (.type "type")) = true := by
  obtain ⟨cd, h1, _⟩ := x.cls
  rw [h1, x.tyC]
  rfl
/-- except D, of an error of the class C -/
theorem XcOk.exm (x : XcOk K CP C) (y : XcOk K CP D) (hp : D ≠ CP) : PySem.W.exmOne K (.ref C) (.ref D) = some (decide (C = D)) := by
  have e1 : (PySem.W.subIn K (.ref D) (.type "BaseException") == some true) = true := by
    rw [y.sub]
    rfl
  show (if (PySem.W.subIn K (.ref D) (.type "BaseException") == some true) = true then (if ((PySem.W.clsIn K D).isSome && PySem.W.typeIn K (.ref D) == some (.type "type")) = true then PySem.W.subIn K (.ref C) (.ref D) else none) else none) = _
  rw [if_pos e1, if_pos y.isCls, x.sub]
  congr 1
  by_cases e : C = D
  · subst e
    simp
  · have b1 : (Value.ref D == Value.ref C) = false := beq_eq_false_iff_ne.mpr fun z => e (Value.ref.inj z).symm
    have b2 : (Value.ref D == Value.ref CP) = false := beq_eq_false_iff_ne.mpr fun z => hp (Value.ref.inj z)
    rw [List.contains_cons, List.contains_cons, b1, b2, decide_eq_false e]
    rfl
end
def spI (C : Addr) (fld : Str) : Sp := fun vs H Q _ => ∃ (a : Addr) (v : V), vs = [.ref a, v] ∧ H a = some (exo a C none) ∧
  ∀ (dx : Addr) (H' : Hp), H dx = none → dx ≠ a → H' = upd (upd H dx (exd dx [(fld, v)])) a (exo a C (some dx)) → Q .non H'
/-- an error of one value -/
structure New1 (P : Program) (w : World) (K : PySem.W.Frag) (mg : Str → Option Value) (base : Heap) (CP : Addr) (x fld : Str) (C fI : Addr) (fd : FuncData) : Prop where
  xc : XcOk K CP C
  g : mg x = some (.ref C)
  iC : PySem.W.findIn K (.ref C) "__init__" = some (some (.ref fI))
  tI : PySem.W.typeIn K (.ref fI) = some (.type "function")
  no : PySem.W.findIn K (.ref C) fld = some none
  ok : FnOk P w K mg base CX0 1 fI fd ["self", fld] (spI C fld)
  b : Binds K fd ["self", fld] []
/-- raise C(v): the way out -/
@[irreducible] def RaiseK (C : Addr) (fld : Str) (v : V) (H : Hp) (Q : XK) : Prop := [v].length ≤ 1000 ∧ ∀ a, H a = none → spI C fld (.ref a :: ([v] ++ [])) (upd H a (exo a C none))
  (fun u H2 => u = .non ∧ ∃ (d : Addr) (fs : List (Str × V)), H2 a = some (exo a C (some d)) ∧ H2 d = some (exd d fs) ∧ H d = none ∧ Q (.ref C) (some d) (upd (del H2 a) d (.xd fs))) (fun _ _ _ => False)
theorem raiseK {C : Addr} {fld : Str} {v : V} {H : Hp} {Q : XK} (h : ∀ (d : Addr) (H' : Hp), H d = none → Same H H' → H' d = some (.xd [(fld, v)]) → Q (.ref C) (some d) H') : RaiseK C fld v H Q := by
  unfold RaiseK
  refine ⟨(by show 1 ≤ 1000; decide), fun a ha => ⟨a, v, rfl, upd_same, fun dx H' hd hne e => ⟨rfl, dx, [(fld, v)], ?_, ?_, ?_, ?_⟩⟩⟩
  · rw [e, upd_same]
  · rw [e, upd_ne hne, upd_same]
  · rw [upd_ne hne] at hd
    exact hd
  · rw [upd_ne hne] at hd
    refine h dx _ hd (fun b o z => ?_) upd_same
    have n1 := ne_of_none z ha
    have n2 := ne_of_none z hd
    rw [upd_ne n2, del_ne n1, e, upd_ne n1, upd_ne n2, upd_ne n1]
    exact z
def tRaiseI (C : Addr) (fld : Str) (W : WX) (te : TE) : TS := fun _ σ H => te σ H fun v H1 => RaiseK C fld v H1 fun cls d H' => W cls d σ H'
section
variable {X : Cx}
theorem ps_raiseI {x fld : Str} {CP C fI : Addr} {fd : FuncData} {e : Expr} {te : TE} {W : WX} {p pos pos2 : Pos} (N : New1 X.prog X.w X.K X.mg X.base CP x fld C fI fd) (hc : X.calm = true) (hr : Room 2 X.A) (tk : Takes X W) (hg : Gl X x) (he : PE X e te)
    (hdb : (x == ("__debug__" : Str)) = false := by decide) (h1 : starEach [e] X.env = (false, eval e X.env) :: starEach [] X.env := by rfl) (hpl : (backTo pos (starEach [] X.env)).any (·.1) = false := by rfl) :
    PS X (.Raise (some (.Call (.Name x p) [e] [] pos)) none pos2) (tRaiseI C fld W te) := by
  have M := pmk_oex (X := X) (pos := pos) (p := p) N.xc.oex N.iC N.tI N.ok hr N.b .nil (fun _ _ _ _ _ _ _ z => z.elim) hg N.g (pa_cons he pa_nil h1) hdb h1 hpl
  have R := ps_raise (pos := pos2) hc tk M
  have e : tRaiseI C fld W te = fun _ σ H => tMkO C (spI C fld) [] (tCons te tNil) σ H fun cls d H' => W cls d σ H' := by
    unfold tRaiseI RaiseK
    rfl
  rw [e]
  exact R
end
end XR

/-! try with several clauses «except X as n» -/
namespace XR
open PySem PySem.Spec PyProof.Rows L2
/-- what such clauses wish of an exception of the body, one after the other -/
def wManyA (K : PySem.W.Frag) (Wout : WX) (D : Ends) : List (Value × Nat × (Addr → Value → Option Addr → TS)) → WX
  | [] => Wout
  | (c, i, ts) :: r => fun cls d σ H => ∃ b, PySem.W.exmOne K cls c = some b ∧
      (b = true → ∀ a, H a = none → ts a cls d { nx := fun σ' H' => D.nx (σ'.set i none) H', rt := D.rt, bk := fun σ' H' => D.bk (σ'.set i none) H', ct := fun σ' H' => D.ct (σ'.set i none) H' } (σ.set i (some (.ref a))) H) ∧
      (b = false → wManyA K Wout D r cls d σ H)
inductive HdsA (X : Cx) : List ExceptHandler → List (Value × Nat × (Addr → Value → Option Addr → TS)) → Prop
  | nil : HdsA X [] []
  | cons {x n : Str} {c : Value} {i : Nat} {ts : Addr → Value → Option Addr → TS} {b0 : Stmt} {suite : List Stmt} {np pos' : Pos} {hds : List ExceptHandler} {l : List (Value × Nat × (Addr → Value → Option Addr → TS))} (hc : Names X x c)
      (hi : X.N[i]? = some n) (hln : X.env.kindOf n = some .local)
      (hsu : ∀ (a : Addr) (oe : Obj) (cls : Value) (d : Option Addr) (pn : List (Addr × Obj)), Zc cls d oe → (∃ vs, oe.data = .fields vs) → PSs (X.suite a ((a, oe) :: pn)) (b0 :: suite) (ts a cls d)) (r : HdsA X hds l) :
      HdsA X (.ExceptHandler (some (.Name x np)) (some n) (b0 :: suite) pos' :: hds) ((c, i, ts) :: l)
section
variable {X : Cx} {body : List Stmt} {h0 : ExceptHandler} {hds : List ExceptHandler} {l : List (Value × Nat × (Addr → Value → Option Addr → TS))} {pos : Pos} {tb : WX → TS} {Wout : WX}
theorem ps_tryA (hs : X.stack = X.env :: X.outer) (hf : X.env.frame = some X.env.locals) (hN : X.N.Nodup) (tk : Takes X Wout)
    (hb : ∀ (W : WX) (pn : List (Addr × Obj)) (xe : Value → Shared → Prop), Takes (X.tr pn xe) W → PassesOwn (model X.prog X.w) X.A X.env xe → PSs (X.tr pn xe) body (tb W))
    (hh : HdsA X (h0 :: hds) l) : PS X (.Try body (h0 :: hds) [] [] pos) (fun D σ H => tb (wManyA X.K Wout D l) D σ H) := by
  refine ⟨fun pins s σ H D I h => ?_⟩
  have ok := I.ok
  have hfr : X.A.frames = some (X.env :: X.outer) := by rw [ok.frames, hs]
  refine wpAny_Try_except ?_
  refine wpAny_mono ((hb (wManyA X.K Wout D l) (X.pn ++ pins) (fun e s1 => wpAny (model X.prog X.w) X.A (noteFrame e X.env) (fun _ s2 => wpAny (model X.prog X.w) X.A (setFlight e none) (fun _ s3 =>
    wpAny (model X.prog X.w) X.A (handleBy e X.env (h0 :: hds)) (SP X pins D) X.xe s3) X.xe s2) X.xe s1) (fun u s' xx => ?_) PassesOwn.looking).run [] s σ H D (I.toTry _) h) (fun f s1 hsp => ?_) (fun e s1 he => he)
  · obtain ⟨a, B, sI, pins', σ', H', cls, d, rfl, J', nb, up, sky, na, os, ag, w⟩ := xx
    have J : Inv X pins σ' H' sI := J'.ofTry ok
    have sky' : Sky B (X.env :: X.outer) a (Zc cls d) X.env.locals s'.heap := by rw [← hs]; exact sky
    show wpAny (model X.prog X.w) X.A (noteFrame (.ref a) X.env) _ _ _
    refine Sky.land Zc.steady hfr hf sky' fun h3 fl3 up3 => ?_
    have J3 : Inv X pins σ' H' { s' with heap := h3 } := J.landed nb fl3.1 (up.trans up3) os ag
    obtain ⟨oe3, vs3, he3, hz3, hd3⟩ := fl3.there
    have nfr : a ∉ frs (X.env :: X.outer) := fun hm => by
      obtain ⟨_, o', e', hnf⟩ := fl3.2.2.1.mem hm
      rw [he3] at e'
      cases e'
      exact hnf _ hd3
    have nL : a ≠ X.env.locals := fun z => nfr (List.mem_filterMap.mpr ⟨X.env, List.mem_cons_self, by rw [hf, z]⟩)
    have nF : a ∉ X.fs := fun hm => by
      obtain ⟨e, he, q⟩ := List.mem_filterMap.mp hm
      exact nfr (List.mem_filterMap.mpr ⟨e, List.mem_cons_of_mem _ he, q⟩)
    have S3 := J3.suite he3 hd3 na nL nF
    have go : ∀ {hds' : List ExceptHandler} {l' : List (Value × Nat × (Addr → Value → Option Addr → TS))}, HdsA X hds' l' → wManyA X.K Wout D l' cls d σ' H' →
        wpAny (model X.prog X.w) X.A (handleBy (.ref a) X.env hds') (SP X pins D) X.xe { s' with heap := h3 } := by
      intro hds' l' hk
      induction hk with
      | nil =>
        intro w
        refine wpAny_handleBy_nil ?_
        obtain ⟨k1, k2, k3, oe, vs, T, oT, ts', he, hz, hd, h1, hr⟩ := id fl3
        unfold PySem.passOn
        refine wpAny_bind (wpAny_field he hd h1 ?_)
        rw [if_neg (show ¬ ((Value.ref T == Value.none) = true) from by simp)]
        have fin : wpAny (model X.prog X.w) X.A (setFlight (.ref a) X.env.frame) (fun _ s4 => wpAny (model X.prog X.w) X.A (throw (.ref a) : Sem Flow) (SP X pins D) X.xe s4) X.xe { s' with heap := h3 } := by
          rw [hf]
          refine HandSPX.setFlight_upZ fl3 fun h4 hh4 up4 => wpAny_throw (tk _ _ ?_)
          exact ⟨a, B, sI, pins, σ', H', cls, d, rfl, J, nb, (up.trans up3).trans up4, .inr (.inr (by rw [hs]; exact hh4)), na, os, ag, w⟩
        first
          | exact wpAny_bind (wpAny_pure (wpAny_bind fin))
          | exact wpAny_bind fin
      | @cons x n c i ts b0 suite np pos' hds2 l2 hc hi hln hsu r ih =>
        intro w
        obtain ⟨b, hb1, hyes, hno⟩ := w
        refine wpAny_handleBy_cons (codeAny_handlers_test ?_) (by intro q; cases q)
        have LT : PySem.W.Looks (model X.prog X.w) h3 (typeOf (.ref a)) cls := fun A Q E s k q => wpAny_typeOf_ref (k _ _ he3) (by rw [hz3.1]; exact q)
        have LM := PySem.W.exm_one (M := model X.prog X.w) (J3.kIn) LT hb1
        have test : ∀ {Q : Value → Shared → Prop} {E : Value → Shared → Prop}, Q c { s' with heap := h3 } → wpAny (model X.prog X.w) (X.A.mark (some (.ref a))) (eval (.Name x np) X.env) Q E { s' with heap := h3 } := fun {Q E} q => by
          obtain ⟨hg, hdbg, hm | ⟨hm, hv, hnn⟩⟩ := hc
          · exact ld_glob (X := X.suite a ((a, oe3) :: (X.pn ++ pins))) S3 hg hm q hdbg
          · exact ld_blt (X := X.suite a ((a, oe3) :: (X.pn ++ pins))) S3 hg hm hv q hnn hdbg
        refine test (LM.here ?_)
        cases b with
        | true =>
          refine codeAny_handlers_suite_as ?_
          refine HandSPX.lands_againZ fl3 fun h4 fl4 up4 => ?_
          have J4 : Inv X pins σ' H' { s' with heap := h4 } := J.landed nb fl4.1 ((up.trans up3).trans up4) os ag
          obtain ⟨oe4, vs4, he4, hz4, hd4⟩ := fl4.there
          have S4 := J4.suite he4 hd4 na nL nF
          refine store_ok (X := X.suite a ((a, oe4) :: (X.pn ++ pins))) (v := .ref a) S4 hN hi (.inl hln) rfl (fun s5 S5 => ?_) (.inr hln)
          refine wpAny_mono ((hsu a oe4 cls d (X.pn ++ pins) hz4 ⟨_, hd4⟩).run [] s5 _ H' _ S5 (hyes rfl a na)) (fun f s6 hsp => ?_) (fun _ _ z => False.elim z)
          have end_ : ∀ {σ6 : L2.St} {H6 : Hp} {Q : Shared → Prop}, Inv (X.suite a ((a, oe4) :: (X.pn ++ pins))) [] σ6 H6 s6 → (∀ s7, Inv X pins (σ6.set i none) H6 s7 → Q s7) →
              wpAny (model X.prog X.w) X.A (do bindName X.env n .none; unbindBehindTheSuite X.env n pos') (fun _ s7 => Q s7) X.xe s6 := fun {σ6 H6 Q} S6 hq => gone_ok (S6.unsuite ok) hN hi hln hq
          cases f with
          | next =>
            obtain ⟨σ6, H6, S6, q6⟩ := hsp
            exact end_ S6 fun s7 J7 => ⟨_, _, J7, q6⟩
          | brk =>
            obtain ⟨σ6, H6, S6, q6⟩ := hsp
            exact end_ S6 fun s7 J7 => ⟨_, _, J7, q6⟩
          | cont =>
            obtain ⟨σ6, H6, S6, q6⟩ := hsp
            exact end_ S6 fun s7 J7 => ⟨_, _, J7, q6⟩
          | ret u =>
            obtain ⟨v6, σ6, H6, S6, r6, q6⟩ := hsp
            exact end_ S6 fun s7 J7 => ⟨_, _, _, J7, r6, q6⟩
        | false =>
          show wpAny _ X.A (handleBy (.ref a) X.env hds2) _ _ _
          exact ih (hno rfl)
    exact go hh w
  · cases f with
    | next =>
      obtain ⟨σ', H', J', q⟩ := hsp
      exact wpAny_execs_nil ⟨σ', H', J'.ofTry ok, q⟩
    | brk =>
      obtain ⟨σ', H', J', q⟩ := hsp
      exact ⟨σ', H', J'.ofTry ok, q⟩
    | cont =>
      obtain ⟨σ', H', J', q⟩ := hsp
      exact ⟨σ', H', J'.ofTry ok, q⟩
    | ret u =>
      obtain ⟨v, σ', H', J', r, q⟩ := hsp
      exact ⟨v, σ', H', J'.ofTry ok, r, q⟩
end
end XR

/-! value trees -/
namespace VT
open PySem L2 XR
inductive D where
  | non
  | bl (b : Bool)
  | int (i : Int)
  | str (x : Str)
  | unk
  | tup (l : List D)
  | map (ks : List Str) (ds : List D)
mutual
def dep : D → Nat
  | .tup l => depL l + 1
  | .map _ ds => depL ds + 1
  | _ => 0
def depL : List D → Nat
  | [] => 0
  | d :: r => max (dep d) (depL r)
end
mutual
def sz : D → Nat
  | .tup l => szL l + 1
  | .map _ ds => szL ds + 1
  | _ => 0
def szL : List D → Nat
  | [] => 0
  | d :: r => sz d + 1 + szL r
end
theorem dep_mem : ∀ {l : List D} {d : D}, d ∈ l → dep d ≤ depL l
  | x :: r, d, h => by
    rw [depL]
    rcases List.mem_cons.mp h with rfl | h
    · exact Nat.le_max_left _ _
    · exact Nat.le_trans (dep_mem h) (Nat.le_max_right _ _)
theorem depL_le {n : Nat} : ∀ {l : List D}, (∀ d ∈ l, dep d ≤ n) → depL l ≤ n
  | [], _ => Nat.zero_le _
  | x :: r, h => by
    rw [depL]
    exact Nat.max_le.mpr ⟨h x List.mem_cons_self, depL_le fun d hd => h d (List.mem_cons_of_mem _ hd)⟩
theorem sz_mem : ∀ {l : List D} {d : D}, d ∈ l → sz d < szL l
  | x :: r, d, h => by
    rw [szL]
    rcases List.mem_cons.mp h with rfl | h
    · omega
    · have := sz_mem h
      omega
/-- a dict of texts -/
def mkv (ks : List Str) (vs : List V) : List (Key × V) := (ks.zip vs).map fun p => (Sum.inr p.1, p.2)
theorem mkv_length {ks : List Str} {vs : List V} (h : ks.length = vs.length) : (mkv ks vs).length = ks.length := by
  unfold mkv
  rw [List.length_map, List.length_zip, ← h, Nat.min_self]
theorem mkv_keys : ∀ {ks : List Str} {vs : List V}, ks.length = vs.length → (mkv ks vs).map (·.1) = ks.map Sum.inr
  | [], [], _ => rfl
  | k :: ks, v :: vs, h => by
    show (Sum.inr k : Key) :: (mkv ks vs).map (·.1) = Sum.inr k :: ks.map Sum.inr
    rw [mkv_keys (Nat.succ.inj h)]
theorem mkv_val : ∀ {ks : List Str} {vs : List V} {i : Nat} {k : Str} {v : V}, ks.Nodup → ks[i]? = some k → vs[i]? = some v → valV (mkv ks vs) (Sum.inr k) = some v
  | k0 :: ks, v0 :: vs, 0, k, v, _, hk, hv => by
    cases hk; cases hv
    exact valV_pos rfl
  | k0 :: ks, v0 :: vs, i + 1, k, v, nd, hk, hv => by
    have hk' : ks[i]? = some k := hk
    have hv' : vs[i]? = some v := hv
    have nd' := List.nodup_cons.mp nd
    have ne : ¬ (Sum.inr k0 : Key) = Sum.inr k := fun z => nd'.1 (by cases z; exact List.mem_of_getElem? hk')
    show valV ((Sum.inr k0, v0) :: mkv ks vs) (Sum.inr k) = some v
    rw [valV_neg ne]
    exact mkv_val nd'.2 hk' hv'
theorem mkv_none : ∀ {ks : List Str} {vs : List V} {k : Str}, k ∉ ks → valV (mkv ks vs) (Sum.inr k) = none
  | [], _, _, _ => rfl
  | k0 :: ks, [], _, _ => rfl
  | k0 :: ks, v0 :: vs, k, h => by
    have ne : ¬ (Sum.inr k0 : Key) = Sum.inr k := fun z => h (by cases z; exact List.mem_cons_self)
    show valV ((Sum.inr k0, v0) :: mkv ks vs) (Sum.inr k) = none
    rw [valV_neg ne]
    exact mkv_none fun z => h (List.mem_cons_of_mem _ z)
def TxOk (x : Str) : Prop := PyData.strOk x = true ∧ x.length ≤ 2000000
/-- the value v stands for the tree d -/
inductive Rep (CU : Addr) (H : Hp) : V → D → Prop
  | non : Rep CU H .non .non
  | bl (b : Bool) : Rep CU H (.bl b) (.bl b)
  | int (i : Int) : Rep CU H (.int i) (.int i)
  | str (x : Str) (h : TxOk x) : Rep CU H (.str x) (.str x)
  | unk {a dx : Addr} (h : H a = some (.ins CU dx [])) : Rep CU H (.ref a) .unk
  | tup {a : Addr} {xs : List V} {ds : List D} (h : H a = some (.tup xs)) (hl : xs.length = ds.length) (hz : ds.length ≤ 60) (hs : ∀ (i : Nat) (v : V) (d : D), xs[i]? = some v → ds[i]? = some d → Rep CU H v d) : Rep CU H (.ref a) (.tup ds)
  | map {a : Addr} {vs : List V} {ks : List Str} {ds : List D} (h : H a = some (.dK (mkv ks vs))) (hv : vs.length = ds.length) (hk : ks.length = ds.length) (hz : ds.length ≤ 60) (nd : ks.Nodup) (ko : ∀ k ∈ ks, TxOk k)
      (hs : ∀ (i : Nat) (v : V) (d : D), vs[i]? = some v → ds[i]? = some d → Rep CU H v d) : Rep CU H (.ref a) (.map ks ds)
/-- the objects of which trees are made -/
def Tr (CU : Addr) (o : HO) : Prop := (∃ dx, o = .ins CU dx []) ∨ (∃ xs, o = .tup xs) ∨ ∃ kvs, o = .dK kvs
section
variable {CU : Addr} {H H' : Hp} {v : V} {d : D}
theorem Rep.mono (m : ∀ a o, H a = some o → Tr CU o → H' a = some o) (h : Rep CU H v d) : Rep CU H' v d := by
  induction h with
  | non => exact .non
  | bl b => exact .bl b
  | int i => exact .int i
  | str x h => exact .str x h
  | unk h => exact .unk (m _ _ h (.inl ⟨_, rfl⟩))
  | tup h hl hz _ ih => exact .tup (m _ _ h (.inr (.inl ⟨_, rfl⟩))) hl hz ih
  | map h hv hk hz nd ko _ ih => exact .map (m _ _ h (.inr (.inr ⟨_, rfl⟩))) hv hk hz nd ko ih
theorem Rep.same (m : Same H H') (h : Rep CU H v d) : Rep CU H' v d := h.mono fun a o e _ => m a o e
theorem tr_lst {xs : List V} : ¬ Tr CU (.lst xs) := fun h => by
  rcases h with ⟨_, z⟩ | ⟨_, z⟩ | ⟨_, z⟩ <;> cases z
theorem Rep.but {w : Addr} {ow : HO} (m : But w H H') (e : H w = some ow) (n : ¬ Tr CU ow) (h : Rep CU H v d) : Rep CU H' v d := h.mono fun a o ea t => m a o ea fun z => n (by rw [z, e] at ea; cases ea; exact t)
theorem ext_get {α : Type} {xs ys : List α} (hl : xs.length = ys.length) (h : ∀ (i : Nat) (x y : α), xs[i]? = some x → ys[i]? = some y → x = y) : xs = ys := by
  refine List.ext_getElem hl fun i h1 h2 => h i _ _ (List.getElem?_eq_getElem h1) (List.getElem?_eq_getElem h2)
theorem mkv_inj : ∀ {ks ks' : List Str} {vs vs' : List V}, ks.length = vs.length → ks'.length = vs'.length → mkv ks vs = mkv ks' vs' → ks = ks' ∧ vs = vs'
  | [], [], [], [], _, _, _ => ⟨rfl, rfl⟩
  | [], k' :: ks', [], v' :: vs', _, _, h => nomatch h
  | k :: ks, [], v :: vs, [], _, _, h => nomatch h
  | k :: ks, k' :: ks', v :: vs, v' :: vs', h1, h2, h => by
    have h0 : ((Sum.inr k : Key), v) :: mkv ks vs = (Sum.inr k', v') :: mkv ks' vs' := h
    have e := List.cons.inj h0
    obtain ⟨e1, e2⟩ := mkv_inj (Nat.succ.inj h1) (Nat.succ.inj h2) e.2
    have e3 := Prod.mk.inj e.1
    refine ⟨?_, ?_⟩
    · rw [e1, Sum.inr.inj e3.1]
    · rw [e2, e3.2]
theorem Rep.fn {d' : D} (h : Rep CU H v d) (h' : Rep CU H v d') : d = d' := by
  induction h generalizing d' with
  | non => cases h'; rfl
  | bl b => cases h'; rfl
  | int i => cases h'; rfl
  | str x h => cases h'; rfl
  | unk h =>
    cases h' with
    | unk h2 => rfl
    | tup h2 => rw [h] at h2; cases h2
    | map h2 => rw [h] at h2; cases h2
  | @tup a xs ds h hl hz hs ih =>
    cases h' with
    | unk h2 => rw [h] at h2; cases h2
    | map h2 => rw [h] at h2; cases h2
    | @tup _ xs' ds' h2 hl2 hz2 hs2 =>
      rw [h] at h2
      cases h2
      congr 1
      refine ext_get (hl.symm.trans hl2) fun i x y hx hy => ?_
      have hi : i < xs.length := by rw [hl]; exact (List.getElem?_eq_some_iff.mp hx).1
      exact ih i _ x (List.getElem?_eq_getElem hi) hx (hs2 i _ y (List.getElem?_eq_getElem hi) hy)
  | @map a vs ks ds h hv hk hz nd ko hs ih =>
    cases h' with
    | unk h2 => rw [h] at h2; cases h2
    | tup h2 => rw [h] at h2; cases h2
    | @map _ vs' ks' ds' h2 hv2 hk2 hz2 nd2 ko2 hs2 =>
      rw [h] at h2
      obtain ⟨e1, e2⟩ := mkv_inj (hk.trans hv.symm) (hk2.trans hv2.symm) (HO.dK.inj (Option.some.inj h2))
      subst e1
      subst e2
      congr 1
      refine ext_get (hv.symm.trans hv2) fun i x y hx hy => ?_
      have hi : i < vs.length := by rw [hv]; exact (List.getElem?_eq_some_iff.mp hx).1
      exact ih i _ x (List.getElem?_eq_getElem hi) hx (hs2 i _ y (List.getElem?_eq_getElem hi) hy)
/-- a tree in which the object at a does not stand -/
theorem Rep.off {a : Addr} {D0 : D} {o : HO} (h0 : Rep CU H (.ref a) D0) (h : Rep CU H v d) (hs : sz d < sz D0) : Rep CU (upd H a o) v d := by
  have key : ∀ {b : Addr} {d' : D} {u : HO}, Rep CU H (.ref b) d' → sz d' < sz D0 → H b = some u → upd H a o b = some u := fun {b d' u} r hz e => by
    rw [upd_ne]
    · exact e
    · intro z
      subst z
      rw [r.fn h0] at hz
      exact Nat.lt_irrefl _ hz
  induction h with
  | non => exact .non
  | bl b => exact .bl b
  | int i => exact .int i
  | str x h => exact .str x h
  | unk h => exact .unk (key (.unk h) hs h)
  | @tup b xs ds h hl hz hs' ih =>
    refine .tup (key (.tup h hl hz hs') hs h) hl hz fun i v d hx hd => ih i v d hx hd ?_
    have := sz_mem (List.mem_of_getElem? hd)
    rw [sz] at hs
    omega
  | @map b vs ks ds h hv hk hz nd ko hs' ih =>
    refine .map (key (.map h hv hk hz nd ko hs') hs h) hv hk hz nd ko fun i v d hx hd => ih i v d hx hd ?_
    have := sz_mem (List.mem_of_getElem? hd)
    rw [sz] at hs
    omega
end
end VT

/-! value trees, in plain Lean: sorts, sameness -/
namespace VT
open PySem L2
def letters : List Nat := ("abcdefghijklmnopqrstuvwxyz" : Str).cps.toList
def isName (x : Str) : Bool := decide (1 ≤ x.length) && decide (x.length ≤ 12) && x.cps.toList.all fun c => decide (c ∈ letters)
def isTag : List D → Bool
  | [.str m, .str n, .int i] => decide (m = "#") && isName n && decide (1 ≤ i)
  | _ => false
def sort : D → Str
  | .tup l => if isTag l then "tag" else "tuple"
  | .bl _ => "bool"
  | .int _ => "integer"
  | .map _ _ => "map"
  | .str _ => "text"
  | .non => "none"
  | .unk => "none"
def isU : D → Bool
  | .unk => true
  | _ => false
def lsort (d : D) : Str := if isU d then "unknown" else sort d
def leqT : List D → List D → Bool
  | [.str m, .str n, .int i], [.str m', .str n', .int i'] => decide (m = m') && decide (n = n') && decide (i = i')
  | _, _ => false
def get (ks : List Str) (ds : List D) (k : Str) : D := ((ks.zip ds).lookup k).getD .non
def kids : D → D → Option (List (D × D))
  | .tup l, .tup l' => if isTag l then (if leqT l l' then some [] else none) else if l.length = l'.length then some (l.zip l') else none
  | .map ks ds, .map ks' ds' => if ks.Perm ks' then some ((ks.zip ds).map fun p => (p.2, get ks' ds' p.1)) else none
  | .non, .non => some []
  | .bl a, .bl b => if a = b then some [] else none
  | .int a, .int b => if a = b then some [] else none
  | .str a, .str b => if a = b then some [] else none
  | _, _ => none
def verdict (l : List D) : D := if (l.any fun d => match d with | .bl false => true | _ => false) then .bl false else if l.any isU then .unk else .bl true
def same : Nat → D → D → D
  | 0, _, _ => .bl false
  | n + 1, a, b => if (isU a || isU b) = true then .unk else if sort a = sort b then (match kids a b with | none => .bl false | some ps => verdict (ps.map fun p => same n p.1 p.2)) else .bl false
def may : Nat → D → D → Bool
  | 0, _, _ => false
  | n + 1, a, b => if (isU a || isU b) = true then true else if sort a = sort b then (match kids a b with | none => false | some ps => ps.all fun p => may n p.1 p.2) else false
def opn : Nat → D → Nat
  | 0, _ => 0
  | n + 1, d => match d with
    | .unk => 1
    | .tup l => if isTag l then 0 else (l.map (opn n)).sum
    | .map _ ds => (ds.map (opn n)).sum
    | _ => 0
def known : Nat → D → Bool
  | 0, _ => true
  | n + 1, d => match d with
    | .unk => false
    | .tup l => isTag l || l.all (known n)
    | .map _ ds => ds.all (known n)
    | _ => true
/-- keys of a map are unlike, and as many as its values -/
inductive Wf : D → Prop
  | leaf {d : D} (h1 : ∀ l, d ≠ .tup l) (h2 : ∀ ks ds, d ≠ .map ks ds) : Wf d
  | tup {l : List D} (h : ∀ d ∈ l, Wf d) : Wf (.tup l)
  | map {ks : List Str} {ds : List D} (nd : ks.Nodup) (hl : ks.length = ds.length) (h : ∀ d ∈ ds, Wf d) : Wf (.map ks ds)
theorem Rep.wf {CU : Addr} {H : Hp} {v : V} {d : D} (h : Rep CU H v d) : Wf d := by
  induction h with
  | non => exact .leaf (fun _ z => nomatch z) (fun _ _ z => nomatch z)
  | bl b => exact .leaf (fun _ z => nomatch z) (fun _ _ z => nomatch z)
  | int i => exact .leaf (fun _ z => nomatch z) (fun _ _ z => nomatch z)
  | str x h => exact .leaf (fun _ z => nomatch z) (fun _ _ z => nomatch z)
  | unk h => exact .leaf (fun _ z => nomatch z) (fun _ _ z => nomatch z)
  | @tup a xs ds h hl hz hs ih =>
    refine .tup fun d hd => ?_
    obtain ⟨i, hi, rfl⟩ := List.mem_iff_getElem.mp hd
    exact ih i xs[i] _ (List.getElem?_eq_getElem (by omega)) (List.getElem?_eq_getElem hi)
  | @map a vs ks ds h hv hk hz nd ko hs ih =>
    refine .map nd hk fun d hd => ?_
    obtain ⟨i, hi, rfl⟩ := List.mem_iff_getElem.mp hd
    exact ih i vs[i] _ (List.getElem?_eq_getElem (by omega)) (List.getElem?_eq_getElem hi)
theorem get_at : ∀ {ks : List Str} {ds : List D} {i : Nat} {k : Str} {d : D}, ks.Nodup → ks[i]? = some k → ds[i]? = some d → get ks ds k = d
  | k0 :: ks, d0 :: ds, 0, k, d, _, hk, hd => by
    cases hk; cases hd
    simp [get, List.lookup_cons]
  | k0 :: ks, d0 :: ds, i + 1, k, d, nd, hk, hd => by
    have hk' : ks[i]? = some k := hk
    have hd' : ds[i]? = some d := hd
    have nd' := List.nodup_cons.mp nd
    have ne : (k == k0) = false := beq_eq_false_iff_ne.mpr fun z => nd'.1 (by rw [← z]; exact List.mem_of_getElem? hk')
    have := get_at nd'.2 hk' hd'
    simpa [get, List.lookup_cons, ne] using this
theorem get_map {ks : List Str} {ds : List D} (nd : ks.Nodup) (hl : ks.length = ds.length) : ks.map (get ks ds) = ds := by
  refine List.ext_getElem (by rw [List.length_map]; exact hl) fun i h1 h2 => ?_
  rw [List.getElem_map]
  have h3 : i < ks.length := by rw [hl]; exact h2
  exact get_at nd (List.getElem?_eq_getElem h3) (List.getElem?_eq_getElem h2)
/-- what the two lists of a pair list add up to -/
theorem sum_pairs (f : D → Nat) : ∀ ps : List (D × D), ((ps.map (·.1)).map f).sum + ((ps.map (·.2)).map f).sum = (ps.map fun p => f p.1 + f p.2).sum
  | [] => rfl
  | p :: ps => by
    have := sum_pairs f ps
    simp only [List.map_cons, List.sum_cons]
    omega
theorem kids_sum {n : Nat} {a b : D} {ps : List (D × D)} (wa : Wf a) (wb : Wf b) (ua : isU a = false) (ub : isU b = false) (hs : sort a = sort b) (hk : kids a b = some ps) : opn (n + 1) a + opn (n + 1) b = (ps.map fun p => opn n p.1 + opn n p.2).sum := by
  rw [← sum_pairs]
  unfold kids at hk
  split at hk
  · rename_i l l'
    split at hk
    · rename_i ht
      split at hk
      · cases hk
        have ht' : isTag l' = true := by
          by_cases z : isTag l' = true
          · exact z
          · simp only [sort, if_pos ht, if_neg z] at hs
            exact absurd hs (by decide +kernel)
        simp [opn, ht, ht']
      · cases hk
    · rename_i ht
      have ht' : ¬ isTag l' = true := fun z => by
        simp only [sort, if_neg ht, if_pos z] at hs
        exact absurd hs (by decide +kernel)
      split at hk
      · rename_i hl
        cases hk
        rw [List.map_fst_zip (Nat.le_of_eq hl), List.map_snd_zip (Nat.le_of_eq hl.symm)]
        simp only [opn, if_neg ht, if_neg ht']
      · cases hk
  · rename_i ks ds ks' ds'
    split at hk
    · rename_i hp
      cases hk
      cases wa with
      | leaf _ h => exact absurd rfl (h _ _)
      | map nd hl hw =>
      cases wb with
      | leaf _ h => exact absurd rfl (h _ _)
      | map nd' hl' hw' =>
      have e1 : ((ks.zip ds).map fun p => (p.2, get ks' ds' p.1)).map (·.1) = ds := by
        rw [List.map_map]
        exact List.map_snd_zip (Nat.le_of_eq hl.symm)
      have e2 : ((ks.zip ds).map fun p => (p.2, get ks' ds' p.1)).map (·.2) = ks.map (get ks' ds') := by
        rw [List.map_map]
        have : (fun p : Str × D => get ks' ds' p.1) = (get ks' ds') ∘ (fun p : Str × D => p.1) := rfl
        show (ks.zip ds).map (fun p : Str × D => get ks' ds' p.1) = _
        rw [this, ← List.map_map, List.map_fst_zip (Nat.le_of_eq hl)]
      rw [e1, e2]
      have hq : (ks.map (get ks' ds')).Perm ds' := by
        have := hp.map (get ks' ds')
        rwa [get_map nd' hl'] at this
      have := (hq.map (opn n)).sum_nat
      simp only [opn]
      rw [this]
    · cases hk
  · cases hk; rfl
  · split at hk
    · cases hk; rfl
    · cases hk
  · split at hk
    · cases hk; rfl
    · cases hk
  · split at hk
    · cases hk; rfl
    · cases hk
  · cases hk
theorem get_mem {ks : List Str} {ds : List D} {k : Str} (nd : ks.Nodup) (hl : ks.length = ds.length) (h : k ∈ ks) : get ks ds k ∈ ds := by
  obtain ⟨i, hi, rfl⟩ := List.mem_iff_getElem.mp h
  have h2 : i < ds.length := by omega
  rw [get_at nd (List.getElem?_eq_getElem hi) (List.getElem?_eq_getElem h2)]
  exact List.getElem_mem h2
/-- the pairs of a and b are of children of a and children of b -/
theorem kids_of {a b : D} {ps : List (D × D)} (wa : Wf a) (wb : Wf b) (hk : kids a b = some ps) : ∀ p ∈ ps, Wf p.1 ∧ Wf p.2 ∧ dep p.1 < dep a ∧ dep p.2 < dep b := by
  unfold kids at hk
  intro p hp
  split at hk
  · rename_i l l'
    have h1 : ∀ {l : List D}, Wf (.tup l) → ∀ d ∈ l, Wf d ∧ dep d < dep (.tup l) := fun {l} w d hd => by
      cases w with
      | leaf h _ => exact absurd rfl (h _)
      | tup h =>
        have := dep_mem hd
        rw [dep]
        exact ⟨h d hd, by omega⟩
    split at hk
    · split at hk
      · cases hk; cases hp
      · cases hk
    · split at hk
      · cases hk
        obtain ⟨m1, m2⟩ := List.of_mem_zip (a := p.1) (b := p.2) hp
        exact ⟨(h1 wa _ m1).1, (h1 wb _ m2).1, (h1 wa _ m1).2, (h1 wb _ m2).2⟩
      · cases hk
  · rename_i ks ds ks' ds'
    split at hk
    · rename_i hpm
      cases hk
      cases wa with
      | leaf _ h => exact absurd rfl (h _ _)
      | map nd hl hw =>
      cases wb with
      | leaf _ h => exact absurd rfl (h _ _)
      | map nd' hl' hw' =>
      obtain ⟨q, hq, rfl⟩ := List.mem_map.mp hp
      obtain ⟨m1, m2⟩ := List.of_mem_zip (a := q.1) (b := q.2) hq
      have m3 := get_mem nd' hl' (hpm.mem_iff.mp m1)
      have d1 := dep_mem m2
      have d2 := dep_mem m3
      have f1 : dep (.map ks ds) = depL ds + 1 := by rw [dep]
      have f2 : dep (.map ks' ds') = depL ds' + 1 := by rw [dep]
      exact ⟨hw _ m2, hw' _ m3, by rw [f1]; exact Nat.lt_succ_of_le d1, by rw [f2]; exact Nat.lt_succ_of_le d2⟩
    · cases hk
  · cases hk; cases hp
  · split at hk
    · cases hk; cases hp
    · cases hk
  · split at hk
    · cases hk; cases hp
    · cases hk
  · split at hk
    · cases hk; cases hp
    · cases hk
  · cases hk
def res (m : Bool) (o : Nat) : D := if m then (if o = 0 then .bl true else .unk) else .bl false
theorem verdict_res {α : Type} (f : α → Bool) (g : α → Nat) (l : List α) : verdict (l.map fun x => res (f x) (g x)) = res (l.all f) (l.map g).sum := by
  unfold verdict
  rw [List.any_map, List.any_map]
  by_cases ha : l.all f = true
  · have h1 : (l.any ((fun d => match d with | D.bl false => true | _ => false) ∘ fun x => res (f x) (g x))) = false := by
      rw [List.any_eq_false]
      intro x hx
      have := List.all_eq_true.mp ha x hx
      simp only [Function.comp, res, this]
      by_cases z : g x = 0 <;> simp [z]
    rw [h1, ha]
    by_cases hs : (l.map g).sum = 0
    · rw [show res true (l.map g).sum = .bl true from by simp only [res, hs, if_true]]
      have h2 : l.any (isU ∘ fun x => res (f x) (g x)) = false := by
        rw [List.any_eq_false]
        intro x hx
        have e1 := List.all_eq_true.mp ha x hx
        have e2 : g x = 0 := (List.sum_eq_zero_iff_forall_eq_nat.mp hs) _ (List.mem_map.mpr ⟨x, hx, rfl⟩)
        simp [Function.comp, res, e1, e2, isU]
      rw [h2]
      rfl
    · rw [show res true (l.map g).sum = .unk from by simp only [res, if_neg hs, if_true]]
      have h2 : l.any (isU ∘ fun x => res (f x) (g x)) = true := by
        rw [List.any_eq_true]
        have : ∃ x ∈ l, g x ≠ 0 := by
          refine Classical.byContradiction fun z => hs (List.sum_eq_zero_iff_forall_eq_nat.mpr fun y hy => ?_)
          obtain ⟨x, hx, rfl⟩ := List.mem_map.mp hy
          exact Classical.byContradiction fun q => z ⟨x, hx, q⟩
        obtain ⟨x, hx, hg⟩ := this
        have e1 := List.all_eq_true.mp ha x hx
        exact ⟨x, hx, by simp [Function.comp, res, e1, hg, isU]⟩
      rw [h2]
      rfl
  · have ha' : l.all f = false := by simpa using ha
    have h1 : (l.any ((fun d => match d with | D.bl false => true | _ => false) ∘ fun x => res (f x) (g x))) = true := by
      rw [List.any_eq_true]
      have : ∃ x ∈ l, f x = false := by
        refine Classical.byContradiction fun z => ha (List.all_eq_true.mpr fun x hx => ?_)
        cases q : f x with
        | true => rfl
        | false => exact absurd ⟨x, hx, q⟩ z
      obtain ⟨x, hx, hf⟩ := this
      exact ⟨x, hx, by simp [Function.comp, res, hf]⟩
    rw [h1, ha']
    rfl
/-- same is what the law makes of may and of the unknown parts -/
theorem same_is : ∀ (n : Nat) (a b : D), Wf a → Wf b → dep a < n → dep b < n → same n a b = res (may n a b) (opn n a + opn n b)
  | 0, _, _, _, _, h, _ => absurd h (Nat.not_lt_zero _)
  | n + 1, a, b, wa, wb, ha, hb => by
    rw [same, may]
    by_cases hu : (isU a || isU b) = true
    · rw [if_pos hu, if_pos hu]
      have : opn (n + 1) a + opn (n + 1) b ≠ 0 := by
        rcases Bool.or_eq_true_iff.mp hu with z | z
        · cases a <;> simp [isU] at z
          simp [opn]
        · cases b <;> simp [isU] at z
          simp [opn]
      simp only [res, if_true, if_neg this]
    · rw [if_neg hu, if_neg hu]
      have hu' : isU a = false ∧ isU b = false := by simpa using hu
      by_cases hs : sort a = sort b
      · rw [if_pos hs, if_pos hs]
        cases hk : kids a b with
        | none => rfl
        | some ps =>
          show verdict (ps.map fun p => same n p.1 p.2) = res (ps.all fun p => may n p.1 p.2) (opn (n + 1) a + opn (n + 1) b)
          rw [kids_sum wa wb hu'.1 hu'.2 hs hk, ← verdict_res]
          congr 1
          refine List.map_congr_left fun p hp => ?_
          obtain ⟨w1, w2, d1, d2⟩ := kids_of wa wb hk p hp
          exact same_is n p.1 p.2 w1 w2 (by omega) (by omega)
      · rw [if_neg hs, if_neg hs]
        rfl
theorem known_is : ∀ (n : Nat) (d : D), dep d < n → known n d = decide (opn n d = 0)
  | 0, _, h => absurd h (Nat.not_lt_zero _)
  | n + 1, d, h => by
    have key : ∀ l : List D, depL l < n → l.all (known n) = decide ((l.map (opn n)).sum = 0) := fun l hl => by
      rw [Bool.eq_iff_iff, List.all_eq_true, decide_eq_true_iff, List.sum_eq_zero_iff_forall_eq_nat]
      constructor
      · intro z y hy
        obtain ⟨x, hx, rfl⟩ := List.mem_map.mp hy
        have := z x hx
        rw [known_is n x (Nat.lt_of_le_of_lt (dep_mem hx) hl)] at this
        exact of_decide_eq_true this
      · intro z x hx
        rw [known_is n x (Nat.lt_of_le_of_lt (dep_mem hx) hl)]
        exact decide_eq_true (z _ (List.mem_map.mpr ⟨x, hx, rfl⟩))
    cases d with
    | tup l =>
      rw [dep] at h
      have e1 : known (n + 1) (.tup l) = (isTag l || l.all (known n)) := rfl
      have e2 : opn (n + 1) (.tup l) = if isTag l then 0 else (l.map (opn n)).sum := rfl
      rw [e1, e2]
      by_cases ht : isTag l = true
      · simp [ht]
      · rw [if_neg ht, key l (by omega)]
        simp [ht]
    | map ks ds =>
      rw [dep] at h
      exact key ds (by omega)
    | non => simp [known, opn]
    | bl b => simp [known, opn]
    | int i => simp [known, opn]
    | str x => simp [known, opn]
    | unk => simp [known, opn]
end VT

namespace VT
open PySem L2
def pairAt (ks : List Str) (ds : List D) (ks' : List Str) (ds' : List D) (k : Str) : D × D := (get ks ds k, get ks' ds' k)
theorem zip_pairs {ks ks' : List Str} {ds ds' : List D} (nd : ks.Nodup) (hl : ks.length = ds.length) : (ks.zip ds).map (fun p => (p.2, get ks' ds' p.1)) = ks.map (pairAt ks ds ks' ds') := by
  refine List.ext_getElem (by simp [hl]) fun i h1 h2 => ?_
  have h3 : i < ks.length := by simpa using h2
  have h4 : i < ds.length := by omega
  simp only [List.getElem_map, List.getElem_zip, pairAt]
  rw [get_at nd (List.getElem?_eq_getElem h3) (List.getElem?_eq_getElem h4)]
theorem leqT_symm (l l' : List D) : leqT l l' = leqT l' l := by
  unfold leqT
  split
  · rename_i m n i m' n' i'
    simp only [eq_comm]
  · rename_i h
    split
    · rename_i m n i m' n' i'
      exact absurd rfl (h _ _ _ _ _ _ rfl)
    · rfl
def swp (p : D × D) : D × D := (p.2, p.1)
theorem zip_swp : ∀ l l' : List D, (l.zip l').map swp = l'.zip l
  | [], [] => rfl
  | [], _ :: _ => rfl
  | _ :: _, [] => rfl
  | x :: l, y :: l' => by
    show swp (x, y) :: (l.zip l').map swp = (y, x) :: l'.zip l
    rw [zip_swp l l']
    rfl
theorem kids_symm {a b : D} (wa : Wf a) (wb : Wf b) (hs : sort a = sort b) : (kids a b = none ∧ kids b a = none) ∨ ∃ ps qs, kids a b = some ps ∧ kids b a = some qs ∧ qs.Perm (ps.map swp) := by
  cases a with
  | tup l =>
    cases b with
    | tup l' =>
      have ht : isTag l = isTag l' := by
        cases h1 : isTag l <;> cases h2 : isTag l' <;> simp only [sort, h1, h2] at hs <;> first | rfl | exact absurd hs (by decide +kernel)
      show ((if isTag l then (if leqT l l' then some [] else none) else if l.length = l'.length then some (l.zip l') else none) = none ∧ (if isTag l' then (if leqT l' l then some [] else none) else if l'.length = l.length then some (l'.zip l) else none) = none) ∨
        ∃ ps qs, (if isTag l then (if leqT l l' then some [] else none) else if l.length = l'.length then some (l.zip l') else none) = some ps ∧ (if isTag l' then (if leqT l' l then some [] else none) else if l'.length = l.length then some (l'.zip l) else none) = some qs ∧ qs.Perm (ps.map swp)
      rw [← ht, leqT_symm l' l]
      by_cases h1 : isTag l = true
      · rw [if_pos h1, if_pos h1]
        by_cases h2 : leqT l l' = true
        · rw [if_pos h2]
          exact .inr ⟨[], [], rfl, rfl, .nil⟩
        · rw [if_neg h2]
          exact .inl ⟨rfl, rfl⟩
      · rw [if_neg h1, if_neg h1]
        by_cases h2 : l.length = l'.length
        · rw [if_pos h2, if_pos h2.symm]
          refine .inr ⟨_, _, rfl, rfl, ?_⟩
          rw [zip_swp]
        · rw [if_neg h2, if_neg fun z => h2 z.symm]
          exact .inl ⟨rfl, rfl⟩
    | _ => exact .inl ⟨rfl, rfl⟩
  | map ks ds =>
    cases b with
    | map ks' ds' =>
      cases wa with
      | leaf _ h => exact absurd rfl (h _ _)
      | map nd hl hw =>
      cases wb with
      | leaf _ h => exact absurd rfl (h _ _)
      | map nd' hl' hw' =>
      show ((if ks.Perm ks' then some ((ks.zip ds).map fun p => (p.2, get ks' ds' p.1)) else none) = none ∧ (if ks'.Perm ks then some ((ks'.zip ds').map fun p => (p.2, get ks ds p.1)) else none) = none) ∨
        ∃ ps qs, (if ks.Perm ks' then some ((ks.zip ds).map fun p => (p.2, get ks' ds' p.1)) else none) = some ps ∧ (if ks'.Perm ks then some ((ks'.zip ds').map fun p => (p.2, get ks ds p.1)) else none) = some qs ∧ qs.Perm (ps.map swp)
      by_cases h : ks.Perm ks'
      · rw [if_pos h, if_pos h.symm, zip_pairs nd hl, zip_pairs nd' hl']
        refine .inr ⟨_, _, rfl, rfl, ?_⟩
        rw [List.map_map]
        exact h.symm.map _
      · rw [if_neg h, if_neg fun z => h z.symm]
        exact .inl ⟨rfl, rfl⟩
    | _ => exact .inl ⟨rfl, rfl⟩
  | non => cases b <;> first | exact .inl ⟨rfl, rfl⟩ | exact .inr ⟨[], [], rfl, rfl, .nil⟩
  | unk => cases b <;> exact .inl ⟨rfl, rfl⟩
  | bl x =>
    cases b with
    | bl y =>
      show ((if x = y then some [] else none) = none ∧ (if y = x then some [] else none) = none) ∨ ∃ ps qs, (if x = y then some [] else none) = some ps ∧ (if y = x then some [] else none) = some qs ∧ qs.Perm (ps.map swp)
      by_cases h : x = y
      · rw [if_pos h, if_pos h.symm]; exact .inr ⟨[], [], rfl, rfl, .nil⟩
      · rw [if_neg h, if_neg fun z => h z.symm]; exact .inl ⟨rfl, rfl⟩
    | _ => exact .inl ⟨rfl, rfl⟩
  | int x =>
    cases b with
    | int y =>
      show ((if x = y then some [] else none) = none ∧ (if y = x then some [] else none) = none) ∨ ∃ ps qs, (if x = y then some [] else none) = some ps ∧ (if y = x then some [] else none) = some qs ∧ qs.Perm (ps.map swp)
      by_cases h : x = y
      · rw [if_pos h, if_pos h.symm]; exact .inr ⟨[], [], rfl, rfl, .nil⟩
      · rw [if_neg h, if_neg fun z => h z.symm]; exact .inl ⟨rfl, rfl⟩
    | _ => exact .inl ⟨rfl, rfl⟩
  | str x =>
    cases b with
    | str y =>
      show ((if x = y then some [] else none) = none ∧ (if y = x then some [] else none) = none) ∨ ∃ ps qs, (if x = y then some [] else none) = some ps ∧ (if y = x then some [] else none) = some qs ∧ qs.Perm (ps.map swp)
      by_cases h : x = y
      · rw [if_pos h, if_pos h.symm]; exact .inr ⟨[], [], rfl, rfl, .nil⟩
      · rw [if_neg h, if_neg fun z => h z.symm]; exact .inl ⟨rfl, rfl⟩
    | _ => exact .inl ⟨rfl, rfl⟩
theorem all_perm {α : Type} {f : α → Bool} {l l' : List α} (h : l.Perm l') : l.all f = l'.all f := by
  rw [Bool.eq_iff_iff, List.all_eq_true, List.all_eq_true]
  exact ⟨fun z x hx => z x (h.mem_iff.mpr hx), fun z x hx => z x (h.mem_iff.mp hx)⟩
theorem any_perm {α : Type} {f : α → Bool} {l l' : List α} (h : l.Perm l') : l.any f = l'.any f := by
  rw [Bool.eq_iff_iff, List.any_eq_true, List.any_eq_true]
  exact ⟨fun ⟨x, hx, z⟩ => ⟨x, h.mem_iff.mp hx, z⟩, fun ⟨x, hx, z⟩ => ⟨x, h.mem_iff.mpr hx, z⟩⟩
theorem verdict_perm {l l' : List D} (h : l.Perm l') : verdict l = verdict l' := by
  unfold verdict
  rw [any_perm h, any_perm (f := isU) h]
theorem may_symm : ∀ (n : Nat) (a b : D), Wf a → Wf b → may n a b = may n b a
  | 0, _, _, _, _ => rfl
  | n + 1, a, b, wa, wb => by
    rw [may, may, Bool.or_comm (isU b)]
    by_cases hu : (isU a || isU b) = true
    · rw [if_pos hu, if_pos hu]
    · rw [if_neg hu, if_neg hu]
      by_cases hs : sort a = sort b
      · rw [if_pos hs, if_pos hs.symm]
        rcases kids_symm wa wb hs with ⟨h1, h2⟩ | ⟨ps, qs, h1, h2, hp⟩
        · rw [h1, h2]
        · rw [h1, h2]
          show (ps.all fun p => may n p.1 p.2) = qs.all fun p => may n p.1 p.2
          rw [all_perm hp, List.all_map]
          refine Bool.eq_iff_iff.mpr ?_
          rw [List.all_eq_true, List.all_eq_true]
          have key : ∀ p ∈ ps, may n p.1 p.2 = may n p.2 p.1 := fun p hp' => by
            obtain ⟨w1, w2, _⟩ := kids_of wa wb h1 p hp'
            exact may_symm n p.1 p.2 w1 w2
          exact ⟨fun z p hp' => (key p hp').symm.trans (z p hp'), fun z p hp' => (key p hp').trans (z p hp')⟩
      · rw [if_neg hs, if_neg fun z => hs z.symm]
theorem same_symm (n : Nat) (a b : D) (wa : Wf a) (wb : Wf b) (ha : dep a < n) (hb : dep b < n) : same n b a = res (may n a b) (opn n a + opn n b) := by
  rw [same_is n b a wb wa hb ha, may_symm n b a wb wa, Nat.add_comm]
end VT

/-! list comprehensions, item by item -/
namespace XR
open PySem L2
theorem yes_i {te : TE} {σ : L2.St} {H : Hp} {N : VK} {M : Hp → Prop} (h : te σ H N) : tYes σ H (fun b H3 => if b = true then te σ H3 N else M H3) := by
  show (if true = true then te σ H N else M H)
  rw [if_pos rfl]
  exact h
theorem lc_rel {J : It} {n : Nat} {G : Hp → Prop} {Y : Nat → Hp → V → Hp → Prop} (w : Walk J n G Y) {g : TG} {te : TE} {vs : List Nat} {σ : L2.St} {H1 : Hp} {D : Addr} {Qd : Hp → Prop} (hD : H1 D = none) (hz : n < sizeLine) (R : Nat → Hp → V → Prop)
    (mS : ∀ i H H' v, Same H H' → R i H v → R i H' v) (mD : ∀ i H H' v l, But D H H' → H D = some (.lst l) → R i H v → R i H' v) (hG : ∀ H', Same H1 H' → G H')
    (hs : ∀ i x H2 H3, i < n → Same H1 H2 → Y i H2 x H3 → ∀ N : V → Hp → Prop, (∀ y H5, Same H2 H5 → R i H5 y → N y H5) → g x (wipe σ vs) H3 fun σ2 H4 => wipe σ2 vs = wipe σ vs ∧ te σ2 H4 N)
    (mono : ∀ x H3 (Q Q' : L2.St → Hp → Prop), (∀ σ2 H4, Q σ2 H4 → Q' σ2 H4) → g x (wipe σ vs) H3 Q → g x (wipe σ vs) H3 Q')
    (hd : ∀ H' ys, Same H1 H' → H' D = some (.lst ys) → ys.length = n → (∀ i v, ys[i]? = some v → R i H' v) → Qd H') :
    ∃ W : Nat → Nat → Hp → Prop, (∃ m, W 0 m (upd H1 D (.lst []))) ∧ ∀ i m H, W i m H →
      (J.stop i H ∧ Qd H) ∨ (J.go i H ∧ ∃ Nx : Hp → Prop, (∀ H', Nx H' → ∃ m', m' < m ∧ W (i + 1) m' H') ∧ ∀ x H', J.yld i H x H' → g x (wipe σ vs) H' fun σ2 H2 => wipe σ2 vs = wipe σ vs ∧ tYes σ2 H2 fun b H3 =>
        if b = true then te σ2 H3 fun y H4 => ∃ acc, H4 D = some (.lst acc) ∧ acc.length < sizeLine ∧ Nx (upd H4 D (.lst (acc ++ [y]))) else Nx H3) := by
  refine lc_it w (fun i H' => Same H1 H' ∧ ∃ acc, H' D = some (.lst acc) ∧ acc.length = i ∧ ∀ j v, acc[j]? = some v → R j H' v) ⟨same_new hD, [], upd_same, rfl, fun j v h => nomatch h⟩ (fun i H' _ q => hG H' q.1) ?_ ?_
  · rintro i x H2 H3 hi ⟨m, acc, f, hl, hr⟩ hy
    refine mono x H3 _ _ (fun σ2 H4 q => ⟨q.1, yes_i q.2⟩) (hs i x H2 H3 hi m hy _ fun y H5 m5 ry => ?_)
    have f5 := m5 _ _ f
    refine ⟨acc, f5, by omega, fun b o e => ?_, acc ++ [y], upd_same, by rw [List.length_append, hl]; rfl, fun j v hj => ?_⟩
    · rw [upd_ne (ne_of_none e hD)]
      exact m5 _ _ (m _ _ e)
    · have bu : But D H5 (upd H5 D (.lst (acc ++ [y]))) := But.upd
      by_cases hjl : j < acc.length
      · rw [List.getElem?_append_left hjl] at hj
        exact mD j _ _ v _ bu f5 (mS j _ _ v m5 (hr j v hj))
      · have hlt := (List.getElem?_eq_some_iff.mp hj).1
        rw [List.length_append] at hlt
        have hlt2 : j < acc.length + 1 := hlt
        have : j = acc.length := by omega
        subst this
        rw [List.getElem?_append_right (Nat.le_refl _), Nat.sub_self] at hj
        cases hj
        rw [hl]
        exact mD i _ _ _ _ bu f5 ry
  · rintro H' ⟨m, acc, f, hl, hr⟩
    exact hd H' acc m f hl hr
theorem mono_name {i : Nat} {σ : L2.St} : ∀ x H3 (Q Q' : L2.St → Hp → Prop), (∀ σ2 H4, Q σ2 H4 → Q' σ2 H4) → gName i x σ H3 Q → gName i x σ H3 Q' := fun _ _ _ _ h q => h _ _ q
theorem mono_pair {K : PySem.W.Frag} {i j n : Nat} {σ : L2.St} : ∀ x H3 (Q Q' : L2.St → Hp → Prop), (∀ σ2 H4, Q σ2 H4 → Q' σ2 H4) → gTup K n (gCons (gName i) (gCons (gName j) gNil)) x σ H3 Q → gTup K n (gCons (gName i) (gCons (gName j) gNil)) x σ H3 Q' := by
  rintro x H3 Q Q' h ⟨a, xs, e1, e2, e3, v, r, e4, v2, r2, e5, e6, q⟩
  exact ⟨a, xs, e1, e2, e3, v, r, e4, v2, r2, e5, e6, h _ _ q⟩
/-- the items are those of ys, whatever the heap -/
theorem lc_pure {J : It} {n : Nat} {G : Hp → Prop} {Y : Nat → Hp → V → Hp → Prop} (w : Walk J n G Y) {g : TG} {te : TE} {vs : List Nat} {σ : L2.St} {H1 : Hp} {D : Addr} {Qd : Hp → Prop} (hD : H1 D = none) (ys : List V) (hn : ys.length = n) (hz : n < sizeLine) (hG : ∀ H', Same H1 H' → G H')
    (hs : ∀ i x H2 H3 y, ys[i]? = some y → Same H1 H2 → Y i H2 x H3 → ∀ N : V → Hp → Prop, (∀ H5, Same H2 H5 → N y H5) → g x (wipe σ vs) H3 fun σ2 H4 => wipe σ2 vs = wipe σ vs ∧ te σ2 H4 N)
    (mono : ∀ x H3 (Q Q' : L2.St → Hp → Prop), (∀ σ2 H4, Q σ2 H4 → Q' σ2 H4) → g x (wipe σ vs) H3 Q → g x (wipe σ vs) H3 Q')
    (hd : ∀ H', Same H1 H' → H' D = some (.lst ys) → Qd H') :
    ∃ W : Nat → Nat → Hp → Prop, (∃ m, W 0 m (upd H1 D (.lst []))) ∧ ∀ i m H, W i m H →
      (J.stop i H ∧ Qd H) ∨ (J.go i H ∧ ∃ Nx : Hp → Prop, (∀ H', Nx H' → ∃ m', m' < m ∧ W (i + 1) m' H') ∧ ∀ x H', J.yld i H x H' → g x (wipe σ vs) H' fun σ2 H2 => wipe σ2 vs = wipe σ vs ∧ tYes σ2 H2 fun b H3 =>
        if b = true then te σ2 H3 fun y H4 => ∃ acc, H4 D = some (.lst acc) ∧ acc.length < sizeLine ∧ Nx (upd H4 D (.lst (acc ++ [y]))) else Nx H3) := by
  refine lc_rel w hD hz (fun i _ v => ys[i]? = some v) (fun _ _ _ _ _ h => h) (fun _ _ _ _ _ _ _ h => h) hG (fun i x H2 H3 hi m hy N hN => ?_) mono (fun H' zs m f hl hr => ?_)
  · have hi' : i < ys.length := by omega
    exact hs i x H2 H3 ys[i] (List.getElem?_eq_getElem hi') m hy N fun H5 m5 => hN _ H5 m5 (List.getElem?_eq_getElem hi')
  · have e : zs = ys := by
      refine List.ext_getElem (by omega) fun i h1 h2 => ?_
      have := hr i zs[i] (List.getElem?_eq_getElem h1)
      rw [List.getElem?_eq_getElem h2] at this
      exact (Option.some.inj this).symm
    rw [e] at f
    exact hd H' m f
theorem same_lock {H H' : Hp} {d : Addr} {od : Obj} {u : HO} (hd : H d = some u) (m : Same (upd H d (.frz od u)) H') : Same H (upd H' d u) := fun b o e => by
  by_cases hb : b = d
  · subst hb
    rw [upd_same, ← hd, e]
  · rw [upd_ne hb]
    exact m b o (by rw [upd_ne hb]; exact e)
theorem mkv_get : ∀ {ks : List Str} {vs : List V} {i : Nat} {k : Key} {v : V}, (VT.mkv ks vs)[i]? = some (k, v) → ∃ x, ks[i]? = some x ∧ k = Sum.inr x ∧ vs[i]? = some v
  | [], _, i, k, v, h => by cases h
  | _ :: _, [], i, k, v, h => by cases h
  | k0 :: ks, v0 :: vs, 0, k, v, h => by
    have h' : some ((Sum.inr k0 : Key), v0) = some (k, v) := h
    cases h'
    exact ⟨k0, rfl, rfl, rfl⟩
  | k0 :: ks, v0 :: vs, i + 1, k, v, h => mkv_get (ks := ks) (vs := vs) (i := i) h
end XR

/-! list(zip(a, b)) of two tuples -/
namespace XZ
open PySem PySem.Spec PyProof.Rows L2 RZ
section
variable {prog : Program} {w : World} {A : Around} {E : Value → Shared → Prop} {s : Shared}
theorem zipT_item_held {z TI TO T i1 i2 l1 l2 : Addr} {f : Bool} {oT : Obj} {k1 k2 : Nat} {xs ys : Array Value} {x y : Value} {Q : Option Value → Shared → Prop} (D : ZipApart z TI TO i1 i2 l1 l2)
    (hz : IsZipHeld s.heap z TI TO T f) (hT : s.heap.get? T = some oT) (hTI : IsPair s.heap TI (.ref i1) (.ref i2))
    (h1 : s.heap.IsTupleIter i1 l1 k1) (h2 : s.heap.IsTupleIter i2 l2 k2) (hl1 : s.heap.IsTuple l1 xs) (hl2 : s.heap.IsTuple l2 ys) (hx : xs[k1]? = some x) (hy : ys[k2]? = some y)
    (hQ : ∀ h', IsZipHeld h' z TI TO T true → h'.IsTupleIter i1 l1 (k1 + 1) → h'.IsTupleIter i2 l2 (k2 + 1) → IsPair h' s.heap.objs.size x y → h'.objs.size = s.heap.objs.size + 1 →
      (∀ c o, c ≠ z → c ≠ i1 → c ≠ i2 → s.heap.get? c = some o → h'.get? c = some o) → Q (some (.ref s.heap.objs.size)) { s with heap := h' }) :
    wpAny (model prog w) A (pyNext (.ref z)) Q E s := by
  have hTy : s.TypeIs (.ref z) "zip" := ⟨_, hz, rfl⟩
  have nx : ∀ {A : Around} {E : Value → Shared → Prop}, wpAny (model prog w) A (Builtin.«zip.__next__» ⟨[.ref z], []⟩) (fun fin s' => ∃ v, fin = .done (.ret v) ∧ Q (some v) s') E s := by
    intro A E
    show wpAny _ _ (field (.ref z) 2 >>= _) _ _ _
    refine wpAny_bind (wpAny_field hz rfl (x := .bool false) rfl ?_)
    show wpAny _ _ (field (.ref z) 3 >>= _) _ _ _
    refine wpAny_bind (wpAny_field hz rfl (x := .ref TI) rfl ?_)
    refine wpAny_bind (wpAny_seqItems hTI rfl ?_)
    show wpAny _ _ (Builtin.SmallTypes.ownedTupleIsFree (.ref z) >>= _) _ _ _
    refine wpAny_bind (wpAny_tupleHeld_zip hz hT fun h₁ hz₁ hs₁ => ?_)
    simp only [Bool.false_eq_true, if_false]
    refine wpAny_bind ?_
    rw [← Array.forIn_toList]
    simp only [List.forIn_cons, List.forIn_nil]
    refine wpAny_bind (wpAny_bind (wpAny_holding ?_))
    show wpAny _ _ (Builtin.SmallTypes.nextOf (.ref i1) >>= _) _ _ _
    refine wpAny_bind (nextOf_tuple_item (s := { s with heap := h₁ }) (h1.extBut hs₁.extBut D.i1z) (hl1.extBut hs₁.extBut D.l1z) hx fun h₂ h1₂ hs₂ => wpAny_pure ?_)
    refine wpAny_pure ?_
    refine wpAny_bind (wpAny_bind (wpAny_holding ?_))
    show wpAny _ _ (Builtin.SmallTypes.nextOf (.ref i2) >>= _) _ _ _
    refine wpAny_bind (nextOf_tuple_item (s := { s with heap := h₂ }) ((h2.extBut hs₁.extBut D.i2z).extBut hs₂.extBut D.i12.symm) ((hl2.extBut hs₁.extBut D.l2z).extBut hs₂.extBut D.l2i1) hy fun h₃ h2₃ hs₃ => wpAny_pure ?_)
    refine wpAny_pure (wpAny_pure ?_)
    show wpAny _ _ (newTuple [x, y] >>= _) _ _ _
    refine wpAny_bind (wpAny_newTuple ?_)
    have hsz : h₃.objs.size = s.heap.objs.size := by rw [hs₃.1, hs₂.1, hs₁.1]
    have hz₃ : IsZipHeld h₃ z TI TO T true := hs₃.extBut _ _ D.i2z.symm (hs₂.extBut _ _ D.i1z.symm hz₁)
    have hk : ∀ c o, c ≠ z → c ≠ i1 → c ≠ i2 → s.heap.get? c = some o → h₃.get? c = some o := fun c o c1 c2 c3 e => hs₃.extBut _ _ c3 (hs₂.extBut _ _ c2 (hs₁.extBut _ _ c1 e))
    have h1₃ : h₃.IsTupleIter i1 l1 (k1 + 1) := h1₂.extBut hs₃.extBut D.i12
    refine wpAny_pure ⟨_, rfl, ?_⟩
    show Q (some (.ref h₃.objs.size)) _
    have hp : IsPair (h₃.push { cls := .type "tuple", data := .seq #[x, y] }) h₃.objs.size x y := Heap.get?_push_size _ rfl
    have hz4 : (h₃.push { cls := .type "tuple", data := .seq #[x, y] }).objs.size = h₃.objs.size + 1 := Heap.size_push ..
    rw [hsz] at hp hz4 ⊢
    exact hQ _ (Heap.get?_push_of_some _ hz₃) (h1₃.at fun o e => Heap.get?_push_of_some _ e) (h2₃.at fun o e => Heap.get?_push_of_some _ e) hp hz4 fun c o c1 c2 c3 e => Heap.get?_push_of_some _ (hk c o c1 c2 c3 e)
  unfold pyNext
  refine wpAny_bind (wpAny_attempt (wpAny_callSpecial?_slot (name := Str.ofString "__next__") hTy F.slot_zip_next
    (wpAny_call_entry F.slot_zip_next hTy F.entry_zip_next (wpAny_mono nx (fun fin s' hq => ?_) fun _ _ x => x) (F.args_zip_next_1 _))))
  obtain ⟨v, rfl, q⟩ := hq
  exact ⟨v, rfl, wpAny_pure q⟩
theorem zipT_end_held {z TI TO T i1 i2 l1 l2 : Addr} {f : Bool} {oT : Obj} {k1 : Nat} {xs : Array Value} {Q : Option Value → Shared → Prop} (hh : A.handled = none) (D : ZipApart z TI TO i1 i2 l1 l2)
    (hz : IsZipHeld s.heap z TI TO T f) (hT : s.heap.get? T = some oT) (hTI : IsPair s.heap TI (.ref i1) (.ref i2))
    (h1 : s.heap.IsTupleIter i1 l1 k1) (hl1 : s.heap.IsTuple l1 xs) (hx : xs[k1]? = none)
    (hQ : ∀ h', (∀ c o, c ≠ z → c ≠ i1 → c ≠ i2 → s.heap.get? c = some o → h'.get? c = some o) → Q none { s with heap := h' }) : wpAny (model prog w) A (pyNext (.ref z)) Q E s := by
  have hTy : s.TypeIs (.ref z) "zip" := ⟨_, hz, rfl⟩
  unfold pyNext
  refine wpAny_bind (wpAny_attempt (wpAny_callSpecial?_slot (name := Str.ofString "__next__") hTy F.slot_zip_next
    (wpAny_call_entry F.slot_zip_next hTy F.entry_zip_next ?_ (F.args_zip_next_1 _))))
  show wpAny _ _ (field (.ref z) 2 >>= _) _ _ _
  refine wpAny_bind (wpAny_field hz rfl (x := .bool false) rfl ?_)
  show wpAny _ _ (field (.ref z) 3 >>= _) _ _ _
  refine wpAny_bind (wpAny_field hz rfl (x := .ref TI) rfl ?_)
  refine wpAny_bind (wpAny_seqItems hTI rfl ?_)
  show wpAny _ _ (Builtin.SmallTypes.ownedTupleIsFree (.ref z) >>= _) _ _ _
  refine wpAny_bind (wpAny_tupleHeld_zip hz hT fun h₁ hz₁ hs₁ => ?_)
  simp only [Bool.false_eq_true, if_false]
  refine wpAny_bind ?_
  rw [← Array.forIn_toList]
  simp only [List.forIn_cons, List.forIn_nil]
  refine wpAny_bind (wpAny_bind (wpAny_holding ?_))
  show wpAny _ _ (Builtin.SmallTypes.nextOf (.ref i1) >>= _) _ _ _
  refine wpAny_bind (nextOf_tuple_end (s := { s with heap := h₁ }) hh (h1.extBut hs₁.extBut D.i1z) (hl1.extBut hs₁.extBut D.l1z) hx fun h₂ e hs₂ he => ?_)
  obtain ⟨o, ho, hc⟩ := he
  refine wpAny_bind (wpAny_isInstance (T := "StopIteration") (b := true) ⟨o, ho, hc⟩ isSubtype_stop ?_)
  exact wpAny_pure (hQ _ fun c o c1 c2 _ x => hs₂ _ _ c2 (hs₁.extBut _ _ c1 x))
end
/-- the zip ahead of its i-th pair -/
def ZSt (h : Heap) (z TI TO i1 i2 l1 l2 S : Addr) (xs ys : Array Value) (i : Nat) : Prop :=
  IsPair h TI (.ref i1) (.ref i2) ∧ h.IsTupleIter i1 l1 i ∧ h.IsTupleIter i2 l2 i ∧ h.IsTuple l1 xs ∧ h.IsTuple l2 ys ∧
    ((IsZip h z TI TO .none ∧ ∃ a b, IsPair h TO a b) ∨ ∃ T f oT, IsZipHeld h z TI TO T f ∧ h.get? T = some oT ∧ T ≠ z ∧ T ≠ i1 ∧ T ≠ i2 ∧ T ≠ S)
/-- where the zip's own objects lie, seen from the list at S -/
structure Sep (z TI TO i1 i2 l1 l2 S : Addr) : Prop where
  z : z < S
  TI : TI < S
  TO : TO < S
  i1 : i1 < S
  i2 : i2 < S
  l1 : l1 < S
  l2 : l2 < S
structure ZG (xs ys : Array Value) (lo : Addr) (h : Heap) (as : List Addr) : Prop where
  rise : as.Pairwise (· < ·)
  above : ∀ a ∈ as, lo < a
  pairs : ∀ (j : Nat) (a : Addr), as[j]? = some a → ∃ x y, xs[j]? = some x ∧ ys[j]? = some y ∧ IsPair h a x y
theorem ZG.there {xs ys : Array Value} {lo : Addr} {h : Heap} {as : List Addr} (g : ZG xs ys lo h as) {a : Addr} (ha : a ∈ as) : a < h.objs.size := by
  obtain ⟨j, hj⟩ := List.mem_iff_getElem?.mp ha
  obtain ⟨_, _, _, _, e⟩ := g.pairs j a hj
  exact Heap.lt_size e
theorem ZSt.keep {h h' : Heap} {z TI TO i1 i2 l1 l2 S : Addr} {xs ys : Array Value} {i : Nat} (p : Sep z TI TO i1 i2 l1 l2 S) (x : ZSt h z TI TO i1 i2 l1 l2 S xs ys i) (hk : ∀ b o, b ≠ S → h.get? b = some o → h'.get? b = some o) : ZSt h' z TI TO i1 i2 l1 l2 S xs ys i := by
  obtain ⟨a1, a2, a3, a4, a5, a6⟩ := x
  refine ⟨hk _ _ (Nat.ne_of_lt p.TI) a1, a2.at fun o e => hk _ o (Nat.ne_of_lt p.i1) e, a3.at fun o e => hk _ o (Nat.ne_of_lt p.i2) e, ?_, ?_, ?_⟩
  · obtain ⟨o, ho, r⟩ := a4
    exact ⟨o, hk _ _ (Nat.ne_of_lt p.l1) ho, r⟩
  · obtain ⟨o, ho, r⟩ := a5
    exact ⟨o, hk _ _ (Nat.ne_of_lt p.l2) ho, r⟩
  · rcases a6 with ⟨b1, a, b, b2⟩ | ⟨T, f, oT, b1, b2, b3, b4, b5, b6⟩
    · exact .inl ⟨hk _ _ (Nat.ne_of_lt p.z) b1, a, b, hk _ _ (Nat.ne_of_lt p.TO) b2⟩
    · exact .inr ⟨T, f, oT, hk _ _ (Nat.ne_of_lt p.z) b1, hk _ _ b6 b2, b3, b4, b5, b6⟩
section
variable {prog : Program} {w : World} {A : Around} {E : Value → Shared → Prop} {s : Shared} {z TI TO i1 i2 l1 l2 S : Addr} {xs ys : Array Value}
theorem tup_keep {h h' : Heap} {l : Addr} {xs : Array Value} (x : h.IsTuple l xs) (hk : ∀ o, h.get? l = some o → h'.get? l = some o) : h'.IsTuple l xs := by
  obtain ⟨o, ho, r⟩ := x
  exact ⟨o, hk _ ho, r⟩
theorem z_item {i : Nat} {x y : Value} {Q : Option Value → Shared → Prop} (D : ZipApart z TI TO i1 i2 l1 l2) (p : Sep z TI TO i1 i2 l1 l2 S) (hS : S < s.heap.objs.size) (hst : ZSt s.heap z TI TO i1 i2 l1 l2 S xs ys i) (hx : xs[i]? = some x) (hy : ys[i]? = some y)
    (hQ : ∀ h', ZSt h' z TI TO i1 i2 l1 l2 S xs ys (i + 1) → IsPair h' s.heap.objs.size x y → h'.objs.size = s.heap.objs.size + 1 → (∀ c o, c ≠ z → c ≠ TO → c ≠ i1 → c ≠ i2 → s.heap.get? c = some o → h'.get? c = some o) → Q (some (.ref s.heap.objs.size)) { s with heap := h' }) :
    wpAny (model prog w) A (pyNext (.ref z)) Q E s := by
  obtain ⟨a1, a2, a3, a4, a5, a6⟩ := hst
  have big : ∀ {b : Addr}, b < S → s.heap.objs.size ≠ b := fun {b} h => Nat.ne_of_gt (Nat.lt_trans h hS)
  rcases a6 with ⟨b1, a, b, b2⟩ | ⟨T, f, oT, b1, b2, b3, b4, b5, b6⟩
  · refine pyNext_zipT_item D b1 a1 b2 a2 a3 a4 a5 hx hy fun h' c1 c2 c3 c4 c5 c6 c7 => hQ h' ⟨c7 _ _ D.TIz D.TITO D.TIi1 D.TIi2 a1, c3, c4, tup_keep a4 fun o e => c7 _ o D.l1z D.l1TO D.l1i1 D.l1i2 e, tup_keep a5 fun o e => c7 _ o D.l2z D.l2TO D.l2i1 D.l2i2 e, .inr ⟨_, false, _, c1, c5, big p.z, big p.i1, big p.i2, Nat.ne_of_gt hS⟩⟩ c5 c6 c7
  · refine zipT_item_held D b1 b2 a1 a2 a3 a4 a5 hx hy fun h' c1 c3 c4 c5 c6 c7 => hQ h' ⟨c7 _ _ D.TIz D.TIi1 D.TIi2 a1, c3, c4, tup_keep a4 fun o e => c7 _ o D.l1z D.l1i1 D.l1i2 e, tup_keep a5 fun o e => c7 _ o D.l2z D.l2i1 D.l2i2 e, .inr ⟨T, true, oT, c1, c7 _ _ b3 b4 b5 b2, b3, b4, b5, b6⟩⟩ c5 c6 fun c o d1 _ d3 d4 e => c7 c o d1 d3 d4 e
theorem z_done {i : Nat} {Q : Option Value → Shared → Prop} (hh : A.handled = none) (D : ZipApart z TI TO i1 i2 l1 l2) (hst : ZSt s.heap z TI TO i1 i2 l1 l2 S xs ys i) (hx : xs[i]? = none)
    (hQ : ∀ h', (∀ c o, c ≠ z → c ≠ TO → c ≠ i1 → c ≠ i2 → s.heap.get? c = some o → h'.get? c = some o) → Q none { s with heap := h' }) : wpAny (model prog w) A (pyNext (.ref z)) Q E s := by
  obtain ⟨a1, a2, a3, a4, a5, a6⟩ := hst
  rcases a6 with ⟨b1, a, b, b2⟩ | ⟨T, f, oT, b1, b2, b3, b4, b5, b6⟩
  · exact pyNext_zipT_end hh D b1 a1 b2 a2 a3 a4 a5 (.inl hx) hQ
  · exact zipT_end_held hh D b1 b2 a1 a2 a4 hx fun h' k => hQ h' fun c o d1 _ d3 d4 e => k c o d1 d3 d4 e
end
section
variable {prog : Program} {w : World} {A : Around} {s : Shared} {R : Result → Shared → Prop} {z TI TO i1 i2 l1 l2 S : Addr} {xs ys : Array Value}
theorem z_loop (hh : A.handled = none) (D : ZipApart z TI TO i1 i2 l1 l2) (p : Sep z TI TO i1 i2 l1 l2 S) (hn : xs.size ≤ sizeLine) (hxy : xs.size = ys.size) (res : Value) {h₁ : Heap}
    (hR : ∀ h' tk acc c as, (∀ b o, b ≠ S → b ≠ z → b ≠ TO → b ≠ i1 → b ≠ i2 → h₁.get? b = some o → h'.get? b = some o) → h'.get? S = some { cls := .type "list", dict := none, data := .seq acc c, slots := #[] } → as.length = xs.size → ZG xs ys S h' as →
      acc.toList = as.map Value.ref → R (.ok (.ret res)) { s with heap := h', toks := tk }) :
    ∀ (k i : Nat) (h : Heap) (tk c : Nat) (acc : Array Value) (as : List Addr), xs.size - i = k → i ≤ xs.size → ZSt h z TI TO i1 i2 l1 l2 S xs ys i → (∀ b o, b ≠ S → b ≠ z → b ≠ TO → b ≠ i1 → b ≠ i2 → h₁.get? b = some o → h.get? b = some o) →
      h.get? S = some { cls := .type "list", dict := none, data := .seq acc c, slots := #[] } → acc.toList = as.map Value.ref → as.length = i → ZG xs ys S h as →
      codeAny (model prog w) A (.builtin "list.extend.loop" ⟨[.ref S, .ref z, res], []⟩) R { s with heap := h, toks := tk } := by
  have off : ∀ {a : Addr}, S < a → a ≠ z ∧ a ≠ TO ∧ a ≠ i1 ∧ a ≠ i2 := fun {a} h => ⟨Nat.ne_of_gt (Nat.lt_trans p.z h), Nat.ne_of_gt (Nat.lt_trans p.TO h), Nat.ne_of_gt (Nat.lt_trans p.i1 h), Nat.ne_of_gt (Nat.lt_trans p.i2 h)⟩
  have offS : S ≠ z ∧ S ≠ TO ∧ S ≠ i1 ∧ S ≠ i2 := ⟨Nat.ne_of_gt p.z, Nat.ne_of_gt p.TO, Nat.ne_of_gt p.i1, Nat.ne_of_gt p.i2⟩
  intro k
  induction k with
  | zero =>
    intro i h tk c acc as hk hi hst hkeep hS hacc hal hG
    have hin : i = xs.size := by omega
    refine codeAny_builtin PySem.F.entry_extend_loop ?_
    rw [Around.under_plainId PySem.F.plain_extend_loop _]
    show wpAny _ A.in1 (pyNext (.ref z) >>= _) _ _ _
    refine wpAny_bind (z_done (s := { s with heap := h, toks := tk }) (A := A.in1) hh D hst (Array.getElem?_eq_none (by omega)) fun h' he => ?_)
    refine wpAny_pure (hR h' tk acc c as (fun b o h1 h2 h3 h4 h5 e => he b o h2 h3 h4 h5 (hkeep b o h1 h2 h3 h4 h5 e)) (he S _ offS.1 offS.2.1 offS.2.2.1 offS.2.2.2 hS) (by omega) ⟨hG.rise, hG.above, fun j a hj => ?_⟩ hacc)
    obtain ⟨x, y, e1, e2, e3⟩ := hG.pairs j a hj
    obtain ⟨o1, o2, o3, o4⟩ := off (hG.above a (List.mem_of_getElem? hj))
    exact ⟨x, y, e1, e2, he a _ o1 o2 o3 o4 e3⟩
  | succ k ih =>
    intro i h tk c acc as hk hi hst hkeep hS hacc hal hG
    have hlt : i < xs.size := by omega
    have hx : xs[i]? = some xs[i] := Array.getElem?_eq_getElem hlt
    have hlt2 : i < ys.size := by omega
    have hy : ys[i]? = some ys[i] := Array.getElem?_eq_getElem hlt2
    have hsz : acc.size = i := by rw [← Array.length_toList, hacc, List.length_map, hal]
    have hSl : S < h.objs.size := Heap.lt_size hS
    refine codeAny_builtin PySem.F.entry_extend_loop ?_
    rw [Around.under_plainId PySem.F.plain_extend_loop _]
    show wpAny _ A.in1 (pyNext (.ref z) >>= _) _ _ _
    refine wpAny_bind (z_item (s := { s with heap := h, toks := tk }) D p hSl hst hx hy fun h' hst' ht hz hkp => ?_)
    dsimp only at ht hz hkp ⊢
    have hS' := hkp S _ offS.1 offS.2.1 offS.2.2.1 offS.2.2.2 hS
    have up : ∀ b o, b ≠ S → h'.get? b = some o → (h'.update S (Obj.mapSeq (·.push (Value.ref h.objs.size)))).get? b = some o := fun b o hb e => (Heap.get?_update_other _ _ (Ne.symm hb)).trans e
    show wpAny _ A.in1 (updateSeq S (·.push (Value.ref h.objs.size)) >>= _) _ _ _
    refine wpAny_bind ?_
    refine wpAny_updateSeq hS' rfl (wpAny_pure ⟨plainId_quiet PySem.F.plain_extend_loop _, ih (i + 1) _ tk _ (acc.push (Value.ref h.objs.size)) (as ++ [h.objs.size]) (by omega) hlt (hst'.keep p up)
      (fun b o h1 h2 h3 h4 h5 e => up b o h1 (hkp b o h2 h3 h4 h5 (hkeep b o h1 h2 h3 h4 h5 e))) (Heap.get?_update_self _ hS' rfl) (by rw [Array.toList_push, hacc, List.map_append]; rfl) (by rw [List.length_append, hal]; rfl) ⟨?_, ?_, ?_⟩⟩) (by rw [hsz]; omega) (by show (acc.push (Value.ref h.objs.size)).size ≤ sizeLine + 1; rw [Array.size_push, hsz]; omega)
    · refine List.pairwise_append.mpr ⟨hG.rise, List.pairwise_singleton _ _, fun a ha b hb => ?_⟩
      rw [List.mem_singleton.mp hb]
      exact hG.there ha
    · intro a ha
      rcases List.mem_append.mp ha with ha | ha
      · exact hG.above a ha
      · rw [List.mem_singleton.mp ha]; exact hSl
    · intro j b hj
      rcases Nat.lt_trichotomy j as.length with h1 | h1 | h1
      · rw [List.getElem?_append_left h1] at hj
        obtain ⟨x', y', e1, e2, e3⟩ := hG.pairs j b hj
        have hb := hG.above b (List.mem_of_getElem? hj)
        obtain ⟨o1, o2, o3, o4⟩ := off hb
        exact ⟨x', y', e1, e2, up b _ (Nat.ne_of_gt hb) (hkp b _ o1 o2 o3 o4 e3)⟩
      · subst h1
        have hb : h.objs.size = b := by simpa using hj
        subst hb
        exact ⟨_, _, by rw [hal]; exact hx, by rw [hal]; exact hy, up _ _ (Nat.ne_of_gt hSl) ht⟩
      · have hnone : (as ++ [h.objs.size])[j]? = none := List.getElem?_eq_none (by rw [List.length_append, List.length_singleton]; omega)
        rw [hnone] at hj; cases hj
end
theorem zip_no_len : typeLookup (.type "zip") "__len__" = pure none := by rw [typeLookup_type, builtinLookup_eq_fast]; kernel_rfl
theorem zip_no_hint : typeLookup (.type "zip") "__length_hint__" = pure none := by rw [typeLookup_type, builtinLookup_eq_fast]; kernel_rfl
section
variable {prog : Program} {w : World} {A : Around} {E : Value → Shared → Prop} {s : Shared} {R : Result → Shared → Prop} {z TI TO i1 i2 l1 l2 S : Addr} {xs ys : Array Value}
theorem z_extend (hh : A.handled = none) (D : ZipApart z TI TO i1 i2 l1 l2) (p : Sep z TI TO i1 i2 l1 l2 S) (hn : xs.size ≤ sizeLine) (hxy : xs.size = ys.size) (res : Value) (c₀ : Nat) (hS : s.heap.get? S = some { cls := .type "list", data := .seq #[] c₀ })
    (hz : IsZip s.heap z TI TO .none) (hst : ZSt s.heap z TI TO i1 i2 l1 l2 S xs ys 0)
    (hR : ∀ h' tk acc c as, (∀ b o, b ≠ S → b ≠ z → b ≠ TO → b ≠ i1 → b ≠ i2 → s.heap.get? b = some o → h'.get? b = some o) → h'.get? S = some { cls := .type "list", dict := none, data := .seq acc c, slots := #[] } → as.length = xs.size → ZG xs ys S h' as →
      acc.toList = as.map Value.ref → R (.ok (.ret res)) { s with heap := h', toks := tk }) :
    wpAny (model prog w) A.in1 (Builtin.List.listExtendWith (.ref S) (.ref z) res)
      (fun fin s' => match fin with | .done f => R (.ok f) s' | .again c' => c'.quiet = true ∧ codeAny (model prog w) A c' R s') (fun e s' => R (.error e) s') s := by
  have hT : s.TypeIs (.ref z) "zip" := ⟨_, hz, rfl⟩
  unfold Builtin.List.listExtendWith
  refine wpAny_bind (wpAny_typeOf hT ?_)
  have h1 : Builtin.List.listSameRef (.ref S) (.ref z) = false := by simp [Builtin.List.listSameRef, Nat.ne_of_gt p.z]
  have h2 : (Value.type "zip" == Value.type "list") = false := by decide
  have h3 : (Value.type "zip" == Value.type "tuple") = false := by decide
  simp only [h1, h2, h3, Bool.or_false, Bool.false_eq_true, if_false]
  refine wpAny_bind (wpAny_pyIter_zip hz ?_)
  refine wpAny_bind (wpAny_holding ?_)
  unfold Builtin.List.listLengthHint
  refine wpAny_bind (wpAny_specialOf hT zip_no_len ?_)
  show wpAny _ A.in1 (specialOf (Value.ref z) (Str.ofString "__length_hint__") >>= _) _ _ _
  refine wpAny_bind (wpAny_specialOf hT zip_no_hint ?_)
  refine wpAny_pure ?_
  show wpAny _ A.in1 (rule "list.extend.makes-room" >>= fun _ => Builtin.List.listTouch (.ref S) >>= fun _ =>
    again (.builtin "list.extend.loop" ⟨[.ref S, .ref z, res], []⟩)) _ _ _
  refine wpAny_bind (wpAny_rule ?_)
  refine wpAny_bind ?_
  show wpAny _ A.in1 (updateSeq S (·.push .none) >>= fun _ => updateSeq S (·.pop)) _ _ _
  refine wpAny_bind (wpAny_updateSeq hS rfl ?_)
  have hS₂ := Heap.get?_update_self (Obj.mapSeq (·.push Value.none)) hS rfl
  refine wpAny_updateSeq (hz := by seq_fits) hS₂ rfl ?_
  have hS₃ := Heap.get?_update_self (Obj.mapSeq (·.pop)) hS₂ rfl
  have oth : ∀ b o, b ≠ S → s.heap.get? b = some o → ((s.heap.update S (Obj.mapSeq (·.push Value.none))).update S (Obj.mapSeq (·.pop))).get? b = some o :=
    fun b o hb e => (Heap.get?_update_other _ _ (Ne.symm hb)).trans ((Heap.get?_update_other _ _ (Ne.symm hb)).trans e)
  refine wpAny_pure ⟨plainId_quiet F.plain_extend_loop _, z_loop (s := s) (h₁ := s.heap) hh D p hn hxy res hR xs.size 0 _ s.toks _ #[] [] (Nat.sub_zero _) (Nat.zero_le _) (hst.keep p oth) (fun b o hb _ _ _ _ e => oth b o hb e) hS₃ rfl rfl
    ⟨List.Pairwise.nil, (fun _ ha => nomatch ha), (fun j a hj => by simp at hj)⟩⟩
theorem z_init (hh : A.handled = none) (D : ZipApart z TI TO i1 i2 l1 l2) (p : Sep z TI TO i1 i2 l1 l2 S) (hn : xs.size ≤ sizeLine) (hxy : xs.size = ys.size) (hS : s.heap.get? S = some { cls := .type "list", data := .seq #[] })
    (hz : IsZip s.heap z TI TO .none) (hst : ZSt s.heap z TI TO i1 i2 l1 l2 S xs ys 0)
    (hR : ∀ h' tk acc c as, (∀ b o, b ≠ S → b ≠ z → b ≠ TO → b ≠ i1 → b ≠ i2 → s.heap.get? b = some o → h'.get? b = some o) → h'.get? S = some { cls := .type "list", dict := none, data := .seq acc c, slots := #[] } → as.length = xs.size → ZG xs ys S h' as →
      acc.toList = as.map Value.ref → R (.ok (.ret .none)) { s with heap := h', toks := tk }) :
    wpAny (model prog w) A.in1 (Builtin.«list.__init__» ⟨[.ref S, .ref z], []⟩)
      (fun fin s' => match fin with | .done f => R (.ok f) s' | .again c' => c'.quiet = true ∧ codeAny (model prog w) A c' R s') (fun e s' => R (.error e) s') s := by
  show wpAny _ _ (do let old ← Builtin.List.listItems (.ref S); Builtin.List.listUpdate (.ref S) (fun _ => #[]); letGo old.toList.reverse; Builtin.List.listExtendWith (.ref S) (.ref z) .none) _ _ s
  refine wpAny_bind ?_
  unfold Builtin.List.listItems
  refine wpAny_bind (wpAny_seqItems hS rfl (wpAny_pure ?_))
  show wpAny _ _ (updateSeq S (fun _ => #[]) >>= fun _ => letGo (#[] : Array Value).toList.reverse >>= fun _ => Builtin.List.listExtendWith (.ref S) (.ref z) .none) _ _ s
  refine wpAny_bind (wpAny_updateSeq hS rfl ?_)
  have hS₂ := Heap.get?_update_self (Obj.mapSeq (fun _ => (#[] : Array Value))) hS rfl
  have oth : ∀ b o, b ≠ S → s.heap.get? b = some o → (s.heap.update S (Obj.mapSeq (fun _ => (#[] : Array Value)))).get? b = some o :=
    fun b o hb e => (Heap.get?_update_other _ _ (Ne.symm hb)).trans e
  refine wpAny_bind (wpAny_letGo ?_)
  exact z_extend hh D p hn hxy .none _ hS₂ (oth _ _ (Nat.ne_of_lt p.z) hz) (hst.keep p oth) fun h' tk acc c as hk hS' hl hG hacc => hR h' tk acc c as (fun b o hb h2 h3 h4 h5 e => hk b o hb h2 h3 h4 h5 (oth b o hb e)) hS' hl hG hacc
theorem z_call {Q : Value → Shared → Prop} (hh : A.handled = none) (D : ZipApart z TI TO i1 i2 l1 l2) (p : Sep z TI TO i1 i2 l1 l2 s.heap.objs.size) (hn : xs.size ≤ sizeLine) (hxy : xs.size = ys.size) (hz : IsZip s.heap z TI TO .none) (hst : ZSt s.heap z TI TO i1 i2 l1 l2 s.heap.objs.size xs ys 0)
    (hQ : ∀ h' tk acc c as, (∀ b o, b ≠ z → b ≠ TO → b ≠ i1 → b ≠ i2 → s.heap.get? b = some o → h'.get? b = some o) → h'.get? s.heap.objs.size = some { cls := .type "list", dict := none, data := .seq acc c, slots := #[] } → as.length = xs.size → ZG xs ys s.heap.objs.size h' as →
      acc.toList = as.map Value.ref → Q (.ref s.heap.objs.size) { s with heap := h', toks := tk }) :
    wpAny (model prog w) A (call (.type "list") [.ref z]) Q E s := by
  refine callType_codes (Q₁ := fun obj s₁ => obj = .ref s.heap.objs.size ∧ s₁ = { s with heap := s.heap.push { cls := .type "list", data := .seq #[] } }) PySem.F.called_list (PySem.F.typeCall_list_1 _) PySem.F.entry_list_init
    (code_list_new _ ⟨rfl, rfl⟩) fun obj s₁ h₁ => ?_
  obtain ⟨rfl, rfl⟩ := h₁
  have hS : (s.heap.push { cls := .type "list", data := .seq #[] }).get? s.heap.objs.size = some { cls := .type "list", data := .seq #[] } := Heap.get?_push_size _ rfl
  refine ⟨⟨_, hS, rfl⟩, PySem.F.args_list_init_2 _ _, z_init (A := A.in1) hh D p hn hxy hS (Heap.get?_push_of_some _ hz) (hst.keep p fun b o _ e => Heap.get?_push_of_some _ e) fun h' tk acc c as hk hS' hl hG hacc => ?_⟩
  exact ⟨rfl, hQ h' tk acc c as (fun b o h2 h3 h4 h5 e => hk b o (Nat.ne_of_lt (Heap.lt_size e)) h2 h3 h4 h5 (Heap.get?_push_of_some _ e)) hS' hl hG hacc⟩
end
end XZ

/-! list(zip(a, b)) of two tuples, over the layer -/
namespace XZ
open PySem PySem.Spec PyProof.Rows L2 RZ
def putZ : Hp → List Addr → List (V × V) → Hp
  | H, a :: as, p :: r => putZ (upd H a (.tup [p.1, p.2])) as r
  | H, _, _ => H
theorem putZ_off {b : Addr} : ∀ (as : List Addr) (r : List (V × V)) (H : Hp), b ∉ as → putZ H as r b = H b
  | [], _, _, _ => rfl
  | _ :: _, [], _, _ => rfl
  | a :: as, p :: r, H, h => by
    show putZ (upd H a (.tup [p.1, p.2])) as r b = H b
    rw [putZ_off as r _ (fun z => h (List.mem_cons_of_mem _ z)), upd_ne (fun z => h (by rw [z]; exact List.mem_cons_self))]
theorem putZ_at : ∀ (as : List Addr) (r : List (V × V)) (H : Hp), as.Nodup → ∀ (j : Nat) (t : Addr) (p : V × V), as[j]? = some t → r[j]? = some p → putZ H as r t = some (.tup [p.1, p.2])
  | [], _, _, _, j, t, p, h, _ => by cases h
  | _ :: _, [], _, _, j, t, p, _, h => by cases h
  | a :: as, q :: r, H, hn, 0, t, p, h1, h2 => by
    cases h1; cases h2
    show putZ (upd H a (.tup [q.1, q.2])) as r a = _
    rw [putZ_off as r _ (List.nodup_cons.mp hn).1, upd_same]
  | a :: as, q :: r, H, hn, j + 1, t, p, h1, h2 => putZ_at as r _ (List.nodup_cons.mp hn).2 j t p h1 h2
theorem vals_get {xs : List V} {us : List Value} (h : Vals xs us) : ∀ {j : Nat} {u : Value}, us[j]? = some u → ∃ v, xs[j]? = some v ∧ RelV v u := by
  induction h with
  | nil => intro j u e; cases e
  | cons r t ih =>
    intro j u e
    cases j with
    | zero => cases e; exact ⟨_, rfl, r⟩
    | succ j => exact ih e
section
variable {X : Cx} {pins : List (Addr × Obj)} {σ : L2.St} {H : Hp} {s : Shared}
theorem zip_laid {h' : Heap} {tk : Nat} {xs ys : List V} {us ws : List Value} {acc : Array Value} {c : Nat} {as : List Addr} {p : Addr} (I : Inv X pins σ H s) (hz : xs.length ≤ sizeLine) (rx : Vals xs us) (ry : Vals ys ws) (hxy : xs.length = ys.length)
    (hk : ∀ b o, s.heap.get? b = some o → h'.get? b = some o) (hp : s.heap.objs.size ≤ p) (hS : h'.get? p = some { cls := .type "list", dict := none, data := .seq acc c, slots := #[] }) (hl : as.length = us.length) (hG : ZG us.toArray ws.toArray p h' as) (hacc : acc.toList = as.map Value.ref) :
    ∃ H' : Hp, (∀ b o, H b = some o → H' b = some o) ∧ H p = none ∧ H' p = some (.lst (as.map V.ref)) ∧ (∀ (j : Nat) (t : Addr), as[j]? = some t → ∃ x y, xs[j]? = some x ∧ ys[j]? = some y ∧ H' t = some (.tup [x, y])) ∧ Inv X pins σ H' { s with heap := h', toks := tk } := by
  have lx : xs.length = us.length := Paired.length rx
  have nd : as.Nodup := List.Pairwise.imp (fun {a b} (h : a < b) => Nat.ne_of_lt h) hG.rise
  have hSn : p ∉ as := fun z => Nat.lt_irrefl _ (hG.above _ z)
  have new : ∀ t ∈ as, H t = none := fun t ht => I.hok.fresh (Nat.le_trans hp (Nat.le_of_lt (hG.above t ht)))
  have newS : H p = none := I.hok.fresh hp
  have atP := putZ_at as (xs.zip ys) (upd H p (.lst (as.map V.ref))) nd
  have off : ∀ b, b ∉ as → b ≠ p → putZ (upd H p (.lst (as.map V.ref))) as (xs.zip ys) b = H b := fun b h1 h2 => by rw [putZ_off as _ _ h1, upd_ne h2]
  have low : ∀ b o, s.heap.get? b = some o → b ∉ as ∧ b ≠ p := fun b o e => ⟨fun z => absurd (Heap.lt_size e) (Nat.not_lt.mpr (Nat.le_trans hp (Nat.le_of_lt (hG.above b z)))), Nat.ne_of_lt (Nat.lt_of_lt_of_le (Heap.lt_size e) hp)⟩
  have kp : ∀ b u, H b = some u → (putZ (upd H p (.lst (as.map V.ref))) as (xs.zip ys)) b = some u := fun b u e => by
    rw [off b (fun z => by rw [new b z] at e; cases e) (fun z => by rw [z, newS] at e; cases e)]
    exact e
  have eS : putZ (upd H p (.lst (as.map V.ref))) as (xs.zip ys) p = some (.lst (as.map V.ref)) := by rw [putZ_off as _ _ hSn, upd_same]
  have pr : ∀ (j : Nat) (t : Addr), as[j]? = some t → ∃ x y, xs[j]? = some x ∧ ys[j]? = some y ∧ putZ (upd H p (.lst (as.map V.ref))) as (xs.zip ys) t = some (.tup [x, y]) := fun j t hj => by
    have hj' : j < xs.length := by rw [lx, ← hl]; exact (List.getElem?_eq_some_iff.mp hj).1
    have hj2 : j < ys.length := by omega
    refine ⟨xs[j], ys[j], List.getElem?_eq_getElem hj', List.getElem?_eq_getElem hj2, ?_⟩
    exact atP j t (xs[j], ys[j]) hj (by rw [List.getElem?_zip_eq_some]; exact ⟨List.getElem?_eq_getElem hj', List.getElem?_eq_getElem hj2⟩)
  refine ⟨putZ (upd H p (.lst (as.map V.ref))) as (xs.zip ys), kp, newS, eS, pr, ?_⟩
  refine I.call' (ch := []) rfl ⟨fun b o q _ _ _ => hk b o q, fun b o q _ _ _ => ⟨o.slots, hk b o q⟩, fun b o q n _ => ?_, fun b o q _ => ⟨o, hk b o q⟩, fun b xs q => kp b _ q, fun b o u q => kp b _ q, fun b ps q => ⟨#[], by rw [kp b _ q]; simp⟩⟩ (fun b u q => ?_) I.bare fun b z => by simp at z
  · obtain ⟨z1, z2⟩ := low b o q
    rw [off b z1 z2]
    exact n
  · by_cases hb : b ∈ as
    · obtain ⟨j, hj⟩ := List.mem_iff_getElem?.mp hb
      obtain ⟨x, y, e1, e2, e3⟩ := pr j b hj
      rw [e3] at q
      cases q
      obtain ⟨u1, u2, f1, f2, f3⟩ := hG.pairs j b hj
      obtain ⟨v1, g1, r1⟩ := vals_get rx (j := j) (u := u1) (by simpa using f1)
      obtain ⟨v2, g2, r2⟩ := vals_get ry (j := j) (u := u2) (by simpa using f2)
      rw [e1] at g1
      rw [e2] at g2
      cases g1
      cases g2
      exact ⟨by show 2 ≤ sizeLine; decide, [u1, u2], .cons r1 (.cons r2 .nil), ⟨_, f3, rfl, _, rfl⟩⟩
    · by_cases hb2 : b = p
      · rw [hb2] at q ⊢
        rw [eS] at q
        cases q
        refine ⟨by rw [List.length_map]; omega, acc.toList, c, by rw [hacc]; exact LiI.vals_refs as, ?_⟩
        rw [Array.toArray_toList]
        exact hS
      · rw [off b hb hb2] at q
        exact (I.hok b u q).stay (fun d v _ y => hk d v y) (fun d y => kp d _ y) fun d xs y => kp d _ y
end
def tListZip (K : PySem.W.Frag) (ta : TA) : TE := fun σ H Q => ta σ H fun vs H1 => ∃ a b xs ys, vs = [.ref a, .ref b] ∧ SqT K H1 a xs ∧ SqT K H1 b ys ∧ xs.length = ys.length ∧
  ∀ (H' : Hp) (p : Addr) (ts : List Addr), (∀ b o, H1 b = some o → H' b = some o) → H1 p = none → H' p = some (.lst (ts.map V.ref)) → ts.length = xs.length → (∀ (j : Nat) (t : Addr), ts[j]? = some t → ∃ x y, xs[j]? = some x ∧ ys[j]? = some y ∧ H' t = some (.tup [x, y])) → Q (.ref p) H'
/-- list(zip(e, e2)) -/
theorem pe_listZip {X : Cx} {e e2 : Expr} {ta : TA} {p p2 pos pos2 : Pos} (hc : X.calm = true) (hg : Gl X "list") (hm : X.mg "list" = none) (hv : bootBuiltins "list" = some (.type "list")) (hg2 : Gl X "zip") (hm2 : X.mg "zip" = none) (ha : PA X [e, e2] ta)
    (hs2 : starEach [e, e2] X.env = (false, eval e X.env) :: starEach [e2] X.env := by rfl) (hpl2 : (backTo pos2 (starEach [e2] X.env)).any (·.1) = false := by rfl)
    (hs : starEach [.Call (.Name "zip" p2) [e, e2] [] pos2] X.env = (false, eval (.Call (.Name "zip" p2) [e, e2] [] pos2) X.env) :: starEach [] X.env := by rfl) :
    PE X (.Call (.Name "list" p) [.Call (.Name "zip" p2) [e, e2] [] pos2] [] pos) (tListZip X.K ta) := by
  refine ⟨fun pins s σ H Q I hq => ?_⟩
  refine wpAny_Call_Name_kw (ld_blt I hg hm hv ?_)
  refine PyProof.Rows.callWith_type1 ?_ hs rfl
  rw [hs]
  show wpAny _ _ (spliced ((false, eval (.Call (.Name "zip" p2) [e, e2] [] pos2) X.env) :: backTo pos (starEach [] X.env))) _ _ s
  refine Calls.spliced_cons ?_
  refine Call_ (ld_blt I hg2 hm2 PyProof.Rows.boot_zip (PyProof.Rows.callWith_type1 (thn (ha.run pos2 pins s σ H _ I hq) fun us s1 ⟨vs, H1, I1, r1, q1⟩ => ?_) hs2 hpl2))
  obtain ⟨a, b, xs, ys, ex, hqx, hqy, hxy, q⟩ := q1
  subst ex
  cases r1 with
  | cons r rr =>
  cases rr with
  | cons r' rr =>
  cases rr
  cases r
  cases r'
  obtain ⟨its, rv, p1, hz1⟩ := I1.tuple hqx
  obtain ⟨its2, rv2, p2', hz2⟩ := I1.tuple hqy
  obtain ⟨o1, ho1, _⟩ := id p1
  obtain ⟨o2, ho2, _⟩ := id p2'
  have la := Heap.lt_size ho1
  have lb := Heap.lt_size ho2
  have D := PySem.W.ktu_apart s1.heap.objs.size a b la lb
  have e1 : xs.length = its.length := Paired.length rv
  have e2 : ys.length = its2.length := Paired.length rv2
  refine call_zipT (show s1.heap.IsTuple a its.toArray from p1) (show s1.heap.IsTuple b its2.toArray from p2') fun h' hz hTI hTO h1 h2 hsz hk => ?_
  refine Calls.spliced_nil ?_
  refine z_call (s := { s1 with heap := h' }) (xs := its.toArray) (ys := its2.toArray) (I1.ok.hd hc) D ⟨by show _ < h'.objs.size; omega, by show _ < h'.objs.size; omega, by show _ < h'.objs.size; omega, by show _ < h'.objs.size; omega, by show _ < h'.objs.size; omega, Nat.lt_of_lt_of_le la (hsz ▸ Nat.le_add_right _ _), Nat.lt_of_lt_of_le lb (hsz ▸ Nat.le_add_right _ _)⟩
    (by rw [List.size_toArray]; omega) (by rw [List.size_toArray, List.size_toArray]; omega) hz ⟨hTI, h1, h2, tup_keep p1 fun o e => hk _ o e, tup_keep p2' fun o e => hk _ o e, .inl ⟨hz, _, _, hTO⟩⟩ fun h2 tk acc c as hk2 hS hl hG hacc => ?_
  have hkk : ∀ b o, s1.heap.get? b = some o → h2.get? b = some o := fun b o e => by
    have hb : b < s1.heap.objs.size := Heap.lt_size e
    have ge : ∀ k : Nat, b ≠ s1.heap.objs.size + k := fun k z => absurd hb (by rw [z]; exact Nat.not_lt.mpr (Nat.le_add_right _ _))
    exact hk2 b o (ge 4) (ge 3) (ge 0) (ge 1) (hk b o e)
  obtain ⟨H', k1, k2, k3, k4, J⟩ := zip_laid (tk := tk) (p := h'.objs.size) I1 (by omega) rv rv2 hxy hkk (hsz ▸ Nat.le_add_right _ _) hS (by rw [hl, List.size_toArray]) hG hacc
  exact ⟨.ref _, H', J, rfl, q H' _ as k1 k2 k3 (by rw [hl, List.size_toArray]; omega) k4⟩
end XZ

/-! == of an own instance with any value; x in a list of bools and such instances -/
namespace XR
open PySem PySem.Spec PyProof.Rows L2
section
variable {X : Cx} {C f : Addr} {fd : FuncData} {ps : List Str} {n : Nat} {sp : Sp}
/-- the own __eq__ called from inside richCompare -/
theorem own_eq_call {A : Around} {pins : List (Addr × Obj)} {σ : L2.St} {H : Hp} {s : Shared} {x y : V} {u v : Value} {Q : VK} (F : FnOk X.prog X.w X.K X.mg X.base CX0 n f fd ps sp) (hb : Binds X.K fd ps []) (sb : Sub X n A) (I : Inv X pins σ H s) (rx : RelV x u) (ry : RelV y v)
    (hsp : sp [x, y] H (fun v H' => (∃ b, v = .bl b) ∧ Q v H') E0) : wpAny (model X.prog X.w) A (call (.ref f) [u, v]) (fun w' s' => ∃ b H', w' = .bool b ∧ Inv X pins σ H' s' ∧ Q (.bl b) H') X.xe s := by
  have e0 : Env0 X.prog X.w X.K X.mg X.base A X.stack s H := by
    have e := I.env0
    exact ⟨by rw [sb.fr]; exact e.frames, e.mod, e.bs, e.bsz, e.funs, e.frf, e.hok, e.bare⟩
  have hl := F.len _ _ _ _ hsp
  have r2 : Vals [x, y] [u, v] := .cons rx (.cons ry .nil)
  refine wpAny_call (codeAny_mono (F.run A X.stack s H ⟨[u, v], []⟩ [u, v] [x, y] _ E0 sb.room e0 (by
    have := hb s [u, v] I.kIn (by simpa using hl)
    simpa using this) r2 hsp) fun r s' hq => ?_)
  cases r with
  | error e => exact (show False from hq).elim
  | ok fl =>
    cases fl with
    | ret w =>
      obtain ⟨z, H', I', rz, ⟨b, ez⟩, q⟩ := I.after hq
      subst ez
      cases rz
      exact ⟨b, H', rfl, I', q⟩
    | next => exact False.elim hq
    | brk => exact False.elim hq
    | cont => exact False.elim hq
/-- the left one an own instance, the right one anything -/
theorem rc_own {A : Around} {pins : List (Addr × Obj)} {σ : L2.St} {H : Hp} {s : Shared} {a dx : Addr} {fs : List (Str × V)} {y : V} {v t : Value} {Q : VK} (F : FnOk X.prog X.w X.K X.mg X.base CX0 n f fd ps sp)
    (hs : PySem.W.findIn X.K (.ref C) "__eq__" = some (some (.ref f))) (hf : PySem.W.isFn X.K (.ref f) = true) (hb : Binds X.K fd ps []) (sb : Sub X n A) (I : Inv X pins σ H s) (ry : RelV y v) (ha : H a = some (.ins C dx fs)) (ty : TyX X.K H y t) (hn : PySem.W.notFirst X.K C t = true)
    (hsp : sp [.ref a, y] H (fun v H' => (∃ b, v = .bl b) ∧ Q v H') E0) : wpAny (model X.prog X.w) A (richCompare .Eq (.ref a) v) (fun w' s' => ∃ b H', w' = .bool b ∧ Inv X pins σ H' s' ∧ Q (.bl b) H') X.xe s := by
  obtain ⟨mA, J, _⟩ := ins_get I.hok ha
  obtain ⟨od, J, _⟩ := J.look
  obtain ⟨m, hF⟩ := I.fr
  obtain ⟨Pk, Z, hP, _⟩ := kit_of I ry ty
  refine PySem.W.cmp_K (op := .Eq) (tb := t) sb.room.units0 hF I.ok.mod.kin J (Z.ty _ _ I.kIn hP) hn hs hf ?_
  refine wpAny_mono (own_eq_call F hb sb I (x := .ref a) rfl ry hsp) (fun w' s' hq => ?_) fun _ _ x => x
  obtain ⟨b, H', rfl, q⟩ := hq
  exact ⟨b, H', rfl, q⟩
def rEqU (K : PySem.W.Frag) (C : Addr) (sp : Sp) : R2 := fun x y H Q => ∃ a dx fs t, x = .ref a ∧ H a = some (.ins C dx fs) ∧ TyX K H y t ∧ PySem.W.notFirst K C t = true ∧ sp [x, y] H (fun v H' => (∃ b, v = .bl b) ∧ Q v H') E0
theorem op_eqU (F : FnOk X.prog X.w X.K X.mg X.base CX0 n f fd ps sp) (hs : PySem.W.findIn X.K (.ref C) "__eq__" = some (some (.ref f))) (hf : PySem.W.isFn X.K (.ref f) = true) (hb : Binds X.K fd ps []) (hr : Room n X.A) :
    OpR X (compareOp .Eq) (rEqU X.K C sp) := by
  intro pins s σ H x y v u Q I rx ry h
  obtain ⟨a, dx, fs, t, rfl, ha, ty, hn, hsp⟩ := h
  obtain rfl : v = Value.ref a := rx
  show wpAny (model X.prog X.w) X.A (richCompare .Eq (.ref a) u) (EP X pins σ Q) X.xe s
  refine wpAny_mono (rc_own F hs hf hb ⟨hr, rfl⟩ I ry ha ty hn hsp) (fun w' s' hq => ?_) fun _ _ x => x
  obtain ⟨b, H', rfl, I', q⟩ := hq
  exact ⟨.bl b, H', I', rfl, q⟩
theorem int_declines_plain (b : Bool) (l : Addr) (c : Value) (dd : Option Addr) (sl : Array (Option Value)) :
    Meets (Builtin.«int.__eq__» ⟨[.bool b, .ref l], []⟩) (fun _ R s => s.heap.get? l = some { cls := c, dict := dd, data := .plain, slots := sl } ∧ R (.ok (.ret .notImplemented)) s) :=
  .of_wp fun prog w A R s h => by obtain ⟨hp, g, d, tk, os⟩ := s; obtain ⟨hl, h⟩ := h; wp_walk using AutoSeq1.wpAny_loadPart' hl, wpAny_load hl; exact ⟨_, rfl, h⟩
/-- a bool on the left, an own instance on the right -/
theorem rc_bool_own {A : Around} {pins : List (Addr × Obj)} {σ : L2.St} {H : Hp} {s : Shared} {a dx : Addr} {fs : List (Str × V)} {b : Bool} {Q : VK} (F : FnOk X.prog X.w X.K X.mg X.base CX0 n f fd ps sp)
    (hs : PySem.W.findIn X.K (.ref C) "__eq__" = some (some (.ref f))) (hf : PySem.W.isFn X.K (.ref f) = true) (hb : Binds X.K fd ps []) (sb : Sub X n A) (I : Inv X pins σ H s) (ha : H a = some (.ins C dx fs)) (hsub : PySem.W.subIn X.K (.ref C) (.type "bool") = some false)
    (hsp : sp [.ref a, .bl b] H (fun v H' => (∃ b, v = .bl b) ∧ Q v H') E0) : wpAny (model X.prog X.w) A (richCompare .Eq (.bool b) (.ref a)) (fun w' s' => ∃ b H', w' = .bool b ∧ Inv X pins σ H' s' ∧ Q (.bl b) H') X.xe s := by
  obtain ⟨mA, J, _⟩ := ins_get I.hok ha
  obtain ⟨od, J, _⟩ := J.look
  obtain ⟨m, hF⟩ := I.fr
  have one : wpAny (model X.prog X.w) A (tryCompare (.ref a) "__eq__" (.bool b)) (fun r s' => ∃ v, r = some v ∧ ∃ b H', v = .bool b ∧ Inv X pins σ H' s' ∧ Q (.bl b) H') X.xe s := by
    unfold tryCompare
    refine wpAny_bind (PySem.W.ifBound_K I.kIn J hs hf (wpAny_mono (own_eq_call F hb sb I (x := .ref a) (y := .bl b) rfl rfl hsp) (fun v s' hv => ?_) fun _ _ e => e))
    obtain ⟨b', H', rfl, q⟩ := hv
    exact wpAny_pure ⟨_, rfl, b', H', rfl, q⟩
  have hT : s.TypeIs (.bool b) "bool" := rfl
  unfold richCompare
  simp only [hT.oneThing_none]
  refine wpAny_holding (wpAny_bind (wpAny_cRoomFor sb.room.units0 ?_))
  refine wpAny_bind (wpAny_typeOf hT (wpAny_bind (J.type.here ?_)))
  rw [if_pos (show ((Value.type "bool") != Value.ref C) = true from rfl)]
  refine wpAny_bind ((PySem.W.looks_subIn I.kIn hsub).here ?_)
  simp only [Bool.false_eq_true, if_false, Bool.not_false, if_true]
  have hda : s.heap.get? a = some (PySem.W.instObj C dx) := (show ObjOk _ _ _ _ a (.ins C dx fs) from I.hok a _ ha).2.2.2.1
  refine wpAny_bind (m := tryCompare (.bool b) _ _) (wpAny_tryCompare_declines hT PySem.F.slot_bool_eq (call_meets PySem.F.slot_bool_eq hT PySem.F.entry_int_eq (PySem.F.args_int_eq_2 _ _) (int_declines_plain b a _ _ _) ⟨hda, rfl, ?_⟩))
  refine wpAny_bind (m := tryCompare (.ref a) _ _) (wpAny_mono one (fun r s' z => ?_) fun _ _ e => e)
  obtain ⟨v, rfl, hq⟩ := z
  exact wpAny_pure hq
/-- x in the list at l, what stays true the while: Iv -/
theorem contains_loopG {prog : Program} {w : World} {A : Around} {R : Result → Shared → Prop} {l : Addr} {x : Value} (N : Nat) (e : Nat → Bool) (Iv : Shared → Prop)
    (ht : ∀ s, Iv s → ∃ items n dd sl, s.heap.get? l = some { cls := .type "list", dict := dd, data := .seq items n, slots := sl } ∧ items.size = N ∧
      ∀ (i : Nat) (h : i < items.size) (Q : Bool → Shared → Prop), (∀ s', Iv s' → Q (e i) s') → wpAny (model prog w) A.in1 (eqBool items[i] x) Q (fun er s' => R (.error er) s') s)
    (hR : ∀ s b, Iv s → (b = true ↔ ∃ i, i < N ∧ e i = true) → R (.ok (.ret (.bool b))) s) :
    ∀ (k i : Nat) (s : Shared), N - i = k → i ≤ N → (∀ j, j < i → e j = false) → Iv s →
      wpAny (model prog w) A.in1 (Builtin.«list.__contains__.loop» ⟨[.ref l, x, rawInt i], []⟩) (fun fin s' => match fin with | .done f => R (.ok f) s' | .again c' => c'.quiet = true ∧ codeAny (model prog w) A c' R s') (fun e s' => R (.error e) s') s := by
  intro k
  induction k with
  | zero =>
    intro i s hk hi hj I
    obtain ⟨items, n, dd, sl, hl, hN, _⟩ := ht s I
    have hin : i = N := by omega
    have fin := hR s false I ⟨fun z => Bool.noConfusion z, fun ⟨j, h1, h2⟩ => by rw [hj j (by omega)] at h2; cases h2⟩
    obtain ⟨hp, g, d, tk, os⟩ := s
    wp_walk using AutoSeq1.wpAny_loadPart' hl
    have hi : items[((i : Nat) : Int).toNat]? = none := by simp; omega
    rw [hi]
    wp_walk
    exact fin
  | succ k ih =>
    intro i s hk hi hj I
    obtain ⟨items, n, dd, sl, hl', hN, he⟩ := ht s I
    have hlt : i < items.size := by omega
    have heI := he i hlt
    obtain ⟨hp, g, d, tk, os⟩ := s
    wp_walk using AutoSeq1.wpAny_loadPart' hl'
    have hi2 : items[((i : Nat) : Int).toNat]? = some items[i] := by simp [hlt]
    rw [hi2]
    refine wpAny_bind (heI _ fun s' I' => ?_)
    cases hb : e i with
    | true =>
      have fin := hR s' true I' ⟨fun _ => ⟨i, by omega, hb⟩, fun _ => rfl⟩
      obtain ⟨hp, g, d, tk, os⟩ := s'
      wp_walk
      exact fin
    | false =>
      have nx := ih (i + 1) s' (by omega) (by omega) (fun j hj' => by
        rcases Nat.lt_succ_iff_lt_or_eq.mp hj' with z | z
        · exact hj j z
        · rw [z]; exact hb) I'
      have hc : ((i : Int) + 1) = ((i + 1 : Nat) : Int) := by push_cast; rfl
      obtain ⟨hp, g, d, tk, os⟩ := s'
      wp_walk
      rw [hc]
      exact ⟨plainId_quiet MeetsSeq.plain_contains_loop _, codeAny_builtin MeetsSeq.entry_contains_loop (by
        rw [Around.under_plainId MeetsSeq.plain_contains_loop _]
        exact nx)⟩
/-- the promise of «return isinstance(other, C)» -/
def spIsC (K : PySem.W.Frag) (C : Addr) : Sp := fun vs H Q _ => ∃ (a : Addr) (y : V) (t : Value) (b : Bool), vs = [.ref a, y] ∧ TyX K H y t ∧ PySem.W.kitOne K t (.ref C) = some b ∧ ∀ H', Same H H' → Q (.bl b) H'
structure UCls (K : PySem.W.Frag) (C f : Addr) : Prop where
  hs : PySem.W.findIn K (.ref C) "__eq__" = some (some (.ref f))
  hf : PySem.W.isFn K (.ref f) = true
  ty : ∀ (H : Hp) (a dx : Addr) (fs : List (Str × V)), H a = some (.ins C dx fs) → TyX K H (.ref a) (.ref C)
  kb : PySem.W.kitOne K (.type "bool") (.ref C) = some false
  kc : PySem.W.kitOne K (.ref C) (.ref C) = some true
  sb : PySem.W.subIn K (.ref C) (.type "bool") = some false
def isRefV : V → Bool
  | .ref _ => true
  | _ => false
theorem eqBool_bool {prog : Program} {w : World} {A : Around} {E : Value → Shared → Prop} {s : Shared} {b : Bool} {u : Addr} {Q : Bool → Shared → Prop} (h : wpAny (model prog w) A (richCompare .Eq (.bool b) (.ref u)) (fun v s' => ∃ r, v = .bool r ∧ Q r s') E s) : wpAny (model prog w) A (eqBool (.bool b) (.ref u)) Q E s := by
  unfold eqBool
  refine wpAny_holding ?_
  refine wpAny_ite_split (fun hab => by cases (eq_of_beq hab)) (fun _ => ?_)
  refine wpAny_bind (wpAny_mono h (fun v s' hv => ?_) fun _ _ x => x)
  obtain ⟨r, rfl, q⟩ := hv
  exact wpAny_truthy_bool q
theorem vals_at {xs : List V} {us : List Value} (h : Vals xs us) : ∀ {j : Nat} {v : V}, xs[j]? = some v → ∃ u, us[j]? = some u ∧ RelV v u := by
  induction h with
  | nil => intro j u e; cases e
  | cons r t ih =>
    intro j u e
    cases j with
    | zero => cases e; exact ⟨_, rfl, r⟩
    | succ j => exact ih e
def rInU (C : Addr) : R2 := fun x y H Q => ∃ u dx fs p zs, x = .ref u ∧ H u = some (.ins C dx fs) ∧ y = .ref p ∧ H p = some (.lst zs) ∧ (∀ z ∈ zs, (∃ b, z = .bl b) ∨ ∃ a dx fs, z = .ref a ∧ a ≠ u ∧ H a = some (.ins C dx fs)) ∧ ∀ H', Same H H' → Q (.bl (zs.any isRefV)) H'
theorem op_inU (U : UCls X.K C f) (F : FnOk X.prog X.w X.K X.mg X.base CX0 n f fd ps (spIsC X.K C)) (hb : Binds X.K fd ps []) (hr : Room (n + 1) X.A) : OpR X (compareOp .In) (rInU C) := by
  intro pins s σ H x y v u0 Q I rx ry h
  obtain ⟨u, dx, fs, p, zs, rfl, hu, rfl, hp, hz, q⟩ := h
  obtain rfl : v = Value.ref u := rx
  obtain rfl : u0 = Value.ref p := ry
  obtain ⟨z0, its, k0, r0, e0⟩ := I.hok p _ hp
  have hT : s.TypeIs (.ref p) "list" := ⟨_, e0, rfl⟩
  have sb : Sub X n X.A.in1 := (Sub.in1 ⟨hr, rfl⟩)
  show wpAny _ X.A (do return .bool (← contains (.ref p) (.ref u))) (EP X pins σ Q) X.xe s
  have len := r0.length
  have key : wpAny (model X.prog X.w) X.A.in1 (Builtin.«list.__contains__» ⟨[.ref p, .ref u], []⟩) (fun fin s' => match fin with | .done f => wants (fun v s' => ∃ b H', v = .bool b ∧ b = zs.any isRefV ∧ Inv X pins σ H' s' ∧ Same H H') X.xe (.ok f) s' | .again c' => c'.quiet = true ∧ codeAny (model X.prog X.w) X.A c' (wants (fun v s' => ∃ b H', v = .bool b ∧ b = zs.any isRefV ∧ Inv X pins σ H' s' ∧ Same H H') X.xe) s')
      (fun e s' => wants (fun v s' => ∃ b H', v = .bool b ∧ b = zs.any isRefV ∧ Inv X pins σ H' s' ∧ Same H H') X.xe (.error e) s') s := by
    have lp := contains_loopG (prog := X.prog) (w := X.w) (A := X.A) (R := wants (fun v s' => ∃ b H', v = .bool b ∧ b = zs.any isRefV ∧ Inv X pins σ H' s' ∧ Same H H') X.xe) (l := p) (x := .ref u) zs.length (fun i => (zs[i]?.map isRefV).getD false) (fun s' => ∃ H', Inv X pins σ H' s' ∧ Same H H')
      (fun s' ⟨H', I', m⟩ => by
        obtain ⟨z1, its, k1, r0, e1⟩ := I'.hok p _ (m _ _ hp)
        have len := r0.length
        refine ⟨its.toArray, k1, _, _, e1, by rw [List.size_toArray]; omega, fun i hi Q' hQ => ?_⟩
        have hi' : i < its.length := by simpa using hi
        have hiz : i < zs.length := by omega
        have hzi : zs[i]? = some zs[i] := List.getElem?_eq_getElem hiz
        obtain ⟨w', hw', rw'⟩ := vals_at r0 hzi
        have ew : its.toArray[i] = w' := by
          have : its[i]? = some its[i] := List.getElem?_eq_getElem hi'
          rw [this] at hw'
          simpa using hw'
        rw [ew]
        have eb : ((zs[i]?.map isRefV).getD false) = isRefV zs[i] := by rw [hzi]; rfl
        rw [eb] at hQ
        rcases hz _ (List.getElem_mem hiz) with ⟨b, ez⟩ | ⟨a, dxa, fsa, ez, nau, ha⟩
        · rw [ez] at rw' hQ
          obtain rfl : w' = .bool b := rw'
          refine eqBool_bool (wpAny_mono (rc_bool_own F U.hs U.hf hb sb I' (m _ _ hu) U.sb (Q := fun v H'' => v = .bl false ∧ Same H H'') ⟨u, .bl b, _, false, rfl, .base (.bl b), U.kb, fun H'' m' => ⟨⟨_, rfl⟩, rfl, m.trans m'⟩⟩) (fun r s'' hq => ?_) fun _ _ x => x)
          obtain ⟨b', H'', rfl, I'', eb', m''⟩ := hq
          cases eb'
          exact ⟨false, rfl, hQ s'' ⟨H'', I'', m''⟩⟩
        · rw [ez] at rw' hQ
          obtain rfl : w' = .ref a := rw'
          refine GQ.eqBool_refG nau (wpAny_mono (rc_own F U.hs U.hf hb sb I' (y := .ref u) rfl (m _ _ ha) (U.ty _ _ _ _ (m _ _ hu)) (by simp [PySem.W.notFirst]) (Q := fun v H'' => v = .bl true ∧ Same H H'') ⟨a, .ref u, _, true, rfl, U.ty _ _ _ _ (m _ _ hu), U.kc, fun H'' m' => ⟨⟨_, rfl⟩, rfl, m.trans m'⟩⟩) (fun r s'' hq => ?_) fun _ _ x => x)
          obtain ⟨b', H'', rfl, I'', eb', m''⟩ := hq
          cases eb'
          exact ⟨true, rfl, hQ s'' ⟨H'', I'', m''⟩⟩)
      (fun s' b ⟨H', I', m⟩ hb' => ⟨b, H', rfl, by
        rw [Bool.eq_iff_iff, hb', List.any_eq_true]
        constructor
        · rintro ⟨i, hiz, e⟩
          rw [List.getElem?_eq_getElem hiz] at e
          exact ⟨zs[i], List.getElem_mem hiz, e⟩
        · rintro ⟨z, hz', e⟩
          obtain ⟨i, hi, rfl⟩ := List.mem_iff_getElem.mp hz'
          refine ⟨i, hi, ?_⟩
          rw [List.getElem?_eq_getElem hi]
          exact e, I', m⟩)
      zs.length 0 s (Nat.sub_zero _) (Nat.zero_le _) (fun j hj => absurd hj (Nat.not_lt_zero _)) ⟨H, I, fun _ _ z => z⟩
    obtain ⟨hp', g, d, tk, os⟩ := s
    wp_walk
    exact ⟨plainId_quiet MeetsSeq.plain_contains_loop _, codeAny_builtin MeetsSeq.entry_contains_loop (by
      rw [Around.under_plainId MeetsSeq.plain_contains_loop _]
      exact lp)⟩
  refine wpAny_bind (wpAny_contains_slot hT PySem.F.slot_list_contains (wpAny_mono (wpAny_call (codeAny_call_builtin PySem.F.slot_list_contains.plain PySem.F.entry_list_contains (PySem.F.slot_list_contains.check _ _ _ _ _ _ _ _ hT (PySem.F.args_list_contains_2 _ _) key))) (fun v s' hv => ?_) fun _ _ e => e))
  obtain ⟨b, H', rfl, rfl, I', m⟩ := hv
  exact wpAny_truthy_bool (wpAny_pure ⟨.bl _, H', I', rfl, q H' m⟩)
end
end XR

/-! list(d.values()) -/
namespace XR
open PySem PySem.Spec PyProof.Rows L2
theorem vals_snd : ∀ {kvs : List (Key × V)} {vs : List (Key × Value)}, KV kvs vs → Vals (kvs.map Prod.snd) (vs.map Prod.snd) := by
  intro kvs vs h
  unfold KV at h
  induction h with
  | nil => exact .nil
  | cons r t ih => exact .cons r.2 ih
def tListVals (te : TE) : TE := fun σ H Q => te σ H fun x H1 => ∃ (d : Addr) (kvs : List (Key × V)), x = .ref d ∧ H1 d = some (.dK kvs) ∧ ∀ p, H1 p = none → Q (.ref p) (upd H1 p (.lst (kvs.map Prod.snd)))
theorem pe_listVals {X : Cx} {e : Expr} {te : TE} {p apos cpos pos : Pos} (hc : X.calm = true) (he : PE X e te) (hg : Gl X "list") (hm : X.mg "list" = none) (hv : bootBuiltins "list" = some (.type "list")) (hbase : attributeBase e "values" X.env (eval e X.env) = eval e X.env := by rfl) (hline : (apos.endLine == cpos.line) = true := by rfl)
    (hs : starEach [.Call (.Attribute e "values" apos) [] [] cpos] X.env = (false, eval (.Call (.Attribute e "values" apos) [] [] cpos) X.env) :: starEach [] X.env := by rfl) :
    PE X (.Call (.Name "list" p) [.Call (.Attribute e "values" apos) [] [] cpos] [] pos) (tListVals te) := by
  refine ⟨fun pins s σ H Q I hq => ?_⟩
  refine wpAny_Call_Name_kw (ld_blt I hg hm hv ?_)
  refine PyProof.Rows.callWith_type1 ?_ hs rfl
  rw [hs]
  show wpAny _ _ (spliced ((false, eval (.Call (.Attribute e "values" apos) [] [] cpos) X.env) :: backTo pos (starEach [] X.env))) _ _ s
  refine Calls.spliced_cons ?_
  refine wpAny_Call_method (T := "dict") (id := "dict.values") hbase rfl hline F.plainAttrs_dict F.slot_dict_values F.type_dict_values (thn (he.run pins s σ H _ I hq) fun u s1 ⟨x, H1, I1, rx, d, kvs, ex, hd, q⟩ => ?_)
  subst ex
  obtain rfl : u = Value.ref d := rx
  obtain ⟨hz, hs0, vs, kv, hdo⟩ := I1.hok d _ hd
  obtain ⟨ep, hat⟩ := hdo.dictAt
  have lk : kvs.length = vs.length := Paired.length kv
  have I2 : Inv X pins σ H1 { s1 with heap := s1.heap.push { cls := .type "dict_values", data := .fields #[.ref d] } } := I1.kept (t' := s1.toks) fun b ob q => Heap.get?_push_of_some _ q
  refine ⟨hdo.typeIs, hdo.mapOf.noDict, ?_⟩
  show wpAny _ _ (callWith cpos (.builtin "dict.values") [.ref d] [] []) _ X.xe s1
  refine method_meetsIn F.slot_dict_values F.entry_dict_values rfl (PySem.evalArgs_none ⟨rfl, hdo.typeIs, F.args_dict_values_1 _, _, meets_dict_values (mixKind X.prog X.w) d hs0, ⟨vs, hdo⟩, ?_⟩)
  refine Calls.spliced_nil ?_
  refine PySem.W.kdl_call (PySem.W.kdl_values (knd := mixKind X.prog X.w) (kvs := vs) (ep := ep)) (I1.ok.hd hc) ⟨⟨_, Heap.get?_push_size _ rfl, rfl, rfl⟩, hat.push _⟩ (by omega) fun h' tk acc c hk hS hacc => ?_
  have ea : acc.toList = vs.map Prod.snd := by
    refine List.ext_getElem (by rw [List.length_map, Array.length_toList, hacc.1]) fun i h1 h2 => ?_
    have hi : i < acc.size := by simpa using h1
    obtain ⟨k, hk'⟩ := hacc.2 i acc[i] (Array.getElem?_eq_getElem hi)
    have hv : i < vs.length := by simpa using h2
    rw [List.getElem?_eq_getElem hv] at hk'
    rw [Array.getElem_toList, List.getElem_map, Option.some.inj hk']
  have rv : Vals (kvs.map Prod.snd) acc.toList := by
    rw [ea]
    exact vals_snd kv
  refine ⟨.ref _, _, I2.laid (t' := tk) hk (Nat.le_refl _) (show ObjOk X.prog X.w _ h' _ (.lst (kvs.map Prod.snd)) from ⟨by rw [List.length_map]; exact hz, acc.toList, c, rv, by rw [Array.toArray_toList]; exact hS⟩), rfl, q _ (I2.hok.fresh (Nat.le_refl _))⟩
end XR

/-! sorted texts: the one order -/
namespace VT
open PySem PyProof.Rows
def leS (a b : Str) : Prop := a.cps.toList ≤ b.cps.toList
theorem leS_of {a b : Str} (h : (!PySem.Spec.ltCps b.cps.toList a.cps.toList) = true) : leS a b := by
  rw [ltCps_eq] at h
  have : ¬ b.cps.toList < a.cps.toList := by simpa using h
  exact List.not_lt.mp this
theorem leS_trans {a b c : Str} (h1 : leS a b) (h2 : leS b c) : leS a c := List.le_trans h1 h2
theorem leS_anti {a b : Str} (h1 : leS a b) (h2 : leS b a) : a = b := by
  have h := List.le_antisymm h1 h2
  cases a
  cases b
  congr 1
  exact Array.toList_inj.mp h
theorem rising_pw : ∀ (p : Str) (l : List Str), risingS p l = true → (p :: l).Pairwise leS
  | p, [], _ => List.pairwise_singleton _ _
  | p, x :: r, h => by
    rw [risingS, Bool.and_eq_true] at h
    have ih := rising_pw x r h.2
    have hx := leS_of h.1
    refine List.pairwise_cons.mpr ⟨fun y hy => ?_, ih⟩
    rcases List.mem_cons.mp hy with rfl | hy
    · exact hx
    · exact leS_trans hx ((List.pairwise_cons.mp ih).1 y hy)
theorem sorted_pw : ∀ (l : List Str), sortedS l = true → l.Pairwise leS
  | [], _ => List.Pairwise.nil
  | x :: r, h => rising_pw x r h
theorem sorted_one {ys zs ks ls : List Str} (h1 : ys.Perm ks) (s1 : sortedS ys = true) (h2 : zs.Perm ls) (s2 : sortedS zs = true) : ys = zs ↔ ks.Perm ls := by
  constructor
  · intro e
    exact h1.symm.trans (e ▸ h2)
  · intro h
    exact List.Perm.eq_of_pairwise (fun a b _ _ x y => leS_anti x y) (sorted_pw _ s1) (sorted_pw _ s2) (h1.trans (h.trans h2.symm))
/-- == of two lists of texts -/
theorem eqv_strs : ∀ (ys zs : List Str), PyData.eqvAll (ys.map .str) (zs.map .str) = decide (ys = zs)
  | [], [] => by simp [PyData.eqvAll]
  | [], z :: zs => by simp [PyData.eqvAll]
  | y :: ys, [] => by simp [PyData.eqvAll]
  | y :: ys, z :: zs => by
    have := eqv_strs ys zs
    simp only [List.map_cons, PyData.eqvAll, PyData.eqv, this]
    rw [Bool.eq_iff_iff]
    simp
end VT

/-! C() of an own class without an __init__ -/
namespace XR
open PySem PySem.Spec PyProof.Rows L2
structure Bare (K : PySem.W.Frag) (mg : Str → Option Value) (x : Str) (C : Addr) : Prop where
  makes : PySem.W.makesIn K C = true
  ini : PySem.W.findIn K (.ref C) "__init__" = some (some (.builtin "object.__init__"))
  kp : PySem.W.keepIn K (.ref C) = true
  g : mg x = some (.ref C)
def tBare (C : Addr) : TE := fun _ H Q => ∀ a dx, H a = none → H dx = none → dx ≠ a → Q (.ref a) (upd (upd H dx (.own a)) a (.ins C dx []))
theorem pe_bare {X : Cx} {C : Addr} {x : Str} {p pos : Pos} (B : Bare X.K X.mg x C) (hg : Gl X x) (hdb : (x == ("__debug__" : Str)) = false := by decide) : PE X (.Call (.Name x p) [] [] pos) (tBare C) := by
  refine ⟨fun pins s σ H Q I h => ?_⟩
  refine wpAny_Call_Name_kw (ld_glob I hg B.g ?_ hdb)
  refine PySem.W.callWith_K0 I.kIn B.kp ?_
  have hq := h (s.heap.objs.size + 1) s.heap.objs.size (I.hok.fresh (Nat.le_succ _)) (I.hok.fresh (Nat.le_refl _)) (Nat.ne_of_lt (Nat.lt_succ_self _))
  have I2 := Inv.made (C := C) I
  have Y := PySem.W.makes_of (M := model X.prog X.w) I.kIn B.makes
  refine wpAny_call (make_map0 (R := wants (EP X pins σ Q) X.xe) I.kIn B.makes B.ini (fun self => PySem.W.Looks.of_pure (PySem.W.oi_bind self)) ?_)
  have hx : ((s.heap.push PySem.W.emptyDict).push (PySem.W.instObj C s.heap.objs.size)).get? (s.heap.objs.size + 1) = some (PySem.W.instObj C s.heap.objs.size) := by
    have := Heap.get?_push_size (s.heap.push PySem.W.emptyDict) (o := PySem.W.instObj C s.heap.objs.size) rfl
    rwa [Heap.size_push] at this
  have t1 : PySem.W.Looks (model X.prog X.w) ((s.heap.push PySem.W.emptyDict).push (PySem.W.instObj C s.heap.objs.size)) (typeOf (.ref (s.heap.objs.size + 1))) (.ref C) := (PySem.W.Looks.ld hx).andThen .now
  have t2 : PySem.W.Looks (model X.prog X.w) ((s.heap.push PySem.W.emptyDict).push (PySem.W.instObj C s.heap.objs.size)) (isInstance (.ref (s.heap.objs.size + 1)) (.type "object")) true := t1.andThen (Y.top.keeps fun b o e => Heap.get?_push_of_some _ (Heap.get?_push_of_some _ e))
  refine codeAny_call_builtin PySem.W.oi_plain PySem.W.entry_oi (@PySem.W.check_slot (model X.prog X.w) _ _ _ "object.__init__" "object" "__init__" (.ref (s.heap.objs.size + 1)) [] [] _ PySem.W.oi_kind PySem.W.oi_split t2 (PySem.W.oi_args (.ref (s.heap.objs.size + 1))) ?_)
  rw [PySem.W.oi_run]
  exact wpAny_pure (And.intro rfl ⟨V.ref (s.heap.objs.size + 1), _, I2, rfl, hq⟩)
end XR

/-! list comprehensions whose item may raise -/
namespace XR
open PySem PySem.Spec PyProof.Rows L2
/-- behind the block: as the library has it where it ended well; with the block's own frame where it did not -/
def cpost (M : Model) (A : Around) (E : Value → Shared → Prop) (use : Option (Value → Sem Unit)) (Q : Value → Shared → Prop) (acc : Value) (ce : Env) : Result → Shared → Prop
  | .ok f, z => compPost M A E use Q acc ce.locals (.ok f) z
  | .error x, z => ∃ m, z.heap.Ns ce.locals m ∧ ∀ hp, Heap.SameBut ce.locals z.heap hp → wpAny M A (passOn "comprehension.variables-let-go" x ce : Sem Value) (fun _ _ => False) E { z with heap := hp }
section
variable {M : Model} {A : Around} {E : Value → Shared → Prop} {env : Env} {s : Shared}
theorem comp_blk {e : Expr} {scope : Scope} {pos : Pos} {new fst : Sem Value} {g : Comprehension} {gs : List Comprehension} {cl : List (Str × Addr)} {use : Option (Value → Sem Unit)} {Q : Value → Shared → Prop}
    (h1 : clausesOf e = g :: gs) (h2 : ∀ x, foldedSetIterable g.iter env x = pure x) (h3 : closureFor scope env = pure cl) (h4 : scope.kind = .function) (h5 : ∀ x ∈ scope.names, x.2 = .local → scope.names.lookup x.1 = some .local)
    (h : wpAny M A fst (fun x sa => wpAny M A (pyIter x) (fun it sb => wpAny M A new (fun acc sc => wpAny M A (newFunctionEnv scope env.globals cl [] env.qual none .none (some env)) (fun ce sd =>
        codeAny M A (.compStart e 0 it acc { ce with scope := relabel scope env }) (cpost M A E use Q acc { ce with scope := relabel scope env }) sd) E sc) E sb) E sa) E s) :
    wpAny M A (comprehension e scope env pos new false fst use) Q E s := by
  unfold comprehension
  rw [h3, h1]
  refine wpAny_bind (wpAny_mono h (fun x sa ha => ?_) fun _ _ z => z)
  refine wpAny_bind (wpAny_standAt (wpAny_bind (wpAny_of_eq (h2 x) (wpAny_bind (wpAny_holding (wpAny_mono ha (fun it sb hb => ?_) fun _ _ z => z))))))
  refine wpAny_standIf (wpAny_bind (wpAny_mono hb (fun acc sc hc => ?_) fun _ _ z => z))
  refine wpAny_bind (wpAny_pure (wpAny_bind (wpAny_mono hc (fun ce sd hd => ?_) fun _ _ z => z)))
  dsimp only
  have kl : ∀ (vs : List (Str × NameKind)), (∀ x ∈ vs, x ∈ scope.names) → ∀ x ∈ vs, x.2 = .local → Env.kindOf { ce with scope := relabel scope env } x.1 = some .local := fun vs sub x hx hl =>
    lookup_relabel_local (h5 x (sub x hx) hl)
  have s1 : ∀ x ∈ (scope.names.filter fun x => (x.2 == .local || x.2 == .cell) && x.1 != (".0" : Str)).reverse, x ∈ scope.names := fun x hx => (List.mem_filter.mp (List.mem_reverse.mp hx)).1
  have s2 : ∀ x ∈ (scope.names.filter fun x => (x.2 == .local || x.2 == .cell) && x.1 != (".0" : Str)).reverse.drop 1 ++ (scope.names.filter fun x => (x.2 == .local || x.2 == .cell) && x.1 != (".0" : Str)).reverse.take 1, x ∈ scope.names := fun x hx => by
    rcases List.mem_append.mp hx with z | z
    · exact s1 x (List.mem_of_mem_drop z)
    · exact s1 x (List.mem_of_mem_take z)
  refine wpAny_holding (wpAny_bind (wpAny_attempt (wpAny_holding (wpAny_run (codeAny_mono hd fun r z hr => ?_)))))
  cases r with
  | error x =>
    obtain ⟨m, hn, hk⟩ := hr
    exact wpAny_bind (wpAny_holding (wpAny_comp_letGo (cenv := { ce with scope := relabel scope env }) h4 _ z m (kl _ s1) hn fun hp _ _ hb => wpAny_mono (hk hp hb) (fun _ _ f => f.elim) fun _ _ y => y))
  | ok f =>
    cases use with
    | none =>
      obtain ⟨m, hn, hk⟩ := hr
      exact wpAny_bind (wpAny_holding (wpAny_comp_letGo (cenv := { ce with scope := relabel scope env }) h4 _ z m (kl _ s1) hn fun hp _ _ hb => wpAny_pure (hk hp hb)))
    | some u =>
      refine wpAny_bind (wpAny_rule (wpAny_bind (wpAny_holding (wpAny_mono hr (fun _ z2 hk2 => ?_) fun _ _ y => y))))
      obtain ⟨m, hn, hk⟩ := hk2
      exact wpAny_bind (wpAny_comp_letGo (cenv := { ce with scope := relabel scope env }) h4 _ z2 m (kl _ s2) hn fun hp _ _ hb => wpAny_pure (hk hp hb))
end
end XR

/-! an exception that leaves the block of a comprehension -/
namespace XR
open PySem PySem.Spec PyProof.Rows L2
theorem ff_of {h h' B B' : Heap} : ∀ {l : List Env}, h.FunFrames B l → (∀ b ∈ frs l, ∀ o, h.get? b = some o → (∀ vs, o.data ≠ .fields vs) → ∃ o', h'.get? b = some o' ∧ o'.data = o.data) → (∀ b ∈ frs l, B'.get? b = none) → h'.FunFrames B' l
  | [], _, _, _ => trivial
  | e :: l, ⟨k, ⟨L, o, f, _, q, d⟩, r⟩, hk, hn => by
    have mL : L ∈ frs (e :: l) := List.mem_filterMap.mpr ⟨e, List.mem_cons_self, f⟩
    have sub : ∀ b ∈ frs l, b ∈ frs (e :: l) := fun b hb => by
      obtain ⟨x, hx, y⟩ := List.mem_filterMap.mp hb
      exact List.mem_filterMap.mpr ⟨x, List.mem_cons_of_mem _ hx, y⟩
    obtain ⟨o', q', d'⟩ := hk L mL o q d
    exact ⟨k, ⟨L, o', f, hn L mL, q', fun vs => by rw [d']; exact d vs⟩, ff_of r (fun b hb => hk b (sub b hb)) fun b hb => hn b (sub b hb)⟩
section
variable {X : Cx} {pins pins' : List (Addr × Obj)} {σ σ' : L2.St} {H3 H1 : Hp} {s3 s1 z : Shared} {scope : Scope} {ce : Env} {fp : List Addr} {xe : Value → Shared → Prop} {E : XK} {use : Option (Value → Sem Unit)} {Qf : Value → Shared → Prop} {acc u : Value}
theorem blk_raise (hs : X.stack = X.env :: X.outer) (hf : X.env.frame = some X.env.locals) (tk : Takes X (fun cls d _ H => E cls d H)) (I3 : Inv X pins σ H3 s3) (cl : s3.heap.objs.size ≤ ce.locals) (cf : ce.frame = X.env.frame)
    (f3 : ∀ b ∈ fp, FpOk X pins H3 b) (I1 : Inv ((X.blk s3 H3 scope ce fp).wish xe) pins' σ' H1 s1) (c : L2.CX X.prog X.w X.stack H1 s1 E u z) :
    notedBy (model X.prog X.w) X.A ce (fun e y => cpost (model X.prog X.w) X.A X.xe use Qf acc ce (.error e) y) u z := by
  obtain ⟨a, B, H2, cls, d, rfl, fl, hok, ub, na, os, ag, hE⟩ := c
  have hfr : X.A.frames = some (X.env :: X.outer) := by rw [I3.ok.frames, hs]
  have en : noteFrame (.ref a) ce = noteFrame (.ref a) X.env := by
    unfold noteFrame PySem.frameOf
    rw [cf]
  show wpAny (model X.prog X.w) X.A (noteFrame (.ref a) ce) _ _ z
  rw [en]
  have fl' := fl
  rw [hs] at fl'
  refine HandSPX.looks_onZ Zc.steady hfr hf fl' fun h2 held up2 => ?_
  rw [← hs] at held
  obtain ⟨st2, nB, ff2, oe, vs, T, oT, ts, he, hz, hd, h1, hnT, hTe, hT, hdT, h3f⟩ := held
  have bs : Un (frs X.stack) fp H3 H1 s3.heap s1.heap := I1.base
  have nC : H1 ce.locals = none := I1.free
  have old : ∀ b, b < s3.heap.objs.size → b ≠ ce.locals := fun b hb q => by
    rw [q] at hb
    exact absurd (Nat.lt_of_lt_of_le hb cl) (Nat.lt_irrefl _)
  have cF : ce.locals ∉ frs X.stack := fun hm => by
    rcases List.mem_cons.mp (I3.stkSub _ hm) with q | q
    · exact old _ I3.lt q.symm
    · exact I3.nofs cl q
  obtain ⟨m, ⟨oC, es, ep, gC, rC⟩, _⟩ := I1.loc
  have gC : s1.heap.get? ce.locals = some oC := gC
  have BC : B.get? ce.locals = some oC := ub.keep _ _ gC nC cF
  have aC : a ≠ ce.locals := fun q => by rw [q, BC] at nB; cases nB
  have TC : T ≠ ce.locals := fun q => by rw [q, BC] at hnT; cases hnT
  refine ⟨m, ⟨oC, es, ep, st2 _ _ BC, rC⟩, fun h3 sb => ?_⟩
  have he3 : h3.get? a = some oe := (sb.2 a aC).trans he
  have hT3 : h3.get? T = some oT := (sb.2 T TC).trans hT
  have z3 : 3 < ts.size := (Array.getElem?_eq_some_iff.mp h3f).1
  unfold PySem.passOn
  refine wpAny_bind (wpAny_field he3 hd h1 ?_)
  rw [if_neg (show ¬ ((Value.ref T == Value.none) = true) from by simp)]
  unfold setFlight
  rw [cf, hf]
  refine wpAny_bind (wpAny_bind (wpAny_field he3 hd h1 ?_))
  rw [if_pos (show (Value.ref T != Value.none) = true from by simp)]
  refine wpAny_setField hT3 hdT z3 (wpAny_throw ?_)
  generalize hh4 : (h3.update T (Obj.mapFields (·.setIfInBounds 3 ((some X.env.locals : Option Addr).elim Value.none fun f => rawInt f)))) = h4
  have o4 : ∀ b, b ≠ T → h4.get? b = h3.get? b := fun b hb => by rw [← hh4]; exact Heap.get?_update_other _ _ (Ne.symm hb)
  have T4 : h4.get? T = some (oT.mapFields (·.setIfInBounds 3 (rawInt X.env.locals))) := by
    rw [← hh4]
    exact Heap.get?_update_self _ hT3 (Obj.isFreed_of_fields (Obj.data_mapFields hdT _))
  -- the ground without the block's names
  generalize hB' : PySem.W.hideAll B [ce.locals] = B'
  have bB : ∀ b o, B.get? b = some o → b ≠ ce.locals → B'.get? b = some o := fun b o e n => by rw [← hB']; exact PySem.W.hideAll_get _ e fun q => n (List.mem_singleton.mp q)
  have Bb : ∀ b o, B'.get? b = some o → B.get? b = some o ∧ b ≠ ce.locals := fun b o e => by
    rw [← hB'] at e
    refine ⟨PySem.W.of_hideAll _ e, fun q => ?_⟩
    rw [q, PySem.W.hideAll_none [ce.locals] (List.mem_singleton.mpr rfl)] at e
    cases e
  have B'none : ∀ b, B.get? b = none → B'.get? b = none := fun b e => by
    cases q : B'.get? b with
    | none => rfl
    | some o => rw [(Bb b o q).1] at e; cases e
  have st4 : ∀ b o, B'.get? b = some o → h4.get? b = some o := fun b o e => by
    obtain ⟨e1, n1⟩ := Bb b o e
    have nT : b ≠ T := fun q => by rw [q, hnT] at e1; cases e1
    rw [o4 b nT]
    exact (sb.2 b n1).trans (st2 b o e1)
  -- the frames
  have fr4 : ∀ b ∈ frs X.stack, h4.get? b = h2.get? b := fun b hb => by
    obtain ⟨_, o, e, hnf⟩ := ff2.mem hb
    have nT : b ≠ T := fun q => by
      rw [q, hT] at e
      cases e
      exact hnf _ hdT
    rw [o4 b nT]
    exact sb.2 b fun q => cF (q ▸ hb)
  obtain ⟨G, g1, g2⟩ := restrict h4 fun b => (B'.get? b).isSome || decide (b ∈ frs X.stack)
  have gB : ∀ b o, B'.get? b = some o → G.get? b = some o := fun b o e => by
    rw [g1 b (by simp [e])]
    exact st4 b o e
  have gF : ∀ b ∈ frs X.stack, G.get? b = h2.get? b := fun b hb => by
    rw [g1 b (by simp [hb])]
    exact fr4 b hb
  have og : ∀ b o, G.get? b = some o → h4.get? b = some o ∧ ((∃ o', B'.get? b = some o') ∨ b ∈ frs X.stack) := fun b o e => by
    cases q : ((B'.get? b).isSome || decide (b ∈ frs X.stack)) with
    | false =>
      rw [g2 b q] at e
      cases e
    | true =>
      rw [g1 b q] at e
      refine ⟨e, ?_⟩
      rcases Bool.or_eq_true_iff.mp q with r | r
      · exact .inl (Option.isSome_iff_exists.mp r)
      · exact .inr (of_decide_eq_true r)
  have slt : ∀ b o, s3.heap.get? b = some o → b ∈ frs X.stack → b ∉ fp → ∃ sl, G.get? b = some { o with slots := sl } := fun b o e hb hx => by
    obtain ⟨_, o0, e0, hnf⟩ := I3.stack.mem hb
    rw [e] at e0
    cases e0
    obtain ⟨sl, e1⟩ := bs.slot b o e (I3.stkFree b hb) hb hx
    obtain ⟨sl2, e2⟩ := ub.slot b _ e1 hb
    obtain ⟨sl3, e3⟩ := up2 b _ e2 hnf
    exact ⟨sl3, by rw [gF b hb]; exact e3⟩
  have un : Un (frs X.stack) fp H3 H2 s3.heap G := by
    refine ⟨fun b o e n hb hx => ?_, fun b o e n hb hx => slt b o e hb hx, fun b o e n hx => ?_, fun b o e hx => ?_, fun b xs e => ub.tups b xs (bs.tups b xs e), fun b o xs e => ub.frzs b o xs (bs.frzs b o xs e), fun b ps e => ?_⟩
    · exact gB b o (bB b o (ub.keep b o (bs.keep b o e n hb hx) (bs.free b o e n hx) hb) (old b (Heap.lt_size e)))
    · obtain ⟨sl, e1⟩ := bs.any e n hx
      exact ub.free b _ e1 (bs.free b o e n hx)
    · by_cases hb : b ∈ frs X.stack
      · obtain ⟨sl, e1⟩ := slt b o e hb hx
        exact ⟨_, e1⟩
      · obtain ⟨o1, e1⟩ := bs.there b o e hx
        obtain ⟨o2, e2⟩ := ub.there b o1 e1 hb
        exact ⟨o2, gB b o2 (bB b o2 e2 (old b (Heap.lt_size e)))⟩
    · obtain ⟨m1, e1⟩ := bs.tbls b ps e
      obtain ⟨m2, e2⟩ := ub.tbls b _ e1
      exact ⟨m1 ++ m2, by rw [e2]; simp⟩
  have C2 : H2 ce.locals = none := ub.free _ _ gC nC
  have hokG : HOk X.prog X.w H2 G := fun b o q => (hok b o q).stay (fun e w' he' r => gB e w' (bB e w' r fun y => by
    rcases he' with he' | he'
    · rw [← he', y, C2] at q; cases q
    · rw [y, C2] at he'; cases he')) (fun _ r => r) fun _ _ r => r
  have IG : Inv X pins σ H2 { z with heap := G } := I3.call' (ch := fp) (s' := { z with heap := G }) (os.trans I1.os) un hokG ag fun b hb => ⟨(f3 b hb).2.2.2.1, (f3 b hb).2.1, (f3 b hb).2.2.2.2.1, (f3 b hb).2.2.2.2.2⟩
  refine tk _ _ ⟨a, B', { z with heap := G }, pins, σ, H2, cls, d, rfl, IG, fun b o e hb => ?_, Heap.UpToSlots.of_keeps fun b o e => (og b o e).1, .inr (.inr ⟨st4, B'none a nB, ?_, ?_⟩), na, rfl, ag, hE⟩
  · rcases (og b o e).2 with ⟨o', q⟩ | q
    · have e2 := gB b o' q
      have e3 : G.get? b = some o := e
      rw [e2] at e3
      cases e3
      exact q
    · exact absurd q hb
  · exact ff_of ff2 (fun b hb o e _ => ⟨o, (fr4 b hb).trans e, rfl⟩) fun b hb => B'none b (ff2.mem hb).1
  · refine ⟨oe, vs, T, _, _, (o4 a (Ne.symm hTe)).trans he3, hz, hd, h1, B'none T hnT, hTe, T4, Obj.data_mapFields hdT _, ?_⟩
    simp [z3]
end
end XR

/-! the rules: [e for x in xs], e may raise -/
namespace XR
open PySem PySem.Spec PyProof.Rows L2
section
variable {X : Cx} {E : XK}
/-- an expression of a block: what its calls let out is the def's wish -/
def PEX (X : Cx) (E : XK) (scope : Scope) (e : Expr) (t : TE) : Prop :=
  ∀ (s : Shared) (H : Hp) (C : Addr) (cl : List (Str × Addr)) (fp : List Addr) (xe : Value → Shared → Prop), (∀ σ, PassesAt (L2.CX X.prog X.w) ((X.blk s H scope (compEnvC scope cl C X.env) fp).wish xe) σ E) → PE ((X.blk s H scope (compEnvC scope cl C X.env) fp).wish xe) e t
theorem lcx_core {pins : List (Addr × Obj)} {s : Shared} {σ : L2.St} {H : Hp} {Q : VK} {e tg it : Expr} {ifs : List Expr} {scope : Scope} {own : List (Str × Nat)} {pos pos' : Pos} {wi : TI} {g : TG} {tt : TT} {te : TE} {use : Option (Value → Sem Unit)} {Qf : Value → Shared → Prop}
    (hc : X.calm = true) (hs : X.stack = X.env :: X.outer) (hf : X.env.frame = some X.env.locals) (tk : Takes X (fun cls d _ H => E cls d H)) (hN : X.N.Nodup) (I : Inv X pins σ H s) (hi : PI X tg it wi) (ok : BlkOk X.N X.env.scope scope own)
    (hg : ∀ s H C cl fp, PG (X.blk s H scope (compEnvC scope cl C X.env) fp) tg g) (ht : ∀ s H C cl fp, PTs (X.blk s H scope (compEnvC scope cl C X.env) fp) ifs tt) (he : PEX X E scope e te) (hfs : ∀ x, foldedSetIterable it X.env x = pure x)
    (rd : tLc wi g tt te (own.map (·.2)) σ H Q)
    (hend : ∀ D C z m H', Inv X pins σ H' z → Q (.ref D) H' → z.heap.Ns C m → FpOk X pins H' C → compPost (model X.prog X.w) X.A X.xe use Qf (.ref D) C (.ok .next) z) :
    wpAny (model X.prog X.w) X.A (comprehension (.ListComp e [⟨tg, it, ifs, 0⟩] scope pos) scope X.env pos' (newList []) false (eval it X.env) use) Qf X.xe s := by
  have cells : ∀ y ∈ scope.names, y.2 = .free → ∃ c, X.env.cells.lookup y.1 = some c := fun y hy q => (ok.free y hy q).elim (fun k => I.ok.has _ (.inl k)) fun k => I.ok.has _ (.inr k)
  refine comp_blk (use := use) rfl hfs (closure_ok cells) ok.kind (fun y hy q => by rw [ok.uniq y hy, q]) (thn (hi.run pins s σ H _ I rd) fun v0 z1 k1 => thn k1 fun v1 z2 k2 => ?_)
  obtain ⟨ia, fp, tn, J, H2, rfl, I2, T, t2, p2, q⟩ := k2
  refine wpAny_newObj_type (newEnv_comp ?_) (by show 0 ≤ sizeLine; decide)
  have below : ∀ b ∈ fp, b < z2.heap.objs.size := fun b hb => let ⟨_, r, _⟩ := T.obj _ _ t2 b hb; Heap.lt_size r
  generalize hD : z2.heap.objs.size = D at below
  have nD : H2 D = none := I2.hok.fresh (Nat.le_of_eq hD)
  obtain ⟨W, ⟨n0, w0⟩, turn⟩ := q D nD
  generalize hz3 : ({ z2 with heap := z2.heap.push { cls := .type "list", data := .seq ([] : List Value).toArray } } : Shared) = z3
  have hp3 : z3.heap = z2.heap.push { cls := .type "list", data := .seq ([] : List Value).toArray } := by rw [← hz3]
  have I3 : Inv X pins σ (upd H2 D (.lst [])) z3 := by
    rw [← hz3]
    refine I2.laid (t' := z2.toks) (fun b o r => Heap.get?_push_of_some _ r) (Nat.le_of_eq hD) ⟨Nat.zero_le _, [], 0, .nil, ?_⟩
    rw [← hD]
    exact Heap.get?_push_size _ rfl
  have fps : ∀ b ∈ fp, FpOk X pins (upd H2 D (.lst [])) b ∧ b < z3.heap.objs.size := fun b hb =>
    ⟨⟨by rw [upd_ne (Nat.ne_of_lt (below b hb))]; exact (p2 b hb).1, (p2 b hb).2⟩, by rw [hp3, Heap.size_push, hD]; exact Nat.lt_succ_of_lt (below b hb)⟩
  have t3 : tn 0 z3.heap := T.keep _ _ _ t2 fun b _ o r => by rw [hp3]; exact Heap.get?_push_of_some _ r
  have B0 := block_start I3 ok hN fps
  generalize hK : cellsFrom (z3.heap.objs.size + 1) scope.names (cloFrom X.env.cells scope.names []) = cs at B0
  have pG := hg z3 (upd H2 D (.lst [])) z3.heap.objs.size cs fp
  have pT := ht z3 (upd H2 D (.lst [])) z3.heap.objs.size cs fp
  have pE := he z3 (upd H2 D (.lst [])) z3.heap.objs.size cs fp
  show codeAny _ _ (.compStart (.ListComp e [⟨tg, it, ifs, 0⟩] scope pos) 0 (.ref ia) (.ref D) (compEnvC scope cs z3.heap.objs.size X.env)) (cpost (model X.prog X.w) X.A X.xe use Qf (.ref D) (compEnvC scope cs z3.heap.objs.size X.env)) { z3 with heap := pushCells (z3.heap.push { cls := .type "dict", data := .dict #[] }) scope.names }
  have cl0 : z3.heap.objs.size ≤ (compEnvC scope cs z3.heap.objs.size X.env).locals := Nat.le_refl _
  have cf0 : (compEnvC scope cs z3.heap.objs.size X.env).frame = X.env.frame := rfl
  have cL : (compEnvC scope cs z3.heap.objs.size X.env).locals = z3.heap.objs.size := rfl
  generalize compEnvC scope cs z3.heap.objs.size X.env = ce at B0 pG pT pE cl0 cf0 cL ⊢
  have nfp : ∀ b ∈ fp, (upd H2 D (.lst [])) b = none := fun b hb => (fps b hb).1.1
  generalize upd H2 D (.lst []) = H3 at I3 B0 pG pT pE w0 nfp fps
  generalize hz4 : ({ z3 with heap := pushCells (z3.heap.push { cls := .type "dict", data := .dict #[] }) scope.names } : Shared) = z4 at B0 ⊢
  have t4 : tn 0 z4.heap := T.keep _ _ _ t3 fun b _ o r => by rw [← hz4]; exact pushCells_keeps _ _ _ _ (Heap.get?_push_of_some _ r)
  have out : ∀ {σ' : L2.St} {H' : Hp} {z' : Shared}, Inv (X.blk z3 H3 scope ce fp) [] σ' H' z' → (∀ b ∈ fp, H' b = none) → ∀ b ∈ fp, FpOk (X.blk z3 H3 scope ce fp) [] H' b := fun {σ' H' z'} J' hn b hb =>
    ⟨hn b hb, (J'.ok.exf b hb).1, J'.ok.exfs b hb, .inl hb, fun x c r => (J'.ok.exf b hb).2 x c r, fun p hp => nomatch hp⟩
  have loop : codeAny (model X.prog X.w) X.A (.compLoop (.ListComp e [⟨tg, it, ifs, 0⟩] scope pos) 0 (.ref ia) (.ref D) ce) (cpost (model X.prog X.w) X.A X.xe use Qf (.ref D) ce) z4 := by
    refine compLoop_any (fun n z' => ∃ i H', Inv (X.blk z3 H3 scope ce fp) [] (wipe σ (own.map (·.2))) H' z' ∧ tn i z'.heap ∧ (∀ b ∈ fp, H' b = none) ∧ W i n H') ?_ n0 ⟨0, H3, B0, t4, nfp, w0⟩
    rintro n z5 ⟨i, H5, I5, t5, n5, w5⟩
    rcases turn i n H5 w5 with ⟨stp, qq⟩ | ⟨go1, Nx, hNx, step⟩
    · refine thnF (T.done (X.blk z3 H3 scope ce fp) rfl rfl rfl hc i [] z5 _ H5 (fun _ _ => False) I5 (out I5 n5) t5 stp) fun r z6 ⟨er, I6⟩ => ?_
      subst er
      have back : Inv X pins σ H5 z6 := I3.call' (ch := fp) I6.os I6.base I6.hok I6.bare fun b hb => ⟨(fps b hb).1.2.2.2.1, (fps b hb).1.2.1, (fps b hb).1.2.2.2.2.1, (fps b hb).1.2.2.2.2.2⟩
      have free5 : H5 ce.locals = none := I6.free
      obtain ⟨m, hn, _⟩ := I6.loc
      exact hend D ce.locals z6 m H5 back qq hn (I3.fpOk cl0 free5)
    · refine thnF (T.item (X.blk z3 H3 scope ce fp) rfl rfl rfl hc i [] z5 _ H5 (fun _ _ => False) I5 (out I5 n5) t5 go1) fun r z6 ⟨u, er, k6⟩ => ?_
      subst er
      refine thnF k6 fun _ z7 ⟨x, H7, I7, r7, y7, t7, n7⟩ => ?_
      refine thnF (pG.run _ z7 _ H7 x u _ (I7.pinned (out I7 n7) (T.obj _ _ t7)) r7 (step x H7 y7)) fun _ z8 ⟨σ8, H8, I8, e8, q8⟩ => ?_
      refine thnF (pT.run _ z8 σ8 H8 _ I8 q8) fun b z9 ⟨H9, I9, q9⟩ => ?_
      have more : ∀ {z' : Shared} {H' : Hp}, Inv (X.blk z3 H3 scope ce fp) ([] ++ pinsAt fp z7.heap) σ8 H' z' → Nx H' → ∃ m, m < n ∧ ∃ i H', Inv (X.blk z3 H3 scope ce fp) [] (wipe σ (own.map (·.2))) H' z' ∧ tn i z'.heap ∧ (∀ b ∈ fp, H' b = none) ∧ W i m H' := fun {z' H'} J' nx => by
        obtain ⟨m', lt, w'⟩ := hNx H' nx
        have still : ∀ b ∈ fp, ∀ o, z7.heap.get? b = some o → z'.heap.get? b = some o ∧ H' b = none := fun b hb o r =>
          have y := J'.pin (b, o) (List.mem_append_right _ (List.mem_append_right _ (mem_pinsAt hb r)))
          ⟨y.1, y.2.1⟩
        refine ⟨m', lt, i + 1, H', (J'.unpinned (pins := [])).weak (by rw [← e8, wipe_length]) (fun j v r => ?_), T.keep _ _ _ t7 fun b hb o r => (still b hb o r).1, fun b hb => ?_, w'⟩
        · rw [← e8] at r
          exact (wipe_some r).1
        · obtain ⟨o, r, _⟩ := T.obj _ _ t7 b hb
          exact (still b hb o r).2
      cases b with
      | false => exact more I9 q9
      | true =>
        have pe := pE (notedBy (model X.prog X.w) X.A ce (fun x y => cpost (model X.prog X.w) X.A X.xe use Qf (.ref D) ce (.error x) y)) fun σ' pins' H' s' e' z' J c => blk_raise (use := use) (Qf := Qf) (acc := .ref D) hs hf tk I3 cl0 cf0 (fun b hb => (fps b hb).1) J c
        refine wpAny_mono (pe.run _ z9 σ8 H9 _ (I9.wish _) q9) (fun v z10 ⟨yv, H10, I10, r10, acc, hD10, hz10, nx⟩ => ?_) fun _ _ y => y
        exact app_ok (X := X.blk z3 H3 scope ce fp) I10.unwish hD10 hz10 r10 fun z11 I11 => more I11 nx
  exact codeAny_compStart_list loop (T.self X.A 0 _ _ _ t4 loop)
theorem pe_lcx {e tg it : Expr} {ifs : List Expr} {scope : Scope} {own : List (Str × Nat)} {pos : Pos} {wi : TI} {g : TG} {tt : TT} {te : TE} (hc : X.calm = true) (hs : X.stack = X.env :: X.outer) (hf : X.env.frame = some X.env.locals) (tk : Takes X (fun cls d _ H => E cls d H)) (hN : X.N.Nodup) (hi : PI X tg it wi) (ok : BlkOk X.N X.env.scope scope own)
    (hg : ∀ s H C cl fp, PG (X.blk s H scope (compEnvC scope cl C X.env) fp) tg g) (ht : ∀ s H C cl fp, PTs (X.blk s H scope (compEnvC scope cl C X.env) fp) ifs tt) (he : PEX X E scope e te) (hfs : ∀ x, foldedSetIterable it X.env x = pure x := by intro _; rfl) :
    PE X (.ListComp e [⟨tg, it, ifs, 0⟩] scope pos) (tLc wi g tt te (own.map (·.2))) := by
  refine ⟨fun pins s σ H Q I h => ?_⟩
  rw [eval_ListComp]
  refine lcx_core hc hs hf tk hN I hi ok hg ht he hfs h fun D C z m H' I' q hn f => ⟨m, hn, fun h2 sb => ?_⟩
  exact ⟨.ref D, H', I'.turned (t' := z.toks) (fun b o hb r => (sb.2 b hb).trans r) f.1 f.2.1 f.2.2.2.1 f.2.2.2.2.1 f.2.2.2.2.2, rfl, q⟩
theorem ps_setLcx {i : Nat} {y : Str} {py : Pos} {e tg it : Expr} {ifs : List Expr} {scope : Scope} {own : List (Str × Nat)} {pos sp : Pos} {wi : TI} {g : TG} {tt : TT} {te : TE} (hc : X.calm = true) (hs : X.stack = X.env :: X.outer) (hf : X.env.frame = some X.env.locals) (tk : Takes X (fun cls d _ H => E cls d H)) (hN : X.N.Nodup) (hy : X.N[i]? = some y) (hyl : X.env.scope.names.lookup y = some .local)
    (hsw : swapsWith (.ListComp e [⟨tg, it, ifs, 0⟩] scope pos) (some (.Name y py)) sp.line X.env = pure true) (hi : PI X tg it wi) (ok : BlkOk X.N X.env.scope scope own)
    (hg : ∀ s H C cl fp, PG (X.blk s H scope (compEnvC scope cl C X.env) fp) tg g) (ht : ∀ s H C cl fp, PTs (X.blk s H scope (compEnvC scope cl C X.env) fp) ifs tt) (he : PEX X E scope e te) (hfs : ∀ x, foldedSetIterable it X.env x = pure x := by intro _; rfl) :
    PS X (.Assign [.Name y py] (.ListComp e [⟨tg, it, ifs, 0⟩] scope pos) sp) (tAsg (tLc wi g tt te (own.map (·.2))) (gName i)) := by
  refine ⟨fun pins s σ H D I h => ?_⟩
  rw [exec_Assign_Name_used _ _ _ _ hsw]
  refine wpAny_bind (wpAny_standAt (wpAny_bind ?_))
  show wpAny _ X.A (do let _ ← comprehension (.ListComp e [⟨tg, it, ifs, 0⟩] scope pos) scope X.env (firstIterPos [⟨tg, it, ifs, 0⟩] pos) (newList []) false (eval it X.env) (some (assign (.Name y py) X.env))) _ _ s
  have h2 : tLc wi g tt te (own.map (·.2)) σ H (fun x H1 => gName i x σ H1 D.nx) := h
  refine wpAny_bind (thn (lcx_core (Qf := fun _ z => SP X pins D .next z) hc hs hf tk hN I hi ok hg ht he hfs h2 fun L C z m H' I' q hn f => ?_) fun _ z hq => wpAny_pure (wpAny_pure hq))
  show wpAny _ _ (assign (.Name y py) X.env (.ref L)) _ _ _
  refine wpAny_assign_Name (store_ok2 (v := V.ref L) I' hN hy (.inl hyl) rfl (fun z2 I2 ⟨a, sb, ha⟩ => ?_) (.inr hyl))
  have ne : C ≠ a := by
    rcases ha with q' | q'
    · rw [q']; exact f.2.1
    · exact fun r => f.2.2.2.2.1 y a q' r.symm
  refine ⟨m, hn.sameBut sb ne, fun h3 sb3 => ⟨_, H', I2.turned (t' := z2.toks) (fun b o hb r => (sb3.2 b hb).trans r) f.1 f.2.1 f.2.2.2.1 f.2.2.2.2.1 f.2.2.2.2.2, q⟩⟩
end
end XR

/-! {k: e for x in xs}, e may raise -/
namespace XR
open PySem PySem.Spec PyProof.Rows L2
section
variable {X : Cx} {E : XK}
theorem dcx_core {pins : List (Addr × Obj)} {s : Shared} {σ : L2.St} {H : Hp} {Q : VK} {ek ev tg it : Expr} {ifs : List Expr} {scope : Scope} {own : List (Str × Nat)} {pos pos' : Pos} {wi : TI} {g : TG} {tt : TT} {tk0 tv : TE} {use : Option (Value → Sem Unit)} {Qf : Value → Shared → Prop}
    (hc : X.calm = true) (hs : X.stack = X.env :: X.outer) (hf : X.env.frame = some X.env.locals) (tk : Takes X (fun cls d _ H => E cls d H)) (hN : X.N.Nodup) (I : Inv X pins σ H s) (hi : PI X tg it wi) (ok : BlkOk X.N X.env.scope scope own)
    (hg : ∀ s H C cl fp, PG (X.blk s H scope (compEnvC scope cl C X.env) fp) tg g) (ht : ∀ s H C cl fp, PTs (X.blk s H scope (compEnvC scope cl C X.env) fp) ifs tt) (hk : ∀ s H C cl fp, PE (X.blk s H scope (compEnvC scope cl C X.env) fp) ek tk0) (he : PEX X E scope ev tv) (hfs : ∀ x, foldedSetIterable it X.env x = pure x)
    (rd : tDc wi g tt tk0 tv (own.map (·.2)) σ H Q)
    (hend : ∀ D C z m H', Inv X pins σ H' z → Q (.ref D) H' → z.heap.Ns C m → FpOk X pins H' C → compPost (model X.prog X.w) X.A X.xe use Qf (.ref D) C (.ok .next) z) :
    wpAny (model X.prog X.w) X.A (comprehension (.DictComp ek ev [⟨tg, it, ifs, 0⟩] scope pos) scope X.env pos' newDict false (eval it X.env) use) Qf X.xe s := by
  have cells : ∀ y ∈ scope.names, y.2 = .free → ∃ c, X.env.cells.lookup y.1 = some c := fun y hy q => (ok.free y hy q).elim (fun k => I.ok.has _ (.inl k)) fun k => I.ok.has _ (.inr k)
  refine comp_blk (use := use) rfl hfs (closure_ok cells) ok.kind (fun y hy q => by rw [ok.uniq y hy, q]) (thn (hi.run pins s σ H _ I rd) fun v0 z1 k1 => thn k1 fun v1 z2 k2 => ?_)
  obtain ⟨ia, fp, tn, J, H2, rfl, I2, T, t2, p2, q⟩ := k2
  refine wpAny_newObj_type (newEnv_comp ?_)
  have below : ∀ b ∈ fp, b < z2.heap.objs.size := fun b hb => let ⟨_, r, _⟩ := T.obj _ _ t2 b hb; Heap.lt_size r
  generalize hD : z2.heap.objs.size = D at below
  have nD : H2 D = none := I2.hok.fresh (Nat.le_of_eq hD)
  obtain ⟨W, ⟨n0, w0⟩, turn⟩ := q D nD
  generalize hz3 : ({ z2 with heap := z2.heap.push { cls := .type "dict", data := .dict #[] } } : Shared) = z3
  have hp3 : z3.heap = z2.heap.push { cls := .type "dict", data := .dict #[] } := by rw [← hz3]
  have I3 : Inv X pins σ (upd H2 D (.dK [])) z3 := by
    rw [← hz3]
    refine I2.laid (t' := z2.toks) (fun b o r => Heap.get?_push_of_some _ r) (Nat.le_of_eq hD) ?_
    rw [← hD]
    exact dk_empty z2.heap I2.big
  have fps : ∀ b ∈ fp, FpOk X pins (upd H2 D (.dK [])) b ∧ b < z3.heap.objs.size := fun b hb =>
    ⟨⟨by rw [upd_ne (Nat.ne_of_lt (below b hb))]; exact (p2 b hb).1, (p2 b hb).2⟩, by rw [hp3, Heap.size_push, hD]; exact Nat.lt_succ_of_lt (below b hb)⟩
  have t3 : tn 0 z3.heap := T.keep _ _ _ t2 fun b _ o r => by rw [hp3]; exact Heap.get?_push_of_some _ r
  have B0 := block_start I3 ok hN fps
  generalize hK : cellsFrom (z3.heap.objs.size + 1) scope.names (cloFrom X.env.cells scope.names []) = cs at B0
  have pG := hg z3 (upd H2 D (.dK [])) z3.heap.objs.size cs fp
  have pT := ht z3 (upd H2 D (.dK [])) z3.heap.objs.size cs fp
  have pK := hk z3 (upd H2 D (.dK [])) z3.heap.objs.size cs fp
  have pE := he z3 (upd H2 D (.dK [])) z3.heap.objs.size cs fp
  show codeAny _ _ (.compStart (.DictComp ek ev [⟨tg, it, ifs, 0⟩] scope pos) 0 (.ref ia) (.ref D) (compEnvC scope cs z3.heap.objs.size X.env)) (cpost (model X.prog X.w) X.A X.xe use Qf (.ref D) (compEnvC scope cs z3.heap.objs.size X.env)) { z3 with heap := pushCells (z3.heap.push { cls := .type "dict", data := .dict #[] }) scope.names }
  have cl0 : z3.heap.objs.size ≤ (compEnvC scope cs z3.heap.objs.size X.env).locals := Nat.le_refl _
  have cf0 : (compEnvC scope cs z3.heap.objs.size X.env).frame = X.env.frame := rfl
  have cL : (compEnvC scope cs z3.heap.objs.size X.env).locals = z3.heap.objs.size := rfl
  generalize compEnvC scope cs z3.heap.objs.size X.env = ce at B0 pG pT pK pE cl0 cf0 cL ⊢
  have nfp : ∀ b ∈ fp, (upd H2 D (.dK [])) b = none := fun b hb => (fps b hb).1.1
  generalize upd H2 D (.dK []) = H3 at I3 B0 pG pT pK pE w0 nfp fps
  generalize hz4 : ({ z3 with heap := pushCells (z3.heap.push { cls := .type "dict", data := .dict #[] }) scope.names } : Shared) = z4 at B0 ⊢
  have t4 : tn 0 z4.heap := T.keep _ _ _ t3 fun b _ o r => by rw [← hz4]; exact pushCells_keeps _ _ _ _ (Heap.get?_push_of_some _ r)
  have out : ∀ {σ' : L2.St} {H' : Hp} {z' : Shared}, Inv (X.blk z3 H3 scope ce fp) [] σ' H' z' → (∀ b ∈ fp, H' b = none) → ∀ b ∈ fp, FpOk (X.blk z3 H3 scope ce fp) [] H' b := fun {σ' H' z'} J' hn b hb =>
    ⟨hn b hb, (J'.ok.exf b hb).1, J'.ok.exfs b hb, .inl hb, fun x c r => (J'.ok.exf b hb).2 x c r, fun p hp => nomatch hp⟩
  have loop : codeAny (model X.prog X.w) X.A (.compLoop (.DictComp ek ev [⟨tg, it, ifs, 0⟩] scope pos) 0 (.ref ia) (.ref D) ce) (cpost (model X.prog X.w) X.A X.xe use Qf (.ref D) ce) z4 := by
    refine compLoop_anyD (fun n z' => ∃ i H', Inv (X.blk z3 H3 scope ce fp) [] (wipe σ (own.map (·.2))) H' z' ∧ tn i z'.heap ∧ (∀ b ∈ fp, H' b = none) ∧ W i n H') ?_ n0 ⟨0, H3, B0, t4, nfp, w0⟩
    rintro n z5 ⟨i, H5, I5, t5, n5, w5⟩
    rcases turn i n H5 w5 with ⟨stp, qq⟩ | ⟨go1, Nx, hNx, step⟩
    · refine thnF (T.done (X.blk z3 H3 scope ce fp) rfl rfl rfl hc i [] z5 _ H5 (fun _ _ => False) I5 (out I5 n5) t5 stp) fun r z6 ⟨er, I6⟩ => ?_
      subst er
      have back : Inv X pins σ H5 z6 := I3.call' (ch := fp) I6.os I6.base I6.hok I6.bare fun b hb => ⟨(fps b hb).1.2.2.2.1, (fps b hb).1.2.1, (fps b hb).1.2.2.2.2.1, (fps b hb).1.2.2.2.2.2⟩
      have free5 : H5 ce.locals = none := I6.free
      obtain ⟨m, hn, _⟩ := I6.loc
      exact hend D ce.locals z6 m H5 back qq hn (I3.fpOk cl0 free5)
    · refine thnF (T.item (X.blk z3 H3 scope ce fp) rfl rfl rfl hc i [] z5 _ H5 (fun _ _ => False) I5 (out I5 n5) t5 go1) fun r z6 ⟨u, er, k6⟩ => ?_
      subst er
      refine thnF k6 fun _ z7 ⟨x, H7, I7, r7, y7, t7, n7⟩ => ?_
      refine thnF (pG.run _ z7 _ H7 x u _ (I7.pinned (out I7 n7) (T.obj _ _ t7)) r7 (step x H7 y7)) fun _ z8 ⟨σ8, H8, I8, e8, q8⟩ => ?_
      refine thnF (pT.run _ z8 σ8 H8 _ I8 q8) fun b z9 ⟨H9, I9, q9⟩ => ?_
      have more : ∀ {z' : Shared} {H' : Hp}, Inv (X.blk z3 H3 scope ce fp) ([] ++ pinsAt fp z7.heap) σ8 H' z' → Nx H' → ∃ m, m < n ∧ ∃ i H', Inv (X.blk z3 H3 scope ce fp) [] (wipe σ (own.map (·.2))) H' z' ∧ tn i z'.heap ∧ (∀ b ∈ fp, H' b = none) ∧ W i m H' := fun {z' H'} J' nx => by
        obtain ⟨m', lt, w'⟩ := hNx H' nx
        have still : ∀ b ∈ fp, ∀ o, z7.heap.get? b = some o → z'.heap.get? b = some o ∧ H' b = none := fun b hb o r =>
          have y := J'.pin (b, o) (List.mem_append_right _ (List.mem_append_right _ (mem_pinsAt hb r)))
          ⟨y.1, y.2.1⟩
        refine ⟨m', lt, i + 1, H', (J'.unpinned (pins := [])).weak (by rw [← e8, wipe_length]) (fun j v r => ?_), T.keep _ _ _ t7 fun b hb o r => (still b hb o r).1, fun b hb => ?_, w'⟩
        · rw [← e8] at r
          exact (wipe_some r).1
        · obtain ⟨o, r, _⟩ := T.obj _ _ t7 b hb
          exact (still b hb o r).2
      cases b with
      | false => exact more I9 q9
      | true =>
        have pe := pE (notedBy (model X.prog X.w) X.A ce (fun x y => cpost (model X.prog X.w) X.A X.xe use Qf (.ref D) ce (.error x) y)) fun σ' pins' H' s' e' z' J c => blk_raise (use := use) (Qf := Qf) (acc := .ref D) hs hf tk I3 cl0 cf0 (fun b hb => (fps b hb).1) J c
        refine thnF (pK.run _ z9 σ8 H9 _ I9 q9) fun v z10 ⟨yk, H10, I10, r10, q10⟩ => ?_
        refine wpAny_mono (pe.run _ z10 σ8 H10 _ (I10.wish _) q10) (fun v2 z11 ⟨yv, H11, I11, r11, kvs, k, ek', hD11, hz11, nx⟩ => ?_) fun _ _ y => y
        subst ek'
        exact d_dictSet (X := X.blk z3 H3 scope ce fp) I11.unwish hD11 hz11 r10 r11 fun z12 I12 => more I12 nx
  exact codeAny_compStart_dict loop (T.self X.A 0 _ _ _ t4 loop)
theorem pe_dcx {ek ev tg it : Expr} {ifs : List Expr} {scope : Scope} {own : List (Str × Nat)} {pos : Pos} {wi : TI} {g : TG} {tt : TT} {tk0 tv : TE} (hc : X.calm = true) (hs : X.stack = X.env :: X.outer) (hf : X.env.frame = some X.env.locals) (tk : Takes X (fun cls d _ H => E cls d H)) (hN : X.N.Nodup) (hi : PI X tg it wi) (ok : BlkOk X.N X.env.scope scope own)
    (hg : ∀ s H C cl fp, PG (X.blk s H scope (compEnvC scope cl C X.env) fp) tg g) (ht : ∀ s H C cl fp, PTs (X.blk s H scope (compEnvC scope cl C X.env) fp) ifs tt) (hk : ∀ s H C cl fp, PE (X.blk s H scope (compEnvC scope cl C X.env) fp) ek tk0) (he : PEX X E scope ev tv) (hfs : ∀ x, foldedSetIterable it X.env x = pure x := by intro _; rfl) :
    PE X (.DictComp ek ev [⟨tg, it, ifs, 0⟩] scope pos) (tDc wi g tt tk0 tv (own.map (·.2))) := by
  refine ⟨fun pins s σ H Q I h => ?_⟩
  rw [arm_eval_DictComp]
  refine dcx_core hc hs hf tk hN I hi ok hg ht hk he hfs h fun D C z m H' I' q hn f => ⟨m, hn, fun h2 sb => ?_⟩
  exact ⟨.ref D, H', I'.turned (t' := z.toks) (fun b o hb r => (sb.2 b hb).trans r) f.1 f.2.1 f.2.2.2.1 f.2.2.2.2.1 f.2.2.2.2.2, rfl, q⟩
end
end XR

/-! zip(a, b) of a tuple and a list -/
namespace XZ
open PySem PySem.Spec PyProof.Rows L2 RZ
section
variable {prog : Program} {w : World} {A : Around} {E : Value → Shared → Prop} {s : Shared}
/-- what zip's next does up to the two items -/
theorem zm_item {z TI TO i1 i2 l1 l2 : Addr} {k1 k2 : Nat} {xs ys : Array Value} {x y a b : Value} {Q : Option Value → Shared → Prop} (D : ZipApart z TI TO i1 i2 l1 l2) (hz : IsZip s.heap z TI TO .none) (hTI : IsPair s.heap TI (.ref i1) (.ref i2)) (hTO : IsPair s.heap TO a b)
    (p1 : s.heap.IsTupleIter i1 l1 k1) (p2 : s.heap.IsListIter i2 l2 k2) (q1 : s.heap.IsTuple l1 xs) (q2 : s.heap.IsList l2 ys) (hx : xs[k1]? = some x) (hy : ys[k2]? = some y)
    (hQ : ∀ h', IsZip h' z TI TO (rawInt s.heap.objs.size) → IsPair h' TO x y → h'.IsTupleIter i1 l1 (k1 + 1) → h'.IsListIter i2 l2 (k2 + 1) → IsPair h' s.heap.objs.size x y → h'.objs.size = s.heap.objs.size + 1 →
      (∀ c o, c ≠ z → c ≠ TO → c ≠ i1 → c ≠ i2 → s.heap.get? c = some o → h'.get? c = some o) → Q (some (.ref s.heap.objs.size)) { s with heap := h' }) :
    wpAny (model prog w) A (pyNext (.ref z)) Q E s := by
  have ty : s.TypeIs (.ref z) "zip" := ⟨_, hz, rfl⟩
  unfold pyNext
  refine wpAny_bind (wpAny_attempt (wpAny_callSpecial?_slot (name := Str.ofString "__next__") ty F.slot_zip_next (wpAny_call_entry F.slot_zip_next ty F.entry_zip_next ?_ (F.args_zip_next_1 _))))
  show wpAny _ _ (field (.ref z) 2 >>= _) _ _ _
  refine wpAny_bind (wpAny_field hz rfl (x := .bool false) rfl ?_)
  show wpAny _ _ (field (.ref z) 3 >>= _) _ _ _
  refine wpAny_bind (wpAny_field hz rfl (x := .ref TI) rfl (wpAny_bind (wpAny_seqItems hTI rfl ?_)))
  show wpAny _ _ (Builtin.SmallTypes.ownedTupleIsFree (.ref z) >>= _) _ _ _
  refine wpAny_bind ?_
  unfold Builtin.SmallTypes.ownedTupleIsFree
  refine wpAny_bind (wpAny_field hz rfl (x := .none) rfl (wpAny_pure ?_))
  simp only [if_true]
  refine wpAny_bind (wpAny_rule (wpAny_bind (wpAny_field hz rfl (x := .ref TO) rfl (wpAny_bind (wpAny_setField_rec hz (by simp) fun g1 hz1 b1 => ?_)))))
  replace hz1 : IsZip g1 z TI TO .ellipsis := hz1
  refine wpAny_bind ?_
  simp only [List.zipIdx_cons, List.zipIdx_nil, List.forIn_cons, List.forIn_nil]
  refine wpAny_bind (wpAny_bind (wpAny_onRaise ?_))
  show wpAny _ _ (Builtin.SmallTypes.nextOf (.ref i1) >>= _) _ _ _
  refine wpAny_bind (nextOf_tuple_item (p1.extBut b1.extBut D.i1z) (q1.extBut b1.extBut D.l1z) hx fun g2 p1' b2 => wpAny_pure ?_)
  have TO2 : IsPair g2 TO a b := b2.extBut _ _ D.TOi1 (b1.extBut _ _ D.TOz hTO)
  refine wpAny_bind (wpAny_seqItems TO2 rfl (wpAny_bind (wpAny_updateSeq_pair TO2 fun g3 TO3 b3 => ?_)))
  replace TO3 : IsPair g3 TO x b := TO3
  refine wpAny_bind (wpAny_letGo (wpAny_pure (wpAny_bind (wpAny_bind (wpAny_onRaise ?_)))))
  show wpAny _ _ (Builtin.SmallTypes.nextOf (.ref i2) >>= _) _ _ _
  refine wpAny_bind (wpAny_nextOf_list_item (((p2.extBut b1.extBut D.i2z).extBut b2.extBut D.i12.symm).extBut b3.extBut D.TOi2.symm) (((q2.extBut b1.extBut D.l2z).extBut b2.extBut D.l2i1).extBut b3.extBut D.l2TO) hy fun g4 p2' b4 => wpAny_pure ?_)
  have TO4 : IsPair g4 TO x b := b4.extBut _ _ D.TOi2 TO3
  refine wpAny_bind (wpAny_seqItems TO4 rfl (wpAny_bind (wpAny_updateSeq_pair TO4 fun g5 TO5 b5 => ?_)))
  replace TO5 : IsPair g5 TO x y := TO5
  refine wpAny_bind (wpAny_letGo (wpAny_pure (wpAny_pure (wpAny_bind (wpAny_seqItems TO5 rfl (wpAny_bind (wpAny_newTuple ?_)))))))
  have sz : g5.objs.size = s.heap.objs.size := by rw [b5.1, b4.1, b3.1, b2.1, b1.1]
  have hz5 : IsZip g5 z TI TO .ellipsis := b5.extBut _ _ D.TOz.symm (b4.extBut _ _ D.i2z.symm (b3.extBut _ _ D.TOz.symm (b2.extBut _ _ D.i1z.symm hz1)))
  have k5 : ∀ c o, c ≠ z → c ≠ TO → c ≠ i1 → c ≠ i2 → s.heap.get? c = some o → g5.get? c = some o := fun c o n1 n2 n3 n4 e => b5.extBut _ _ n2 (b4.extBut _ _ n4 (b3.extBut _ _ n2 (b2.extBut _ _ n3 (b1.extBut _ _ n1 e))))
  have p15 : g5.IsTupleIter i1 l1 (k1 + 1) := ((p1'.extBut b3.extBut D.TOi1.symm).extBut b4.extBut D.i12).extBut b5.extBut D.TOi1.symm
  have p25 : g5.IsListIter i2 l2 (k2 + 1) := p2'.extBut b5.extBut D.TOi2.symm
  have zlt : z < g5.objs.size := Heap.lt_size hz5
  show wpAny _ _ (Builtin.SmallTypes.ownedTupleHandOut (.ref z) (.ref g5.objs.size) >>= _) _ _ _
  refine wpAny_bind ?_
  unfold Builtin.SmallTypes.ownedTupleHandOut
  have hz6 : IsZip (g5.push { cls := .type "tuple", data := .seq #[x, y] }) z TI TO .ellipsis := Heap.get?_push_of_some _ hz5
  refine wpAny_bind (wpAny_setField_rec hz6 (by simp) fun g7 hz7 b7 => ?_)
  replace hz7 : IsZip g7 z TI TO (rawInt g5.objs.size) := hz7
  refine wpAny_setField_rec hz7 (by simp) fun g8 hz8 b8 => ?_
  replace hz8 : IsZip g8 z TI TO (rawInt g5.objs.size) := hz8
  have up : ∀ c o, c ≠ z → g5.get? c = some o → g8.get? c = some o := fun c o n e => b8.extBut _ _ n (b7.extBut _ _ n (Heap.get?_push_of_some _ e))
  have T8 : IsPair g8 g5.objs.size x y := b8.extBut _ _ (Nat.ne_of_gt zlt) (b7.extBut _ _ (Nat.ne_of_gt zlt) (Heap.get?_push_size _ rfl))
  have z8 : g8.objs.size = g5.objs.size + 1 := by rw [b8.1, b7.1, Heap.size_push]
  rw [sz] at hz8 T8 z8
  refine wpAny_pure ⟨_, rfl, wpAny_pure ?_⟩
  show Q (some (.ref g5.objs.size)) _
  rw [sz]
  exact hQ g8 hz8 (up _ _ D.TOz TO5) (p15.at fun o e => up _ o D.i1z e) (p25.at fun o e => up _ o D.i2z e) T8 z8 fun c o n1 n2 n3 n4 e => up c o n1 (k5 c o n1 n2 n3 n4 e)
/-- the tuple has come to its end, or the list -/
theorem zm_end {z TI TO i1 i2 l1 l2 : Addr} {k1 k2 : Nat} {xs ys : Array Value} {a b : Value} {Q : Option Value → Shared → Prop} (hh : A.handled = none) (D : ZipApart z TI TO i1 i2 l1 l2) (hz : IsZip s.heap z TI TO .none) (hTI : IsPair s.heap TI (.ref i1) (.ref i2)) (hTO : IsPair s.heap TO a b)
    (p1 : s.heap.IsTupleIter i1 l1 k1) (p2 : s.heap.IsListIter i2 l2 k2) (q1 : s.heap.IsTuple l1 xs) (q2 : s.heap.IsList l2 ys) (hend : xs[k1]? = none ∨ ys[k2]? = none)
    (hQ : ∀ h', (∀ c o, c ≠ z → c ≠ TO → c ≠ i1 → c ≠ i2 → s.heap.get? c = some o → h'.get? c = some o) → Q none { s with heap := h' }) : wpAny (model prog w) A (pyNext (.ref z)) Q E s := by
  have ty : s.TypeIs (.ref z) "zip" := ⟨_, hz, rfl⟩
  have fin : ∀ h' e, (∀ c o, c ≠ z → c ≠ TO → c ≠ i1 → c ≠ i2 → s.heap.get? c = some o → h'.get? c = some o) → (∃ o, h'.get? e = some o ∧ o.cls = .type "StopIteration") → wpAny (model prog w) A (do if (← isInstance (.ref e) (.type "StopIteration")) then pure none else throw (.ref e)) Q E { s with heap := h' } := fun h' e hk ⟨o, ho, hc⟩ =>
    wpAny_bind (wpAny_isInstance (T := "StopIteration") (b := true) ⟨o, ho, hc⟩ isSubtype_stop (wpAny_pure (hQ _ hk)))
  unfold pyNext
  refine wpAny_bind (wpAny_attempt (wpAny_callSpecial?_slot (name := Str.ofString "__next__") ty F.slot_zip_next (wpAny_call_entry F.slot_zip_next ty F.entry_zip_next ?_ (F.args_zip_next_1 _))))
  show wpAny _ _ (field (.ref z) 2 >>= _) _ _ _
  refine wpAny_bind (wpAny_field hz rfl (x := .bool false) rfl ?_)
  show wpAny _ _ (field (.ref z) 3 >>= _) _ _ _
  refine wpAny_bind (wpAny_field hz rfl (x := .ref TI) rfl (wpAny_bind (wpAny_seqItems hTI rfl ?_)))
  show wpAny _ _ (Builtin.SmallTypes.ownedTupleIsFree (.ref z) >>= _) _ _ _
  refine wpAny_bind ?_
  unfold Builtin.SmallTypes.ownedTupleIsFree
  refine wpAny_bind (wpAny_field hz rfl (x := .none) rfl (wpAny_pure ?_))
  simp only [if_true]
  refine wpAny_bind (wpAny_rule (wpAny_bind (wpAny_field hz rfl (x := .ref TO) rfl (wpAny_bind (wpAny_setField_rec hz (by simp) fun g1 hz1 b1 => ?_)))))
  replace hz1 : IsZip g1 z TI TO .ellipsis := hz1
  refine wpAny_bind ?_
  simp only [List.zipIdx_cons, List.zipIdx_nil, List.forIn_cons, List.forIn_nil]
  refine wpAny_bind (wpAny_bind (wpAny_onRaise ?_))
  show wpAny _ _ (Builtin.SmallTypes.nextOf (.ref i1) >>= _) _ _ _
  cases hx : xs[k1]? with
  | none =>
    refine wpAny_bind (nextOf_tuple_end hh (p1.extBut b1.extBut D.i1z) (q1.extBut b1.extBut D.l1z) hx fun g2 e b2 ⟨oe, he, ce⟩ => ?_)
    have hz2 : IsZip g2 z TI TO .ellipsis := b2 _ _ D.i1z.symm hz1
    have ez : e ≠ z := fun q => by rw [q, hz2] at he; cases he; simp at ce
    exact wpAny_setField_rec hz2 (by simp) fun g3 _ b3 => fin g3 e (fun c o n1 _ n3 _ q => b3.extBut _ _ n1 (b2 _ _ n3 (b1.extBut _ _ n1 q))) ⟨oe, b3.extBut _ _ ez he, ce⟩
  | some x =>
    have hy : ys[k2]? = none := by
      rcases hend with q | q
      · rw [hx] at q; cases q
      · exact q
    refine wpAny_bind (nextOf_tuple_item (p1.extBut b1.extBut D.i1z) (q1.extBut b1.extBut D.l1z) hx fun g2 p1' b2 => wpAny_pure ?_)
    have TO2 : IsPair g2 TO a b := b2.extBut _ _ D.TOi1 (b1.extBut _ _ D.TOz hTO)
    refine wpAny_bind (wpAny_seqItems TO2 rfl (wpAny_bind (wpAny_updateSeq_pair TO2 fun g3 TO3 b3 => ?_)))
    refine wpAny_bind (wpAny_letGo (wpAny_pure (wpAny_bind (wpAny_bind (wpAny_onRaise ?_)))))
    show wpAny _ _ (Builtin.SmallTypes.nextOf (.ref i2) >>= _) _ _ _
    refine wpAny_bind (wpAny_nextOf_list_end hh (((p2.extBut b1.extBut D.i2z).extBut b2.extBut D.i12.symm).extBut b3.extBut D.TOi2.symm) (((q2.extBut b1.extBut D.l2z).extBut b2.extBut D.l2i1).extBut b3.extBut D.l2TO) hy fun g4 e b4 ⟨oe, he, ce⟩ => ?_)
    have hz4 : IsZip g4 z TI TO .ellipsis := b4 _ _ D.i2z.symm (b3.extBut _ _ D.TOz.symm (b2.extBut _ _ D.i1z.symm hz1))
    have ez : e ≠ z := fun q => by rw [q, hz4] at he; cases he; simp at ce
    exact wpAny_setField_rec hz4 (by simp) fun g5 _ b5 => fin g5 e (fun c o n1 n2 n3 n4 q => b5.extBut _ _ n1 (b4 _ _ n4 (b3.extBut _ _ n2 (b2.extBut _ _ n3 (b1.extBut _ _ n1 q))))) ⟨oe, b5.extBut _ _ ez he, ce⟩
end
end XZ

namespace XZ
open PySem PySem.Spec PyProof.Rows L2 RZ
/-- a the tuple, b the list -/
def ItzM (K : PySem.W.Frag) (a b : Addr) : It :=
  ⟨fun i H => ∃ (xs ys : List V) (x y : V), SqT K H a xs ∧ SqL K H b ys ∧ xs[i]? = some x ∧ ys[i]? = some y,
    fun i H v H' => ∃ T x y, v = .ref T ∧ H T = none ∧ H' = upd H T (.tup [x, y]) ∧ (∀ xs, SqT K H a xs → xs[i]? = some x) ∧ ∀ ys, SqL K H b ys → ys[i]? = some y,
    fun i H => ∃ xs ys : List V, SqT K H a xs ∧ SqL K H b ys ∧ (xs.length ≤ i ∨ ys.length ≤ i)⟩
theorem five {α : Type} {c z a b d e : α} (h : c ∈ [z, a, b, d, e]) : c = z ∨ c = a ∨ c = b ∨ c = d ∨ c = e := by simpa using h
theorem nfive {α : Type} {c z a b d e : α} (h : c ∉ [z, a, b, d, e]) : c ≠ z ∧ c ≠ a ∧ c ≠ b ∧ c ≠ d ∧ c ≠ e := by simpa using h
theorem turn_zm {P : Program} {w : World} {K : PySem.W.Frag} {elts : List Expr} {kk : Nat} {tpos : Pos} {a b z TI TO i1 i2 : Addr} (D : ZipApart z TI TO i1 i2 a b) :
    Turn P w K (.Tuple elts kk tpos) (ItzM K a b) [z, TI, TO, i1, i2] z (fun i h => IsZip h z TI TO .none ∧ IsPair h TI (.ref i1) (.ref i2) ∧ (∃ x y, IsPair h TO x y) ∧ h.IsTupleIter i1 a i ∧ h.IsListIter i2 b i) where
  mem := by simp
  obj := fun i h ⟨hz, hTI, ⟨x, y, hTO⟩, ⟨o1, e1, _, d1⟩, ⟨o2, e2, _, d2⟩⟩ c hc => by
    rcases five hc with rfl | rfl | rfl | rfl | rfl
    · exact ⟨_, hz, fun v q => nomatch q⟩
    · exact ⟨_, hTI, fun v q => nomatch q⟩
    · exact ⟨_, hTO, fun v q => nomatch q⟩
    · exact ⟨o1, e1, fun v q => by rw [d1] at q; cases q⟩
    · exact ⟨o2, e2, fun v q => by rw [d2] at q; cases q⟩
  keep := fun i h h' ⟨hz, hTI, ⟨x, y, hTO⟩, p1, p2⟩ k =>
    ⟨k z (by simp) _ hz, k TI (by simp) _ hTI, ⟨x, y, k TO (by simp) _ hTO⟩, p1.at fun o q => k i1 (by simp) o q, p2.at fun o q => k i2 (by simp) o q⟩
  item := by
    intro X hP hw hK hc i pins s σ H E I hf st hg
    subst hP hw hK
    obtain ⟨hz, hTI, ⟨x0, y0, hTO⟩, p1, p2⟩ := st
    obtain ⟨xs, ys, x, y, qx, qy, hx, hy⟩ := hg
    obtain ⟨its, rv, t1, _⟩ := I.tuple qx
    obtain ⟨its2, rv2, t2, _⟩ := I.list qy
    obtain ⟨u, hu, ru⟩ := rv.get hx
    obtain ⟨u2, hu2, ru2⟩ := rv2.get hy
    have zl : z < s.heap.objs.size := Heap.lt_size hz
    refine zm_item D hz hTI hTO p1 p2 t1 t2.isList (x := u) (y := u2) (by simpa using hu) (by simpa using hu2) fun h1 z1 TO1 p11 p21 hT _ hk => ?_
    refine ⟨_, rfl, wpAny_letOwnedTupleGo_zip (s := { s with heap := h1 }) z1 fun h2 z2 sb => ?_⟩
    have T2 : h2.get? s.heap.objs.size = some { cls := .type "tuple", data := .seq #[u, u2] } := (sb.2 _ (Nat.ne_of_gt zl)).trans hT
    have new : ObjOk X.prog X.w (upd H s.heap.objs.size (.tup [x, y])) h2 s.heap.objs.size (.tup [x, y]) := ⟨by show 2 ≤ sizeLine; decide, [u, u2], .cons ru (.cons ru2 .nil), ⟨_, T2, rfl, _, rfl⟩⟩
    have I1 : Inv X pins σ (upd H s.heap.objs.size (.tup [x, y])) { s with heap := h2 } := I.turnedNew (t' := s.toks) (ch := [z, TI, TO, i1, i2]) (fun c o hb q => by
      obtain ⟨n1, n2, n3, n4, n5⟩ := nfive hb
      exact (sb.2 c n1).trans (hk c o n1 n3 n4 n5 q)) hf (Nat.le_refl _) new
    refine ⟨.ref s.heap.objs.size, _, I1, rfl, ⟨_, x, y, rfl, I.hok.fresh (Nat.le_refl _), rfl, fun l hl => by rw [I.tuple_inj hl qx]; exact hx, fun l hl => by rw [I.list_inj hl qy]; exact hy⟩, ⟨z2, ?_, ⟨u, u2, ?_⟩, ?_, ?_⟩, fun c hcm => ?_⟩
    · exact (sb.2 _ D.TIz).trans (hk _ _ D.TIz D.TITO D.TIi1 D.TIi2 hTI)
    · exact (sb.2 _ D.TOz).trans TO1
    · exact p11.at fun o q => (sb.2 _ D.i1z).trans q
    · exact p21.at fun o q => (sb.2 _ D.i2z).trans q
    · have lt : c < s.heap.objs.size := by
        rcases five hcm with rfl | rfl | rfl | rfl | rfl
        · exact zl
        · exact Heap.lt_size hTI
        · exact Heap.lt_size hTO
        · obtain ⟨_, e1, _⟩ := p1; exact Heap.lt_size e1
        · obtain ⟨_, e2, _⟩ := p2; exact Heap.lt_size e2
      rw [upd_ne (Nat.ne_of_lt lt)]
      exact (hf c hcm).1
  done := by
    intro X hP hw hK hc i pins s σ H E I hf st hg
    subst hP hw hK
    obtain ⟨hz, hTI, ⟨x0, y0, hTO⟩, p1, p2⟩ := st
    obtain ⟨xs, ys, qx, qy, hend⟩ := hg
    obtain ⟨its, rv, t1, _⟩ := I.tuple qx
    obtain ⟨its2, rv2, t2, _⟩ := I.list qy
    have l1 := rv.length
    have l2 := rv2.length
    have he : its.toArray[i]? = none ∨ its2.toArray[i]? = none := by
      rcases hend with q | q
      · exact .inl (by simp; omega)
      · exact .inr (by simp; omega)
    refine zm_end (I.ok.hd hc) D hz hTI hTO p1 p2 t1 t2.isList he fun h1 hk => ⟨rfl, I.turnedL (t' := s.toks) (ch := [z, TI, TO, i1, i2]) (fun c o hb q => ?_) hf⟩
    obtain ⟨n1, n2, n3, n4, n5⟩ := nfive hb
    exact hk c o n1 n3 n4 n5 q
  self := fun A i s Q E st h => wpAny_pyIter_zip st.1 h
/-- the heap behind zip(a, b) -/
abbrev zmH1 (h : Heap) (a : Addr) : Heap := h.push { cls := .type "tuple_iterator", data := .fields #[.ref a, .int 0 0] }
abbrev zmH2 (h : Heap) (a b : Addr) : Heap := (zmH1 h a).push { cls := .type "list_iterator", data := .fields #[.ref b, .int 0 0] }
abbrev zmH3 (h : Heap) (a b : Addr) : Heap := (zmH2 h a b).push { cls := .type "tuple", data := .seq #[.ref h.objs.size, .ref (zmH1 h a).objs.size] }
abbrev zmH4 (h : Heap) (a b : Addr) : Heap := (zmH3 h a b).push { cls := .type "tuple", data := .seq #[.none, .none] }
abbrev zmH5 (h : Heap) (a b : Addr) : Heap := (zmH4 h a b).push { cls := .type "zip", data := .fields #[.none, .bool false, .bool false, .ref (zmH2 h a b).objs.size, .ref (zmH3 h a b).objs.size] }
theorem meets_zm (a b : Addr) (xs ys : Array Value) :
    Meets (Builtin.«zip.__new__» ⟨[.type "zip", .ref a, .ref b], []⟩) (fun _ R s => s.heap.IsTuple a xs ∧ s.heap.IsList b ys ∧ R (.ok (.ret (.ref (zmH4 s.heap a b).objs.size))) { s with heap := zmH5 s.heap a b }) :=
  .of_wp fun prog w A R s h => by
    obtain ⟨hp, g, d, tk, os⟩ := s; obtain ⟨t1, t2, h⟩ := h
    have hsub := sub_zip
    have T1 : Heap.IsTuple (Shared.heap ⟨hp, g, d, tk, os⟩) a xs := t1
    have T2 : Heap.IsList (Shared.heap ⟨hp.push { cls := .type "tuple_iterator", data := .fields #[.ref a, .int 0 0] }, g, d, tk, os⟩) b ys := Heap.IsList.push t2 _
    wp_walk using wpAny_pyIter_tuple T1, wpAny_pyIter_list T2
    exact ⟨_, rfl, h⟩
theorem call_zm {prog : Program} {w : World} {A : Around} {E : Value → Shared → Prop} {s : Shared} {a b : Addr} {xs ys : Array Value} {Q : Value → Shared → Prop} (t1 : s.heap.IsTuple a xs) (t2 : s.heap.IsList b ys)
    (h : ∀ h', IsZip h' (s.heap.objs.size + 4) (s.heap.objs.size + 2) (s.heap.objs.size + 3) .none → IsPair h' (s.heap.objs.size + 2) (.ref s.heap.objs.size) (.ref (s.heap.objs.size + 1)) → IsPair h' (s.heap.objs.size + 3) .none .none →
      h'.IsTupleIter s.heap.objs.size a 0 → h'.IsListIter (s.heap.objs.size + 1) b 0 → (∀ c o, s.heap.get? c = some o → h'.get? c = some o) → Q (.ref (s.heap.objs.size + 4)) { s with heap := h' }) :
    wpAny (model prog w) A (call (.type "zip") [.ref a, .ref b]) Q E s := by
  refine callType_new F.called_zip (by decide) (F.typeCall_zip_2 _ _) (F.newCall_zip_2 _ _) (fun obj => F.args_object_init_3 obj _ _) F.entry_zip_new (meets_zm a b xs ys) ⟨t1, t2, ?_⟩
  have z1 : (zmH1 s.heap a).objs.size = s.heap.objs.size + 1 := Heap.size_push ..
  have z2 : (zmH2 s.heap a b).objs.size = s.heap.objs.size + 2 := by rw [Heap.size_push, z1]
  have z3 : (zmH3 s.heap a b).objs.size = s.heap.objs.size + 3 := by rw [Heap.size_push, z2]
  have z4 : (zmH4 s.heap a b).objs.size = s.heap.objs.size + 4 := by rw [Heap.size_push, z3]
  have g5 : (zmH5 s.heap a b).get? (zmH4 s.heap a b).objs.size = some _ := Heap.get?_push_size _ rfl
  have g4 : (zmH5 s.heap a b).get? (zmH3 s.heap a b).objs.size = some _ := Heap.get?_push_of_some _ (Heap.get?_push_size _ rfl)
  have g3 : (zmH5 s.heap a b).get? (zmH2 s.heap a b).objs.size = some _ := Heap.get?_push_of_some _ (Heap.get?_push_of_some _ (Heap.get?_push_size _ rfl))
  have g2 : (zmH5 s.heap a b).get? (zmH1 s.heap a).objs.size = some _ := Heap.get?_push_of_some _ (Heap.get?_push_of_some _ (Heap.get?_push_of_some _ (Heap.get?_push_size _ rfl)))
  have g1 : (zmH5 s.heap a b).get? s.heap.objs.size = some _ := Heap.get?_push_of_some _ (Heap.get?_push_of_some _ (Heap.get?_push_of_some _ (Heap.get?_push_of_some _ (Heap.get?_push_size _ rfl))))
  show _ ∧ _
  rw [z2, z3, z4] at g5
  rw [z1, z2] at g3
  rw [z3] at g4
  rw [z1] at g2
  rw [z4]
  exact ⟨⟨_, g5, rfl⟩, h _ g5 g3 g4 ⟨_, g1, rfl, rfl⟩ ⟨_, g2, rfl, rfl⟩ fun c o x => Heap.get?_push_of_some _ (Heap.get?_push_of_some _ (Heap.get?_push_of_some _ (Heap.get?_push_of_some _ (Heap.get?_push_of_some _ x))))⟩
def iZipM (K : PySem.W.Frag) (ta : TA) : TI := fun σ H R => ta σ H fun vs H1 => ∃ a b xs ys, vs = [.ref a, .ref b] ∧ SqT K H1 a xs ∧ SqL K H1 b ys ∧ R (ItzM K a b) H1
theorem pi_zipM {X : Cx} {e e2 : Expr} {ta : TA} {p pos tpos : Pos} {elts : List Expr} {kk : Nat} (hg : Gl X "zip") (hm : X.mg "zip" = none) (ha : PA X [e, e2] ta)
    (hs : starEach [e, e2] X.env = (false, eval e X.env) :: starEach [e2] X.env := by rfl) (hpl : (backTo pos (starEach [e2] X.env)).any (·.1) = false := by rfl) :
    PI X (.Tuple elts kk tpos) (.Call (.Name "zip" p) [e, e2] [] pos) (iZipM X.K ta) := by
  refine ⟨fun pins s σ H R I h => ?_⟩
  refine Call_ (ld_blt I hg hm PyProof.Rows.boot_zip (PyProof.Rows.callWith_type1 (thn (ha.run pos pins s σ H _ I h) fun us s1 ⟨vs, H1, I1, r1, a, b, xs, ys, ex, qx, qy, q⟩ => ?_) hs hpl))
  subst ex
  obtain ⟨u1, u2, eu, ra, rb⟩ := vals2 r1
  subst eu
  obtain rfl : u1 = Value.ref a := ra
  obtain rfl : u2 = Value.ref b := rb
  obtain ⟨its, rv, t1, _⟩ := I1.tuple qx
  obtain ⟨its2, rv2, t2, _⟩ := I1.list qy
  obtain ⟨o1, ho1, _⟩ := id t1
  have fresh : ∀ c, c ∈ [s1.heap.objs.size + 4, s1.heap.objs.size + 2, s1.heap.objs.size + 3, s1.heap.objs.size, s1.heap.objs.size + 1] → FpOk X pins H1 c := fun c hc => by
    have le : s1.heap.objs.size ≤ c := by rcases five hc with q | q | q | q | q <;> omega
    exact I1.fpOk le (I1.hok.fresh le)
  refine call_zm (show s1.heap.IsTuple a its.toArray from t1) t2.isList fun h' hz hTI hTO p1 p2 hk => wpAny_pyIter_zip hz ?_
  have I2 : Inv X pins σ H1 { s1 with heap := h' } := I1.kept (t' := s1.toks) hk
  exact ⟨s1.heap.objs.size + 4, [s1.heap.objs.size + 4, s1.heap.objs.size + 2, s1.heap.objs.size + 3, s1.heap.objs.size, s1.heap.objs.size + 1], _, _, H1, rfl, I2, turn_zm (PySem.W.ktu_apart s1.heap.objs.size a b (Heap.lt_size ho1) t2.lt), ⟨hz, hTI, ⟨_, _, hTO⟩, p1, p2⟩, fresh, q⟩
theorem walk_zm {K : PySem.W.Frag} {a b : Addr} {xs ys : List V} {n : Nat} (hn : n = min xs.length ys.length) : Walk (ItzM K a b) n (fun H => SqT K H a xs ∧ SqL K H b ys) (YPair (fun i => xs[i]?) (fun i => ys[i]?)) := by
  subst hn
  refine ⟨fun i _ hi q => ?_, fun _ q => ⟨xs, ys, q.1, q.2, by omega⟩, fun i H v H' _ q ⟨T, x, z, e1, e2, e3, e4, e5⟩ => ⟨T, x, z, e1, e2, e3, e4 xs q.1, e5 ys q.2⟩⟩
  have h1 : i < xs.length := by omega
  have h2 : i < ys.length := by omega
  exact ⟨xs, ys, xs[i], ys[i], q.1, q.2, by simp [h1], by simp [h2]⟩
end XZ

/-! xs != [] of any list; str(x) of a text or a whole number -/
namespace XR
open PySem PySem.Spec PyProof.Rows L2
section
variable {X : Cx}
def rNeNil (K : PySem.W.Frag) : R2 := fun x y H Q => ∃ (a b : Addr) (xs : List V), x = .ref a ∧ y = .ref b ∧ SqL K H a xs ∧ SqL K H b [] ∧ Q (.bl (!xs.isEmpty)) H
theorem op_neNil (hu : X.A.units < cLine) : OpR X (compareOp .NotEq) (rNeNil X.K) := by
  intro pins s σ H x y v u Q I rx ry h
  obtain ⟨a, b, xs, rfl, rfl, ha, hb, q⟩ := h
  obtain rfl : v = Value.ref a := rx
  obtain rfl : u = Value.ref b := ry
  obtain ⟨its, r1, l1, _⟩ := I.list ha
  obtain ⟨its2, r2, l2, _⟩ := I.list hb
  cases r2
  have len := r1.length
  show wpAny (model X.prog X.w) X.A (richCompare .NotEq (.ref a) (.ref b)) (EP X pins σ Q) X.xe s
  cases xs with
  | nil =>
    cases r1
    exact PySem.SeqAt.RcNeAt.lists (e := fun _ => true) l1.isList l2.isList rfl hu (fun j h1 _ => absurd h1 (Nat.not_lt_zero _)) X.prog X.w X.xe _ ⟨.bl false, H, I, rfl, q⟩
  | cons x xs =>
    refine PySem.SeqAt.RcNeAt.lists_lengths l1.isList l2.isList ?_ hu X.prog X.w X.xe _ ⟨.bl true, H, I, rfl, q⟩
    simp only [List.size_toArray, List.length_nil, bne_iff_ne, ne_eq]
    rw [← len]
    simp
/-- str(x) -/
theorem call_strSI : CallR X (.type "str") (fun xs H Q => (∃ a, xs = [.str a] ∧ Q (.str a) H) ∨ ∃ i : Int, xs = [.int i] ∧ i.natAbs.log2 < 1920 ∧ Q (.str (toString i)) H) := by
  intro pins s σ H xs us Q I r h
  rcases h with h | h
  · exact SkE.call_str_str pins s σ H xs us Q I r h
  · exact call_str_int pins s σ H xs us Q I r h
end
end XR

/-! xs == [] of any list -/
namespace XR
open PySem PySem.Spec PyProof.Rows L2
section
variable {X : Cx}
def rEqNil (K : PySem.W.Frag) : R2 := fun x y H Q => ∃ (a b : Addr) (xs : List V), x = .ref a ∧ y = .ref b ∧ SqL K H a xs ∧ SqL K H b [] ∧ Q (.bl xs.isEmpty) H
theorem op_eqNil (hu : X.A.units < cLine) : OpR X (compareOp .Eq) (rEqNil X.K) := by
  intro pins s σ H x y v u Q I rx ry h
  obtain ⟨a, b, xs, rfl, rfl, ha, hb, q⟩ := h
  obtain rfl : v = Value.ref a := rx
  obtain rfl : u = Value.ref b := ry
  obtain ⟨its, r1, l1, _⟩ := I.list ha
  obtain ⟨its2, r2, l2, _⟩ := I.list hb
  cases r2
  have len := r1.length
  show wpAny (model X.prog X.w) X.A (richCompare .Eq (.ref a) (.ref b)) (EP X pins σ Q) X.xe s
  cases xs with
  | nil =>
    cases r1
    exact PySem.SeqAt.RcAt.lists (e := fun _ => true) l1.isList l2.isList rfl hu (fun j h1 _ => absurd h1 (Nat.not_lt_zero _)) X.prog X.w X.xe _ ⟨.bl true, H, I, rfl, q⟩
  | cons x xs =>
    refine PySem.SeqAt.RcAt.lists_lengths l1.isList l2.isList ?_ hu X.prog X.w X.xe _ ⟨.bl false, H, I, rfl, q⟩
    simp only [List.size_toArray, List.length_nil, bne_iff_ne, ne_eq]
    rw [← len]
    simp
end
end XR

/-! {k: v}, k a tuple -/
namespace XR
open PySem PySem.Spec PyProof.Rows L2
def tDispT (tk tv : TE) : TE := fun σ H Q => ∀ p, H p = none → tk σ (upd H p (.dT [])) fun x H1 => tv σ H1 fun y H2 => H2 p = some (.dT []) ∧ ∃ (ks : List L2.Key) (b : Addr), x = .ref b ∧ H2 b = some (.tup (ks.map kV)) ∧ Q (.ref p) (upd H2 p (.dT [(ks, y)]))
def dispQ (p : Addr) (Q : VK) : List (V × V) → Hp → Prop
  | [(x, y)], H2 => H2 p = some (.dT []) ∧ ∃ (ks : List L2.Key) (b : Addr), x = .ref b ∧ H2 b = some (.tup (ks.map kV)) ∧ Q (.ref p) (upd H2 p (.dT [(ks, y)]))
  | _, _ => False
theorem pe_dispT {X : Cx} {pos : Pos} {k v : Expr} {tk tv : TE} (hu : X.A.units + 1 < cLine) (hk : PE X k tk) (hv : PE X v tv) : PE X (.Dict [some k] [v] pos) (tDispT tk tv) := by
  refine ⟨fun pins s σ H Q I h => ?_⟩
  have hn := I.hok.fresh (Nat.le_refl s.heap.objs.size)
  have I1 := I.laid (a := s.heap.objs.size) (o := .dT []) (h' := s.heap.push { cls := .type "dict", data := .dict #[] }) (t' := s.toks) (fun _ _ q => Heap.get?_push_of_some _ q) (Nat.le_refl _) (dt_empty s.heap I.big)
  rw [arm_eval_Dict, show (evalEachOpt [some k] X.env).zip ((evalEach [v] X.env).map fun v => do let x ← v; standAt pos; pure x) = (pairTrees [some k] [v] X.env pos).map (fun p => (some p.1, p.2)) from rfl, dictDisplay_pairs _ (by intro z; cases z) (by show 1 < 17; decide)]
  refine wpAny_bind (wpAny_standAt (wpAny_bind (wpAny_subDictH (knd := tupleKind (mixKind X.prog X.w)) (show X.A.units < cLine by omega) (by show 1 ≤ 15; decide) ?_)))
  refine thn ((pps_cons hk hv pps_nil).run pins _ σ _ (dispQ s.heap.objs.size Q) I1 (h _ hn)) fun ws s2 ⟨ps, H2, I2, rel, hq⟩ => ?_
  match ps, rel, hq with
  | [(x, y)], rel, hq =>
    obtain ⟨e, ks, b, ex, eb, q⟩ := hq
    subst ex
    cases rel with
    | @cons _ kv _ _ r0 rt =>
    cases rt
    obtain ⟨kv1, kv2⟩ := kv
    obtain ⟨r1, r2⟩ := r0
    obtain rfl : kv1 = Value.ref b := r1
    obtain ⟨z, hd, xs, rel2, dd⟩ := dt_of I2.hok e
    cases rel2
    refine ⟨[(ks, b, kv2)], ⟨rfl, rfl, key_of I2.hok eb, trivial⟩, dd, fun h' tk' dd' hs => wpAny_pure ⟨.ref s.heap.objs.size, _, ?_, rfl, q⟩⟩
    obtain ⟨o, es, ep, ho, h2, h3, h4, _, h5⟩ := dd'
    refine d_write I2 (by rw [e]; exact True.intro) hs ⟨o, ho⟩ ⟨by show 1 ≤ sizeLine; decide, hd, _, ?_, o, es, ep, ho, h2, h3, h4, h5⟩
    refine .cons ⟨rfl, ?_, r2⟩ .nil
    show (upd H2 s.heap.objs.size (.dT [(ks, y)])) b = some (.tup (ks.map kV))
    rw [upd_ne (ne_of eb e (fun z => nomatch z))]
    exact eb
end XR

/-! comprehensions item by item; what is told of the items ahead is at hand -/
namespace XR
open PySem L2
theorem dc_it {J : It} {n : Nat} {G : Hp → Prop} {Y : Nat → Hp → V → Hp → Prop} (w : Walk J n G Y) {g : TG} {tt : TT} {tk tv : TE} {vs : List Nat} {σ : L2.St} {H1 : Hp} {D : Addr} {Qd : Hp → Prop} (Pv : Nat → Hp → Prop) (h0 : Pv 0 (upd H1 D (.dK []))) (hG : ∀ i H, i ≤ n → Pv i H → G H)
    (hs : ∀ i x H H', i < n → Pv i H → Y i H x H' → g x (wipe σ vs) H' fun σ2 H2 => wipe σ2 vs = wipe σ vs ∧ tt σ2 H2 fun b H3 =>
      if b = true then tk σ2 H3 fun y H4 => tv σ2 H4 fun z H5 => ∃ kvs k, y = kV k ∧ H5 D = some (.dK kvs) ∧ kvs.length < sizeLine ∧ Pv (i + 1) (upd H5 D (.dK (putK kvs k z))) else Pv (i + 1) H3) (hd : ∀ H, Pv n H → Qd H) :
    ∃ W : Nat → Nat → Hp → Prop, (∃ m, W 0 m (upd H1 D (.dK []))) ∧ ∀ i m H, W i m H →
      (J.stop i H ∧ Qd H) ∨ (J.go i H ∧ ∃ Nx : Hp → Prop, (∀ H', Nx H' → ∃ m', m' < m ∧ W (i + 1) m' H') ∧ ∀ x H', J.yld i H x H' → g x (wipe σ vs) H' fun σ2 H2 => wipe σ2 vs = wipe σ vs ∧ tt σ2 H2 fun b H3 =>
        if b = true then tk σ2 H3 fun y H4 => tv σ2 H4 fun z H5 => ∃ kvs k, y = kV k ∧ H5 D = some (.dK kvs) ∧ kvs.length < sizeLine ∧ Nx (upd H5 D (.dK (putK kvs k z))) else Nx H3) := by
  refine ⟨fun i m H => m = n - i ∧ i ≤ n ∧ Pv i H, ⟨n, by simp, Nat.zero_le _, h0⟩, ?_⟩
  rintro i m H ⟨rfl, hi, p⟩
  have q := hG i H hi p
  by_cases hlt : i < n
  · exact .inr ⟨w.goes i H hlt q, Pv (i + 1), fun H' p' => ⟨n - (i + 1), by omega, rfl, hlt, p'⟩, fun x H' y => hs i x H H' hlt p (w.yields i H x H' hlt q y)⟩
  · have e : i = n := by omega
    subst e
    exact .inl ⟨w.stops H q, hd H p⟩
theorem yes_t {σ : L2.St} {H : Hp} {F M : Hp → Prop} (h : F H) : tYes σ H (fun b H3 => if b = true then F H3 else M H3) := by
  show (if true = true then F H else M H)
  rw [if_pos rfl]
  exact h
theorem app_get {α : Type} {l : List α} {x y : α} {j : Nat} (h : (l ++ [x])[j]? = some y) : (j < l.length ∧ l[j]? = some y) ∨ (j = l.length ∧ y = x) := by
  by_cases hj : j < l.length
  · rw [List.getElem?_append_left hj] at h
    exact .inl ⟨hj, h⟩
  · have hl := (List.getElem?_eq_some_iff.mp h).1
    rw [List.length_append] at hl
    have hl2 : j < l.length + 1 := hl
    have e : j = l.length := by omega
    subst e
    rw [List.getElem?_append_right (Nat.le_refl _), Nat.sub_self] at h
    cases h
    exact .inr ⟨rfl, rfl⟩
theorem mkv_snoc : ∀ {ks : List Str} {vs : List V} {k : Str} {v : V}, ks.length = vs.length → VT.mkv (ks ++ [k]) (vs ++ [v]) = VT.mkv ks vs ++ [(Sum.inr k, v)] := fun {ks vs k v} h => by
  unfold VT.mkv
  rw [List.zip_append h, List.map_append]
  rfl
theorem lc_relX {J : It} {n : Nat} {G : Hp → Prop} {Y : Nat → Hp → V → Hp → Prop} (w : Walk J n G Y) {g : TG} {te : TE} {vs : List Nat} {σ : L2.St} {H1 : Hp} {D : Addr} {Qd : Hp → Prop} (hD : H1 D = none) (hz : n < sizeLine) (R : Nat → Hp → V → Prop)
    (mS : ∀ i H H' v, Same H H' → R i H v → R i H' v) (mD : ∀ i H H' v l, But D H H' → H D = some (.lst l) → R i H v → R i H' v) (hG : ∀ H', Same H1 H' → G H')
    (hs : ∀ i x H2 H3, i < n → Same H1 H2 → (∀ j, j < i → ∃ H v, R j H v) → Y i H2 x H3 → ∀ N : V → Hp → Prop, (∀ y H5, Same H2 H5 → R i H5 y → N y H5) → g x (wipe σ vs) H3 fun σ2 H4 => wipe σ2 vs = wipe σ vs ∧ te σ2 H4 N)
    (mono : ∀ x H3 (Q Q' : L2.St → Hp → Prop), (∀ σ2 H4, Q σ2 H4 → Q' σ2 H4) → g x (wipe σ vs) H3 Q → g x (wipe σ vs) H3 Q')
    (hd : ∀ H' ys, Same H1 H' → H' D = some (.lst ys) → ys.length = n → (∀ i v, ys[i]? = some v → R i H' v) → Qd H') :
    ∃ W : Nat → Nat → Hp → Prop, (∃ m, W 0 m (upd H1 D (.lst []))) ∧ ∀ i m H, W i m H →
      (J.stop i H ∧ Qd H) ∨ (J.go i H ∧ ∃ Nx : Hp → Prop, (∀ H', Nx H' → ∃ m', m' < m ∧ W (i + 1) m' H') ∧ ∀ x H', J.yld i H x H' → g x (wipe σ vs) H' fun σ2 H2 => wipe σ2 vs = wipe σ vs ∧ tYes σ2 H2 fun b H3 =>
        if b = true then te σ2 H3 fun y H4 => ∃ acc, H4 D = some (.lst acc) ∧ acc.length < sizeLine ∧ Nx (upd H4 D (.lst (acc ++ [y]))) else Nx H3) := by
  refine lc_it w (fun i H' => Same H1 H' ∧ ∃ acc, H' D = some (.lst acc) ∧ acc.length = i ∧ ∀ j v, acc[j]? = some v → R j H' v) ⟨same_new hD, [], upd_same, rfl, fun j v h => nomatch h⟩ (fun i H' _ q => hG H' q.1) ?_ ?_
  · rintro i x H2 H3 hi ⟨m, acc, f, hl, hr⟩ hy
    have pr : ∀ j, j < i → ∃ H v, R j H v := fun j hj => ⟨H2, _, hr j acc[j] (List.getElem?_eq_getElem (by omega))⟩
    refine mono x H3 _ _ (fun σ2 H4 q => ⟨q.1, yes_i q.2⟩) (hs i x H2 H3 hi m pr hy _ fun y H5 m5 ry => ?_)
    have f5 := m5 _ _ f
    have bu : But D H5 (upd H5 D (.lst (acc ++ [y]))) := But.upd
    refine ⟨acc, f5, by omega, fun b o e => ?_, acc ++ [y], upd_same, by rw [List.length_append, hl]; rfl, fun j v hj => ?_⟩
    · rw [upd_ne (ne_of_none e hD)]
      exact m5 _ _ (m _ _ e)
    · rcases app_get hj with ⟨_, q⟩ | ⟨q, q2⟩
      · exact mD j _ _ v _ bu f5 (mS j _ _ v m5 (hr j v q))
      · subst q q2
        rw [hl]
        exact mD i _ _ _ _ bu f5 ry
  · rintro H' ⟨m, acc, f, hl, hr⟩
    exact hd H' acc m f hl hr
theorem dc_rel {J : It} {n : Nat} {G : Hp → Prop} {Y : Nat → Hp → V → Hp → Prop} (w : Walk J n G Y) {g : TG} {tk tv : TE} {vs : List Nat} {σ : L2.St} {H1 : Hp} {D : Addr} {Qd : Hp → Prop} (hD : H1 D = none) (ks : List Str) (hk : ks.length = n) (nd : ks.Nodup) (hz : n < sizeLine) (R : Nat → Hp → V → Prop)
    (mS : ∀ i H H' v, Same H H' → R i H v → R i H' v) (mD : ∀ i H H' v, But D H H' → R i H v → R i H' v) (hG : ∀ H', Same H1 H' → G H')
    (hs : ∀ i x k H2 H3, ks[i]? = some k → Same H1 H2 → H2 D ≠ none → (∀ j, j < i → ∃ H v, R j H v) → Y i H2 x H3 → ∀ N : V → V → Hp → Prop, (∀ y H5, Same H2 H5 → R i H5 y → N (.str k) y H5) → g x (wipe σ vs) H3 fun σ2 H4 => wipe σ2 vs = wipe σ vs ∧ tk σ2 H4 fun y H5 => tv σ2 H5 (N y))
    (mono : ∀ x H3 (Q Q' : L2.St → Hp → Prop), (∀ σ2 H4, Q σ2 H4 → Q' σ2 H4) → g x (wipe σ vs) H3 Q → g x (wipe σ vs) H3 Q')
    (hd : ∀ H' ys, Same H1 H' → H' D = some (.dK (VT.mkv ks ys)) → ys.length = n → (∀ i v, ys[i]? = some v → R i H' v) → Qd H') :
    ∃ W : Nat → Nat → Hp → Prop, (∃ m, W 0 m (upd H1 D (.dK []))) ∧ ∀ i m H, W i m H →
      (J.stop i H ∧ Qd H) ∨ (J.go i H ∧ ∃ Nx : Hp → Prop, (∀ H', Nx H' → ∃ m', m' < m ∧ W (i + 1) m' H') ∧ ∀ x H', J.yld i H x H' → g x (wipe σ vs) H' fun σ2 H2 => wipe σ2 vs = wipe σ vs ∧ tYes σ2 H2 fun b H3 =>
        if b = true then tk σ2 H3 fun y H4 => tv σ2 H4 fun z H5 => ∃ kvs k, y = kV k ∧ H5 D = some (.dK kvs) ∧ kvs.length < sizeLine ∧ Nx (upd H5 D (.dK (putK kvs k z))) else Nx H3) := by
  refine dc_it w (fun i H' => Same H1 H' ∧ ∃ acc : List V, H' D = some (.dK (VT.mkv (ks.take i) acc)) ∧ acc.length = i ∧ ∀ j v, acc[j]? = some v → R j H' v) ⟨same_new hD, [], by rw [upd_same]; rfl, rfl, fun j v h => nomatch h⟩ (fun i H' _ q => hG H' q.1) ?_ ?_
  · rintro i x H2 H3 hi ⟨m, acc, f, hl, hr⟩ hy
    have hki : ks[i]? = some ks[i] := List.getElem?_eq_getElem (by omega)
    have pr : ∀ j, j < i → ∃ H v, R j H v := fun j hj => ⟨H2, _, hr j acc[j] (List.getElem?_eq_getElem (by omega))⟩
    refine mono x H3 _ _ (fun σ2 H4 q => ⟨q.1, ?_⟩) (hs i x ks[i] H2 H3 hki m (by rw [f]; intro z; cases z) pr hy (fun k0 z H5 => ∃ kvs k, k0 = kV k ∧ H5 D = some (.dK kvs) ∧ kvs.length < sizeLine ∧ (Same H1 (upd H5 D (.dK (putK kvs k z))) ∧ ∃ acc : List V, (upd H5 D (.dK (putK kvs k z))) D = some (.dK (VT.mkv (ks.take (i + 1)) acc)) ∧ acc.length = i + 1 ∧ ∀ j v, acc[j]? = some v → R j (upd H5 D (.dK (putK kvs k z))) v)) fun y H5 m5 ry => ?_)
    · exact yes_t q.2
    have f5 := m5 _ _ f
    have lt : (ks.take i).length = acc.length := by rw [List.length_take, hl]; omega
    have nk : ks[i] ∉ ks.take i := fun hm => by
      obtain ⟨j, hj, ej⟩ := List.mem_iff_getElem.mp hm
      rw [List.length_take] at hj
      rw [List.getElem_take] at ej
      have := (List.pairwise_iff_getElem.mp nd) j i (by omega) (by omega) (by omega)
      exact this ej
    have ep : putK (VT.mkv (ks.take i) acc) (Sum.inr ks[i]) y = VT.mkv (ks.take (i + 1)) (acc ++ [y]) := by
      rw [putK_new y (VT.mkv_none (vs := acc) nk), List.take_add_one, hki]
      exact (mkv_snoc lt).symm
    refine ⟨_, Sum.inr ks[i], rfl, f5, by rw [VT.mkv_length lt, List.length_take]; omega, ?_⟩
    rw [ep]
    have bu : But D H5 (upd H5 D (.dK (VT.mkv (ks.take (i + 1)) (acc ++ [y])))) := But.upd
    refine ⟨fun b o e => ?_, acc ++ [y], upd_same, by rw [List.length_append, hl]; rfl, fun j v hj => ?_⟩
    · rw [upd_ne (ne_of_none e hD)]
      exact m5 _ _ (m _ _ e)
    · rcases app_get hj with ⟨_, q⟩ | ⟨q, q2⟩
      · exact mD j _ _ v bu (mS j _ _ v m5 (hr j v q))
      · subst q q2
        rw [hl]
        exact mD i _ _ _ bu ry
  · rintro H' ⟨m, acc, f, hl, hr⟩
    rw [← hk, List.take_length] at f
    exact hd H' acc m f hl hr
end XR

/-! trees within a part of the heap -/
namespace VT
open PySem L2 XR
open Classical in
noncomputable def keepH (P : Addr → Prop) (H : Hp) : Hp := fun b => if P b then H b else none
variable {CU : Addr} {P : Addr → Prop} {H H' : Hp} {v : V} {d : D}
theorem keep_at {b : Addr} (h : P b) : keepH P H b = H b := by unfold keepH; rw [if_pos h]
theorem keep_some {b : Addr} {o : HO} (h : keepH P H b = some o) : P b ∧ H b = some o := by
  unfold keepH at h
  split at h
  · exact ⟨by assumption, h⟩
  · cases h
theorem keep_same (m : Same H H') : Same (keepH P H) (keepH P H') := fun b o e => by
  obtain ⟨p, e'⟩ := keep_some e
  rw [keep_at p]
  exact m b o e'
theorem Rep.ofKeep (h : Rep CU (keepH P H) v d) : Rep CU H v d := h.mono fun a o e _ => (keep_some e).2
theorem Rep.all (h : Rep CU H v d) : Rep CU (keepH (fun _ => True) H) v d := h.mono fun a o e _ => by rw [keep_at trivial]; exact e
theorem Rep.keepS (m : Same H H') (h : Rep CU (keepH P H) v d) : Rep CU (keepH P H') v d := h.same (keep_same m)
theorem Rep.within {P' : Addr → Prop} (hp : ∀ b o, P b → H b = some o → P' b) (h : Rep CU (keepH P H) v d) : Rep CU (keepH P' H) v d := h.mono fun a o e _ => by
  obtain ⟨p, e'⟩ := keep_some e
  rw [keep_at (hp a o p e')]
  exact e'
/-- a new object does not stand in it -/
theorem Rep.notNew {D : Addr} (hD : H D = none) (m : Same H H') (h : Rep CU (keepH P H) v d) : Rep CU (keepH (fun b => P b ∧ b ≠ D) H') v d := (h.within (P' := fun b => P b ∧ b ≠ D) fun b o p e => ⟨p, ne_of_none e hD⟩).keepS m
theorem keep_but {D : Addr} (m : But D H H') : Same (keepH (fun b => P b ∧ b ≠ D) H) (keepH (fun b => P b ∧ b ≠ D) H') := fun b o e => by
  obtain ⟨p, e'⟩ := keep_some e
  rw [keep_at p]
  exact m b o e' p.2
theorem keep_upd {a : Addr} {o : HO} (h : P a) : keepH P (upd H a o) = upd (keepH P H) a o := by
  funext b
  by_cases hb : b = a
  · subst hb
    rw [upd_same, keep_at h, upd_same]
  · rw [upd_ne hb]
    unfold keepH
    rw [upd_ne hb]
theorem keep_unlock {a : Addr} {od : Obj} {u w : HO} (e : H a = some (.frz od w)) (h : Rep CU (keepH P H) v d) : Rep CU (keepH P (upd H a u)) v d := h.mono fun b o e2 t => by
  obtain ⟨p, e'⟩ := keep_some e2
  have nb : b ≠ a := fun z => by
    rw [z, e] at e'
    cases e'
    rcases t with ⟨_, q⟩ | ⟨_, q⟩ | ⟨_, q⟩ <;> cases q
  rw [keep_at p, upd_ne nb]
  exact e'
theorem Rep.keepL {D : Addr} {l : List V} (m : But D H H') (e : H D = some (.lst l)) (h : Rep CU (keepH P H) v d) : Rep CU (keepH P H') v d := h.mono fun b o e2 t => by
  obtain ⟨p, e'⟩ := keep_some e2
  rw [keep_at p]
  refine m b o e' fun z => ?_
  rw [z, e] at e'
  cases e'
  exact tr_lst t
theorem same_none {b : Addr} (m : Same H H') (h : H' b = none) : H b = none := by
  cases e : H b with
  | none => rfl
  | some o => rw [m _ _ e] at h; cases h
theorem Rep.tupKid {a : Addr} {xs : List V} {ds : List D} (h : Rep CU H (.ref a) (.tup ds)) (e : H a = some (.tup xs)) : xs.length = ds.length ∧ ds.length ≤ 60 ∧ ∀ (i : Nat) (v : V) (d : D), xs[i]? = some v → ds[i]? = some d → Rep CU H v d := by
  cases h with
  | tup h hl hz hs =>
    rw [h] at e
    cases e
    exact ⟨hl, hz, hs⟩
theorem Rep.mapKid {a : Addr} {kvs : List (Key × V)} {ks : List Str} {ds : List D} (h : Rep CU H (.ref a) (.map ks ds)) (e : H a = some (.dK kvs)) : ∃ vs, kvs = mkv ks vs ∧ vs.length = ds.length ∧ ks.length = ds.length ∧ ds.length ≤ 60 ∧ ks.Nodup ∧ (∀ k ∈ ks, TxOk k) ∧ ∀ (i : Nat) (v : V) (d : D), vs[i]? = some v → ds[i]? = some d → Rep CU H v d := by
  cases h with
  | map h hv hk hz nd ko hs =>
    rw [h] at e
    cases e
    exact ⟨_, rfl, hv, hk, hz, nd, ko, hs⟩
end VT

/-! expressions, in plain Lean -/
namespace VT
open PySem L2
inductive X where
  | say (d : D)
  | ref (w a : Str)
  | out (a b : Str)
  | of (a b c : Str)
  | each (a b c : Str)
  | at (a b : Str) (x : X) (c : Str)
  | tup (l : List X)
  | map (ks : List Str) (l : List X)
  | join (l : List X)
  | iff (a b c : X)
  | same (a b : X)
  | size (a : X)
  | pick (a b : X)
def rowsD (ks : List Str) (ds : List D) : List D := (ks.zip ds).map fun p => .tup [.str p.1, p.2]
mutual
def toD : X → D
  | .say d => .tup [.str "say", d]
  | .ref w a => .tup [.str w, .str a]
  | .out a b => .tup [.str "out", .str a, .str b]
  | .of a b c => .tup [.str "of", .str a, .str b, .str c]
  | .each a b c => .tup [.str "each", .str a, .str b, .str c]
  | .at a b x c => .tup [.str "at", .str a, .str b, toD x, .str c]
  | .tup l => .tup [.str "tuple", .tup (toDL l)]
  | .map ks l => .tup [.str "map", .tup (rowsD ks (toDL l))]
  | .join l => .tup [.str "join", .tup (toDL l)]
  | .iff a b c => .tup [.str "if", toD a, toD b, toD c]
  | .same a b => .tup [.str "same", toD a, toD b]
  | .size a => .tup [.str "size", toD a]
  | .pick a b => .tup [.str "pick", toD a, toD b]
def toDL : List X → List D
  | [] => []
  | x :: l => toD x :: toDL l
end
mutual
def xd : X → Nat
  | .at _ _ x _ => xd x + 1
  | .tup l => xdL l + 1
  | .map _ l => xdL l + 1
  | .join l => xdL l + 1
  | .iff a b c => max (xd a) (max (xd b) (xd c)) + 1
  | .same a b => max (xd a) (xd b) + 1
  | .size a => xd a + 1
  | .pick a b => max (xd a) (xd b) + 1
  | _ => 0
def xdL : List X → Nat
  | [] => 0
  | x :: l => max (xd x) (xdL l)
end
theorem toDL_map : ∀ l : List X, toDL l = l.map toD
  | [] => rfl
  | x :: l => by rw [toDL, toDL_map l]; rfl
theorem xd_mem : ∀ {l : List X} {x : X}, x ∈ l → xd x ≤ xdL l
  | y :: l, x, h => by
    rw [xdL]
    rcases List.mem_cons.mp h with rfl | h
    · exact Nat.le_max_left _ _
    · exact Nat.le_trans (xd_mem h) (Nat.le_max_right _ _)
/-- an item of a value -/
def pck (v k : D) : Option D :=
  match v with
  | .tup l => if isTag l then none else (match k with | .int i => (if 0 ≤ i then l[i.toNat]? else none) | .unk => some .unk | _ => none)
  | .map ks ds => (match k with | .str s => (if s ∈ ks then some (get ks ds s) else none) | .unk => some .unk | _ => none)
  | .unk => (match k with | .str _ => some .unk | .unk => some .unk | .int i => (if 0 ≤ i then some .unk else none) | _ => none)
  | _ => none
def okJ : D → Bool
  | .str _ => true
  | .int _ => true
  | .unk => true
  | _ => false
def txt : D → Str
  | .str s => s
  | .int i => toString i
  | _ => ""
def jn (l : List D) : Option D := if l.all okJ then some (if l.any isU then .unk else .str (Txt.join "" (l.map txt))) else none
def szd : D → Option D
  | .unk => some .unk
  | .str s => some (.int s.length)
  | .tup l => if isTag l then none else some (.int l.length)
  | .map _ ds => some (.int ds.length)
  | _ => none
def eachD (v k : D) : Option D :=
  match v with
  | .unk => some .unk
  | .map ks ds => (ds.mapM (pck · k)).map (.map ks)
  | .tup l => (l.mapM (pck · k)).map .tup
  | _ => none
abbrev Nm := List (List Str × D)
def look (nm : Nm) (k : List Str) : Option D := List.lookup k nm
def opt (x : X) : Option D → Except X D
  | some d => .ok d
  | none => .error x
/-- what an expression comes to; N the floors of values -/
def wk (N : Nat) (nm : Nm) : Nat → X → Except X D
  | 0, x => .error x
  | n + 1, x => match x with
    | .say d => .ok d
    | .ref w a => opt x (look nm [w, a])
    | .out a b => opt x ((look nm ["call", a]).bind fun v => pck v (.str b))
    | .of a b c => opt x ((look nm ["block", a, b]).bind fun v => pck v (.str c))
    | .each a b c => opt x ((look nm ["block", a, b]).bind fun v => eachD v (.str c))
    | .at a b y c => (wk N nm n y).bind fun k => opt x ((look nm ["block", a, b]).bind fun v => (pck v k).bind fun u => pck u (.str c))
    | .iff a b c => (wk N nm n a).bind fun t => match t with
      | .bl true => wk N nm n b
      | .bl false => wk N nm n c
      | .unk => (wk N nm n b).bind fun d => (wk N nm n c).bind fun e => .ok (if may N d e = true ∧ opn N d + opn N e = 0 then d else .unk)
      | _ => .error x
    | .tup l => (l.mapM (wk N nm n)).bind fun ds => .ok (.tup ds)
    | .map ks l => (l.mapM (wk N nm n)).bind fun ds => .ok (.map ks ds)
    | .join l => (l.mapM (wk N nm n)).bind fun ds => opt x (jn ds)
    | .same a b => (wk N nm n a).bind fun d => (wk N nm n b).bind fun e => .ok (same N d e)
    | .size a => (wk N nm n a).bind fun d => opt x (szd d)
    | .pick a b => (wk N nm n a).bind fun d => (wk N nm n b).bind fun e => opt x (pck d e)
/-- the first that errs -/
theorem mapM_err {α β ε : Type} (f : α → Except ε β) : ∀ {l : List α} {i : Nat} {x : α} {e : ε}, l[i]? = some x → f x = .error e → (∀ j y, j < i → l[j]? = some y → ∃ b, f y = .ok b) → l.mapM f = .error e
  | a :: l, 0, x, e, h, hx, _ => by
    cases h
    rw [List.mapM_cons, hx]
    rfl
  | a :: l, i + 1, x, e, h, hx, hp => by
    obtain ⟨b, hb⟩ := hp 0 a (Nat.succ_pos _) rfl
    have ih := mapM_err f (l := l) (i := i) h hx fun j y hj hy => hp (j + 1) y (Nat.succ_lt_succ hj) hy
    rw [List.mapM_cons, hb]
    show (do let bs ← l.mapM f; pure (b :: bs)) = _
    rw [ih]
    rfl
theorem mapM_ok {α β ε : Type} (f : α → Except ε β) : ∀ {l : List α} {bs : List β}, l.length = bs.length → (∀ (i : Nat) x b, l[i]? = some x → bs[i]? = some b → f x = .ok b) → l.mapM f = .ok bs
  | [], [], _, _ => rfl
  | a :: l, b :: bs, h, hp => by
    have ih := mapM_ok f (l := l) (bs := bs) (Nat.succ.inj h) fun i x c h1 h2 => hp (i + 1) x c h1 h2
    rw [List.mapM_cons, hp 0 a b rfl rfl]
    show (do let bs ← l.mapM f; pure (b :: bs)) = _
    rw [ih]
    rfl
theorem mapMO_none {α β : Type} (f : α → Option β) : ∀ {l : List α} {i : Nat} {x : α}, l[i]? = some x → f x = none → l.mapM f = none
  | a :: l, 0, x, h, hx => by
    cases h
    rw [List.mapM_cons, hx]
    rfl
  | a :: l, i + 1, x, h, hx => by
    have ih := mapMO_none f (l := l) (i := i) h hx
    rw [List.mapM_cons]
    cases f a with
    | none => rfl
    | some b =>
      show (do let bs ← l.mapM f; pure (b :: bs)) = _
      rw [ih]
      rfl
theorem mapMO_ok {α β : Type} (f : α → Option β) : ∀ {l : List α} {bs : List β}, l.length = bs.length → (∀ (i : Nat) x b, l[i]? = some x → bs[i]? = some b → f x = some b) → l.mapM f = some bs
  | [], [], _, _ => rfl
  | a :: l, b :: bs, h, hp => by
    have ih := mapMO_ok f (l := l) (bs := bs) (Nat.succ.inj h) fun i x c h1 h2 => hp (i + 1) x c h1 h2
    rw [List.mapM_cons, hp 0 a b rfl rfl]
    show (do let bs ← l.mapM f; pure (b :: bs)) = _
    rw [ih]
    rfl
end VT

/-! expressions: bounds -/
namespace VT
open PySem L2 TL
inductive BD (T : Nat) : D → Prop
  | non : BD T .non
  | bl (b : Bool) : BD T (.bl b)
  | int (i : Int) (h : i.natAbs < 10 ^ 12) : BD T (.int i)
  | str (s : Str) (h : PyData.strOk s = true) (l : s.length ≤ T) : BD T (.str s)
  | unk : BD T .unk
  | tup {l : List D} (h : ∀ d ∈ l, BD T d) (hl : l.length ≤ 60) : BD T (.tup l)
  | map {ks : List Str} {ds : List D} (h : ∀ d ∈ ds, BD T d) (hl : ds.length ≤ 60) : BD T (.map ks ds)
theorem BD.mono {T T' : Nat} (ht : T ≤ T') {d : D} (h : BD T d) : BD T' d := by
  induction h with
  | non => exact .non
  | bl b => exact .bl b
  | int i h => exact .int i h
  | str s h l => exact .str s h (Nat.le_trans l ht)
  | unk => exact .unk
  | tup h hl ih => exact .tup ih hl
  | map h hl ih => exact .map ih hl
inductive Kn : D → Prop
  | non : Kn .non
  | bl (b : Bool) : Kn (.bl b)
  | int (i : Int) : Kn (.int i)
  | str (s : Str) : Kn (.str s)
  | tup {l : List D} (h : ∀ d ∈ l, Kn d) : Kn (.tup l)
  | map {ks : List Str} {ds : List D} (h : ∀ d ∈ ds, Kn d) : Kn (.map ks ds)
/-- keys unlike, no text with the sign that opens a Tag, but in Tags -/
inductive Gd : D → Prop
  | non : Gd .non
  | bl (b : Bool) : Gd (.bl b)
  | int (i : Int) : Gd (.int i)
  | str (s : Str) (h : 35 ∉ s.cps.toList) : Gd (.str s)
  | unk : Gd .unk
  | tag {l : List D} (h : isTag l = true) : Gd (.tup l)
  | tup {l : List D} (h : ∀ d ∈ l, Gd d) : Gd (.tup l)
  | map {ks : List Str} {ds : List D} (nd : ks.Nodup) (hl : ks.length = ds.length) (h : ∀ d ∈ ds, Gd d) : Gd (.map ks ds)
inductive XG : X → Prop
  | say {d : D} (h : BD 20 d) (hd : dep d ≤ 4) (g : Gd d) (k : Kn d) : XG (.say d)
  | ref {w a : Str} (h : w = "param" ∨ w = "own") : XG (.ref w a)
  | out (a b : Str) : XG (.out a b)
  | of (a b c : Str) : XG (.of a b c)
  | each (a b c : Str) : XG (.each a b c)
  | at (a b : Str) {x : X} (c : Str) (h : XG x) : XG (.at a b x c)
  | tup {l : List X} (h : ∀ x ∈ l, XG x) (hl : l.length ≤ 3) : XG (.tup l)
  | map {ks : List Str} {l : List X} (h : ∀ x ∈ l, XG x) (hl : l.length ≤ 3) (hk : ks.length = l.length) (nd : ks.Nodup) : XG (.map ks l)
  | join {l : List X} (h : ∀ x ∈ l, XG x) (hl : l.length ≤ 3) : XG (.join l)
  | iff {a b c : X} (ha : XG a) (hb : XG b) (hc : XG c) : XG (.iff a b c)
  | same {a b : X} (ha : XG a) (hb : XG b) : XG (.same a b)
  | size {a : X} (ha : XG a) : XG (.size a)
  | pick {a b : X} (ha : XG a) (hb : XG b) : XG (.pick a b)
def NG (nm : Nm) : Prop := ∀ q ∈ nm, BD 20 q.2 ∧ dep q.2 ≤ 6
theorem look_mem : ∀ {nm : Nm} {k : List Str} {d : D}, look nm k = some d → ∃ q ∈ nm, q.2 = d
  | (k0, d0) :: nm, k, d, h => by
    unfold look at h
    rw [List.lookup_cons] at h
    split at h
    · cases h
      exact ⟨_, List.mem_cons_self, rfl⟩
    · obtain ⟨q, hq, e⟩ := look_mem (nm := nm) (k := k) (d := d) h
      exact ⟨q, List.mem_cons_of_mem _ hq, e⟩
theorem get_in {ks : List Str} {ds : List D} {k : Str} : get ks ds k = .non ∨ get ks ds k ∈ ds := by
  unfold get
  cases h : (ks.zip ds).lookup k with
  | none => exact .inl rfl
  | some d =>
    refine .inr ?_
    show d ∈ ds
    have : ∀ {l : List (Str × D)}, l.lookup k = some d → ∃ q ∈ l, q.2 = d := by
      intro l
      induction l with
      | nil => intro h; cases h
      | cons q l ih =>
        intro h
        rw [List.lookup_cons] at h
        split at h
        · cases h
          exact ⟨_, List.mem_cons_self, rfl⟩
        · obtain ⟨q', a, b⟩ := ih h
          exact ⟨q', List.mem_cons_of_mem _ a, b⟩
    obtain ⟨q, hq, rfl⟩ := this h
    exact (List.of_mem_zip (a := q.1) (b := q.2) hq).2
/-- an item is within the bounds of its value -/
theorem pck_good {T n : Nat} {v k d : D} (h : pck v k = some d) (hv : BD T v) (hd : dep v ≤ n) : BD T d ∧ dep d ≤ n := by
  have unk : BD T .unk ∧ dep .unk ≤ n := ⟨.unk, Nat.zero_le _⟩
  cases hv with
  | @tup l hl hz =>
    by_cases ht : isTag l = true
    · have : pck (.tup l) k = none := by show (if isTag l then none else _) = _; rw [if_pos ht]
      rw [this] at h
      cases h
    · cases k with
      | int i =>
        have h' : (if isTag l then none else (if 0 ≤ i then l[i.toNat]? else none)) = some d := h
        rw [if_neg ht] at h'
        split at h'
        · have m := List.mem_of_getElem? h'
          have := dep_mem m
          rw [dep] at hd
          exact ⟨hl d m, by omega⟩
        · cases h'
      | unk =>
        have h' : (if isTag l then none else some D.unk) = some d := h
        rw [if_neg ht] at h'
        cases h'
        exact unk
      | _ =>
        have h' : (if isTag l then none else (none : Option D)) = some d := h
        rw [if_neg ht] at h'
        cases h'
  | @map ks ds hl hz =>
    cases k with
    | str s =>
      have h' : (if s ∈ ks then some (get ks ds s) else none) = some d := h
      split at h'
      · cases h'
        rcases get_in (ks := ks) (ds := ds) (k := s) with e | e
        · rw [e]
          exact ⟨.non, Nat.zero_le _⟩
        · have := dep_mem e
          rw [dep] at hd
          exact ⟨hl _ e, by omega⟩
      · cases h'
    | unk => cases h; exact unk
    | _ => cases h
  | unk =>
    cases k with
    | str s => cases h; exact unk
    | unk => cases h; exact unk
    | int i =>
      have h' : (if 0 ≤ i then some D.unk else none) = some d := h
      split at h'
      · cases h'; exact unk
      · cases h'
    | _ => cases h
  | _ => cases h
theorem mapMO_get {α β : Type} (f : α → Option β) : ∀ {l : List α} {bs : List β}, l.mapM f = some bs → bs.length = l.length ∧ ∀ b ∈ bs, ∃ a ∈ l, f a = some b
  | [], bs, h => by
    cases h
    exact ⟨rfl, fun b hb => nomatch hb⟩
  | a :: l, bs, h => by
    rw [List.mapM_cons] at h
    cases e : f a with
    | none => rw [e] at h; cases h
    | some b =>
      rw [e] at h
      cases e2 : l.mapM f with
      | none =>
        have h' : (do let bs ← l.mapM f; pure (b :: bs)) = some bs := h
        rw [e2] at h'
        cases h'
      | some cs =>
        have h' : (do let bs ← l.mapM f; pure (b :: bs)) = some bs := h
        rw [e2] at h'
        cases h'
        obtain ⟨i1, i2⟩ := mapMO_get f e2
        refine ⟨by rw [List.length_cons, List.length_cons, i1], fun x hx => ?_⟩
        rcases List.mem_cons.mp hx with rfl | hx
        · exact ⟨a, List.mem_cons_self, e⟩
        · obtain ⟨y, hy, ey⟩ := i2 x hx
          exact ⟨y, List.mem_cons_of_mem _ hy, ey⟩
theorem mapM_get {α β ε : Type} (f : α → Except ε β) : ∀ {l : List α} {bs : List β}, l.mapM f = .ok bs → bs.length = l.length ∧ ∀ b ∈ bs, ∃ a ∈ l, f a = .ok b
  | [], bs, h => by
    cases h
    exact ⟨rfl, fun b hb => nomatch hb⟩
  | a :: l, bs, h => by
    rw [List.mapM_cons] at h
    cases e : f a with
    | error x => rw [e] at h; cases h
    | ok b =>
      rw [e] at h
      have h' : (do let bs ← l.mapM f; pure (b :: bs)) = Except.ok bs := h
      cases e2 : l.mapM f with
      | error x => rw [e2] at h'; cases h'
      | ok cs =>
        rw [e2] at h'
        cases h'
        obtain ⟨i1, i2⟩ := mapM_get f e2
        refine ⟨by rw [List.length_cons, List.length_cons, i1], fun x hx => ?_⟩
        rcases List.mem_cons.mp hx with rfl | hx
        · exact ⟨a, List.mem_cons_self, e⟩
        · obtain ⟨y, hy, ey⟩ := i2 x hx
          exact ⟨y, List.mem_cons_of_mem _ hy, ey⟩
theorem each_good {T n : Nat} {v k d : D} (h : eachD v k = some d) (hv : BD T v) (hd : dep v ≤ n) : BD T d ∧ dep d ≤ n := by
  have kid : ∀ (l ds : List D), l.mapM (pck · k) = some ds → (∀ d ∈ l, BD T d) → l.length ≤ 60 → depL l + 1 ≤ n → (∀ d ∈ ds, BD T d) ∧ ds.length ≤ 60 ∧ depL ds + 1 ≤ n := fun l ds e hb hl hdp => by
    obtain ⟨a1, a2⟩ := mapMO_get _ e
    have g : ∀ d ∈ ds, BD T d ∧ dep d ≤ n - 1 := fun d hd => by
      obtain ⟨x, hx, ex⟩ := a2 d hd
      exact pck_good ex (hb x hx) (by have := dep_mem hx; omega)
    exact ⟨fun d hd => (g d hd).1, by omega, by have := depL_le fun d hd => (g d hd).2; omega⟩
  cases hv with
  | @tup l hl hz =>
    have h' : (l.mapM (pck · k)).map D.tup = some d := h
    obtain ⟨ds, e, rfl⟩ := Option.map_eq_some_iff.mp h'
    rw [dep] at hd
    obtain ⟨b1, b2, b3⟩ := kid l ds e hl hz hd
    exact ⟨.tup b1 b2, by rw [dep]; exact b3⟩
  | @map ks l hl hz =>
    have h' : (l.mapM (pck · k)).map (D.map ks) = some d := h
    obtain ⟨ds, e, rfl⟩ := Option.map_eq_some_iff.mp h'
    rw [dep] at hd
    obtain ⟨b1, b2, b3⟩ := kid l ds e hl hz hd
    exact ⟨.map b1 b2, by rw [dep]; exact b3⟩
  | unk => cases h; exact ⟨.unk, Nat.zero_le _⟩
  | _ => cases h
theorem joinL_nil : ∀ (ps : List (List Nat)), (joinL [] ps).length = (ps.map List.length).sum ∧ ∀ c ∈ joinL [] ps, ∃ p ∈ ps, c ∈ p
  | [] => ⟨rfl, fun c hc => nomatch hc⟩
  | [p] => ⟨by simp [joinL], fun c hc => ⟨p, List.mem_cons_self, hc⟩⟩
  | p :: q :: r => by
    obtain ⟨h1, h2⟩ := joinL_nil (q :: r)
    refine ⟨?_, fun c hc => ?_⟩
    · show (p ++ ([] ++ joinL [] (q :: r))).length = _
      rw [List.length_append, List.nil_append, h1]
      simp
    · have hc' : c ∈ p ++ ([] ++ joinL [] (q :: r)) := hc
      rcases List.mem_append.mp hc' with h | h
      · exact ⟨p, List.mem_cons_self, h⟩
      · obtain ⟨x, hx, hcx⟩ := h2 c h
        exact ⟨x, List.mem_cons_of_mem _ hx, hcx⟩
theorem strOk_iff (s : Str) : PyData.strOk s = true ↔ ∀ c ∈ s.cps.toList, c < 0x110000 := by
  unfold PyData.strOk
  rw [Array.all_eq_true_iff_forall_mem]
  simp
theorem join_len (ys : List Str) : (Txt.join "" ys).length = (ys.map (·.length)).sum := by
  rw [join_eq]
  have h := tl_join "" ys
  have e : (Str.join "" ys).length = (tl (Str.join "" ys)).length := by simp [Str.length]
  rw [e, h]
  have := (joinL_nil (ys.map tl)).1
  rw [show tl (Str.ofString "") = [] from by decide +kernel, this, List.map_map]
  congr 1
theorem join_ok (ys : List Str) (h : ∀ y ∈ ys, PyData.strOk y = true) : PyData.strOk (Txt.join "" ys) = true := by
  rw [join_eq, strOk_iff]
  intro c hc
  have e := tl_join "" ys
  rw [show tl (Str.ofString "") = [] from by decide +kernel] at e
  rw [show (Str.join "" ys).cps.toList = joinL [] (ys.map tl) from e] at hc
  obtain ⟨p, hp, hcp⟩ := (joinL_nil _).2 c hc
  obtain ⟨y, hy, rfl⟩ := List.mem_map.mp hp
  exact (strOk_iff y).mp (h y hy) c hcp
theorem ofString_ok (s : String) : PyData.strOk (Str.ofString s) = true := by
  rw [strOk_iff, Str.ofString_eq_toList]
  intro c hc
  have hc' : c ∈ s.toList.map Char.toNat := by simpa using hc
  obtain ⟨x, _, rfl⟩ := List.mem_map.mp hc'
  have := x.valid
  show x.val.toNat < _
  rcases this with h | ⟨_, h⟩
  · exact Nat.lt_trans h (by decide)
  · exact h
end VT

namespace VT
open PySem L2 TL
theorem int_len {i : Int} (h : i.natAbs < 10 ^ 12) : (toString i : Str).length ≤ 13 := by
  have h1 := int_text_length_le10 (k := 12) (by decide) h
  have e : (Str.ofString (toString i)).length = (toString i).length := by
    rw [Str.ofString_eq_toList]
    show (((toString i).toList.map Char.toNat).toArray).size = _
    rw [List.size_toArray, List.length_map, String.length_toList]
  show (Str.ofString (toString i)).length ≤ 13
  rw [e]
  exact h1
theorem int_log {i : Int} (h : i.natAbs < 10 ^ 12) : i.natAbs.log2 < 1920 := by
  by_cases z : i.natAbs = 0
  · rw [z]; decide
  · exact Nat.lt_trans ((Nat.log2_lt z).mpr (Nat.lt_trans h (by decide : 10 ^ 12 < 2 ^ 60))) (by decide)
theorem sum3 : ∀ {l : List Nat} {B : Nat}, (∀ x ∈ l, x ≤ B) → l.sum ≤ l.length * B
  | [], _, _ => Nat.zero_le _
  | x :: l, B, h => by
    have h1 := h x List.mem_cons_self
    have h2 := sum3 (l := l) (B := B) fun y hy => h y (List.mem_cons_of_mem _ hy)
    rw [List.sum_cons, List.length_cons, Nat.add_mul]
    omega
theorem jn_bd {T : Nat} {ds : List D} {d : D} (h : ∀ d ∈ ds, BD T d) (hl : ds.length ≤ 3) (ht : 20 ≤ T) (hj : jn ds = some d) : BD (3 * T) d ∧ dep d = 0 := by
  unfold jn at hj
  split at hj
  · have e := Option.some.inj hj
    split at e
    · subst e
      exact ⟨.unk, rfl⟩
    · subst e
      have tx : ∀ d ∈ ds, PyData.strOk (txt d) = true ∧ (txt d).length ≤ T := fun d hd => by
        cases h d hd with
        | str s h1 h2 => exact ⟨h1, h2⟩
        | int i hi => exact ⟨ofString_ok _, Nat.le_trans (int_len hi) (by omega)⟩
        | _ => exact ⟨ofString_ok "", Nat.le_trans (by decide +kernel : (Str.ofString "").length ≤ 0) (Nat.zero_le _)⟩
      refine ⟨.str _ (join_ok _ fun y hy => ?_) ?_, rfl⟩
      · obtain ⟨d, hd, rfl⟩ := List.mem_map.mp hy
        exact (tx d hd).1
      · rw [join_len]
        have := sum3 (l := (ds.map txt).map (·.length)) (B := T) fun x hx => by
          obtain ⟨y, hy, rfl⟩ := List.mem_map.mp hx
          obtain ⟨d, hd, rfl⟩ := List.mem_map.mp hy
          exact (tx d hd).2
        rw [List.length_map, List.length_map] at this
        exact Nat.le_trans this (Nat.mul_le_mul_right _ hl)
  · cases hj
theorem szd_bd {T T' : Nat} {v d : D} (h : BD T v) (ht : T < 10 ^ 12) (hs : szd v = some d) : BD T' d ∧ dep d = 0 := by
  cases h with
  | unk => cases hs; exact ⟨.unk, rfl⟩
  | str s h1 h2 => cases hs; exact ⟨.int _ (by rw [Int.natAbs_natCast]; omega), rfl⟩
  | @tup l h1 h2 =>
    have hs' : (if isTag l then none else some (D.int l.length)) = some d := hs
    split at hs'
    · cases hs'
    · cases hs'
      exact ⟨.int _ (by rw [Int.natAbs_natCast]; exact Nat.lt_of_le_of_lt h2 (by decide)), rfl⟩
  | @map ks ds h1 h2 => cases hs; exact ⟨.int _ (by rw [Int.natAbs_natCast]; exact Nat.lt_of_le_of_lt h2 (by decide)), rfl⟩
  | _ => cases hs
theorem opt_ok {x : X} {o : Option D} {d : D} (h : opt x o = .ok d) : o = some d := by
  cases o with
  | none => cases h
  | some e => cases h; rfl
theorem bind_ok {ε α β : Type} {a : Except ε α} {f : α → Except ε β} {b : β} (h : a.bind f = .ok b) : ∃ c, a = .ok c ∧ f c = .ok b := by
  cases a with
  | error e => cases h
  | ok c => exact ⟨c, rfl, h⟩
theorem p3 (n m : Nat) (h : n ≤ m) : 20 * 3 ^ n ≤ 20 * 3 ^ m := Nat.mul_le_mul_left _ (Nat.pow_le_pow_right (by decide) h)
theorem p3_20 (n : Nat) : 20 ≤ 20 * 3 ^ n := by have := Nat.one_le_pow n 3 (by decide); omega
theorem wk_good {N : Nat} {nm : Nm} (hn : NG nm) : ∀ (n : Nat) (x : X) (d : D), XG x → xd x ≤ 14 → wk N nm n x = .ok d → BD (20 * 3 ^ xd x) d ∧ dep d ≤ 6 + xd x
  | 0, x, d, _, _, h => nomatch h
  | n + 1, x, d, hx, h14, h => by
    have ih := wk_good (N := N) hn n
    have lookB : ∀ {k : List Str} {v : D}, look nm k = some v → BD 20 v ∧ dep v ≤ 6 := fun {k v} e => by
      obtain ⟨q, hq, rfl⟩ := look_mem e
      exact hn q hq
    have kids : ∀ (l : List X) (ds : List D), (∀ x ∈ l, XG x) → xdL l ≤ 14 → l.mapM (wk N nm n) = .ok ds → ds.length = l.length ∧ ∀ d ∈ ds, BD (20 * 3 ^ xdL l) d ∧ dep d ≤ 6 + xdL l := fun l ds hl h15 e => by
      obtain ⟨a1, a2⟩ := mapM_get _ e
      refine ⟨a1, fun d hd => ?_⟩
      obtain ⟨y, hy, ey⟩ := a2 d hd
      have hm := xd_mem hy
      obtain ⟨b1, b2⟩ := ih y d (hl y hy) (by omega) ey
      exact ⟨b1.mono (p3 _ _ hm), by omega⟩
    cases hx with
    | say h1 h2 =>
      cases h
      exact ⟨h1, by show dep d ≤ 6 + 0; omega⟩
    | ref h1 =>
      have h := opt_ok h
      exact ⟨(lookB h).1, by have := (lookB h).2; show dep d ≤ 6 + 0; omega⟩
    | out a b =>
      obtain ⟨v, e1, e2⟩ := Option.bind_eq_some_iff.mp (opt_ok h)
      obtain ⟨b1, b2⟩ := pck_good e2 (lookB e1).1 (lookB e1).2
      exact ⟨b1, b2⟩
    | of a b c =>
      obtain ⟨v, e1, e2⟩ := Option.bind_eq_some_iff.mp (opt_ok h)
      obtain ⟨b1, b2⟩ := pck_good e2 (lookB e1).1 (lookB e1).2
      exact ⟨b1, b2⟩
    | each a b c =>
      obtain ⟨v, e1, e2⟩ := Option.bind_eq_some_iff.mp (opt_ok h)
      obtain ⟨b1, b2⟩ := each_good e2 (lookB e1).1 (lookB e1).2
      exact ⟨b1, b2⟩
    | @«at» a b y c hy =>
      obtain ⟨k, _, e2⟩ := bind_ok h
      obtain ⟨v, e3, e4⟩ := Option.bind_eq_some_iff.mp (opt_ok e2)
      obtain ⟨u, e5, e6⟩ := Option.bind_eq_some_iff.mp e4
      obtain ⟨b1, b2⟩ := pck_good e5 (lookB e3).1 (lookB e3).2
      obtain ⟨c1, c2⟩ := pck_good e6 b1 b2
      exact ⟨c1.mono (p3_20 _), by omega⟩
    | @tup l hl h3 =>
      obtain ⟨ds, e1, e2⟩ := bind_ok h
      cases e2
      rw [xd] at h14 ⊢
      obtain ⟨c1, c2⟩ := kids l ds hl (by omega) e1
      refine ⟨.tup (fun d hd => (c2 d hd).1.mono (p3 _ _ (Nat.le_succ _))) (by omega), ?_⟩
      rw [dep]
      have := depL_le fun d hd => (c2 d hd).2
      omega
    | @map ks l hl h3 hk nd =>
      obtain ⟨ds, e1, e2⟩ := bind_ok h
      cases e2
      rw [xd] at h14 ⊢
      obtain ⟨c1, c2⟩ := kids l ds hl (by omega) e1
      refine ⟨.map (fun d hd => (c2 d hd).1.mono (p3 _ _ (Nat.le_succ _))) (by omega), ?_⟩
      rw [dep]
      have := depL_le fun d hd => (c2 d hd).2
      omega
    | @join l hl h3 =>
      obtain ⟨ds, e1, e2⟩ := bind_ok h
      rw [xd] at h14 ⊢
      obtain ⟨c1, c2⟩ := kids l ds hl (by omega) e1
      obtain ⟨b1, b2⟩ := jn_bd (fun d hd => (c2 d hd).1) (by omega) (p3_20 _) (opt_ok e2)
      refine ⟨?_, by omega⟩
      rw [Nat.pow_succ]
      have e3 : 20 * (3 ^ xdL l * 3) = 3 * (20 * 3 ^ xdL l) := by omega
      rw [e3]
      exact b1
    | @iff a b c ha hb hc =>
      rw [xd] at h14 ⊢
      obtain ⟨t, e1, e2⟩ := bind_ok h
      have hB : ∀ d, wk N nm n b = .ok d → BD (20 * 3 ^ (max (xd a) (max (xd b) (xd c)) + 1)) d ∧ dep d ≤ 6 + (max (xd a) (max (xd b) (xd c)) + 1) := fun d e => by
        obtain ⟨q1, q2⟩ := ih b d hb (by omega) e
        exact ⟨q1.mono (p3 _ _ (by omega)), by omega⟩
      have hC : ∀ d, wk N nm n c = .ok d → BD (20 * 3 ^ (max (xd a) (max (xd b) (xd c)) + 1)) d ∧ dep d ≤ 6 + (max (xd a) (max (xd b) (xd c)) + 1) := fun d e => by
        obtain ⟨q1, q2⟩ := ih c d hc (by omega) e
        exact ⟨q1.mono (p3 _ _ (by omega)), by omega⟩
      cases t with
      | bl q =>
        cases q
        · exact hC d e2
        · exact hB d e2
      | unk =>
        obtain ⟨d1, e3, e4⟩ := bind_ok e2
        obtain ⟨d2, e5, e6⟩ := bind_ok e4
        have e7 := Except.ok.inj e6
        split at e7
        · subst e7; exact hB _ e3
        · subst e7; exact ⟨.unk, Nat.zero_le _⟩
      | _ => cases e2
    | @same a b ha hb =>
      obtain ⟨d1, e3, e4⟩ := bind_ok h
      obtain ⟨d2, e5, e6⟩ := bind_ok e4
      have e7 := Except.ok.inj e6
      subst e7
      have : (∃ x, same N d1 d2 = .bl x) ∨ same N d1 d2 = .unk := by
        cases N with
        | zero => exact .inl ⟨_, rfl⟩
        | succ N =>
          rw [same]
          split
          · exact .inr rfl
          · split
            · split
              · exact .inl ⟨_, rfl⟩
              · unfold verdict
                split
                · exact .inl ⟨_, rfl⟩
                · split
                  · exact .inr rfl
                  · exact .inl ⟨_, rfl⟩
            · exact .inl ⟨_, rfl⟩
      rcases this with ⟨q, e⟩ | e
      · rw [e]; exact ⟨.bl _, Nat.zero_le _⟩
      · rw [e]; exact ⟨.unk, Nat.zero_le _⟩
    | @size a ha =>
      rw [xd] at h14 ⊢
      obtain ⟨d1, e3, e4⟩ := bind_ok h
      obtain ⟨q1, q2⟩ := ih a d1 ha (by omega) e3
      have lt : 20 * 3 ^ xd a < 10 ^ 12 := Nat.lt_of_le_of_lt (p3 _ 14 (by omega)) (by decide)
      obtain ⟨b1, b2⟩ := szd_bd (T' := 20 * 3 ^ (xd a + 1)) q1 lt (opt_ok e4)
      exact ⟨b1, by omega⟩
    | @pick a b ha hb =>
      rw [xd] at h14 ⊢
      obtain ⟨d1, e3, e4⟩ := bind_ok h
      obtain ⟨d2, e5, e6⟩ := bind_ok e4
      obtain ⟨q1, q2⟩ := ih a d1 ha (by omega) e3
      obtain ⟨b1, b2⟩ := pck_good (opt_ok e6) q1 q2
      exact ⟨b1.mono (p3 _ _ (by omega)), by omega⟩
end VT

/-! values that are known, and values of which they are a filling -/
namespace VT
open PySem L2 TL
inductive Rf : D → D → Prop
  | unk {d : D} (h : Kn d) : Rf .unk d
  | non : Rf .non .non
  | bl (b : Bool) : Rf (.bl b) (.bl b)
  | int (i : Int) : Rf (.int i) (.int i)
  | str (s : Str) : Rf (.str s) (.str s)
  | tag {l : List D} (h : isTag l = true) : Rf (.tup l) (.tup l)
  | tup {l l' : List D} (h1 : isTag l = false) (h2 : isTag l' = false) (hl : l.length = l'.length) (h : ∀ (i : Nat) (a b : D), l[i]? = some a → l'[i]? = some b → Rf a b) : Rf (.tup l) (.tup l')
  | map {ks ks' : List Str} {ds ds' : List D} (hp : ks.Perm ks') (nd : ks.Nodup) (hl : ks.length = ds.length) (hl' : ks'.length = ds'.length) (h : ∀ k ∈ ks, Rf (get ks ds k) (get ks' ds' k)) : Rf (.map ks ds) (.map ks' ds')
theorem tag_parts {l : List D} (h : isTag l = true) : ∃ m n i, l = [.str m, .str n, .int i] := by
  unfold isTag at h
  split at h
  · exact ⟨_, _, _, rfl⟩
  · cases h
theorem tag_kn {l : List D} (h : isTag l = true) : ∀ d ∈ l, Kn d := by
  obtain ⟨m, n, i, rfl⟩ := tag_parts h
  intro d hd
  simp only [List.mem_cons, List.not_mem_nil, or_false] at hd
  rcases hd with rfl | rfl | rfl
  · exact .str _
  · exact .str _
  · exact .int _
theorem mem_get {ks : List Str} {ds : List D} {d : D} (nd : ks.Nodup) (hl : ks.length = ds.length) (h : d ∈ ds) : ∃ k ∈ ks, get ks ds k = d := by
  rw [← get_map nd hl] at h
  exact List.mem_map.mp h
theorem Rf.kn {a b : D} (h : Rf a b) : Kn b := by
  induction h with
  | unk h => exact h
  | non => exact .non
  | bl b => exact .bl b
  | int i => exact .int i
  | str s => exact .str s
  | tag h => exact .tup (tag_kn h)
  | @tup l l' h1 h2 hl h ih =>
    refine .tup fun d hd => ?_
    obtain ⟨i, hi, rfl⟩ := List.mem_iff_getElem.mp hd
    exact ih i l[i] _ (List.getElem?_eq_getElem (by omega)) (List.getElem?_eq_getElem hi)
  | @map ks ks' ds ds' hp nd hl hl' h ih =>
    refine .map fun d hd => ?_
    obtain ⟨k, hk, rfl⟩ := mem_get (hp.nodup_iff.mp nd) hl' hd
    exact ih k (hp.mem_iff.mpr hk)
theorem Rf.refl {d : D} (h : Kn d) (w : Wf d) : Rf d d := by
  induction h with
  | non => exact .non
  | bl b => exact .bl b
  | int i => exact .int i
  | str s => exact .str s
  | @tup l h ih =>
    cases w with
    | leaf h _ => exact absurd rfl (h _)
    | tup w =>
    cases ht : isTag l with
    | true => exact .tag ht
    | false =>
      refine .tup ht ht rfl fun i a b ha hb => ?_
      rw [ha] at hb
      cases hb
      have m := List.mem_of_getElem? ha
      exact ih a m (w a m)
  | @map ks ds h ih =>
    cases w with
    | leaf _ h => exact absurd rfl (h _ _)
    | map nd hl w =>
    refine .map (.refl _) nd hl hl fun k hk => ?_
    have m := get_mem nd hl hk
    exact ih _ m (w _ m)
theorem Rf.trans {a b c : D} (h : Rf a b) (h' : Rf b c) : Rf a c := by
  induction h generalizing c with
  | unk h => exact .unk h'.kn
  | non => exact h'
  | bl b => exact h'
  | int i => exact h'
  | str s => exact h'
  | tag h => exact h'
  | @tup l l' h1 h2 hl h ih =>
    cases h' with
    | tag z => rw [h2] at z; cases z
    | @tup _ l'' h3 h4 hl2 h5 =>
      refine .tup h1 h4 (hl.trans hl2) fun i x z hx hz => ?_
      have hi : i < l'.length := by rw [← hl]; exact (List.getElem?_eq_some_iff.mp hx).1
      exact ih i x l'[i] hx (List.getElem?_eq_getElem hi) (h5 i l'[i] z (List.getElem?_eq_getElem hi) hz)
  | @map ks ks' ds ds' hp nd hl hl' h ih =>
    cases h' with
    | @map _ ks'' _ ds'' hp2 nd2 hl2 hl3 h5 =>
      exact .map (hp.trans hp2) nd hl hl3 fun k hk => ih k hk (h5 k (hp.mem_iff.mp hk))
theorem Rf.symm {a b : D} (h : Rf a b) (k : Kn a) : Rf b a := by
  induction h with
  | unk h => cases k
  | non => exact .non
  | bl b => exact .bl b
  | int i => exact .int i
  | str s => exact .str s
  | tag h => exact .tag h
  | @tup l l' h1 h2 hl h ih =>
    cases k with
    | tup k =>
    exact .tup h2 h1 hl.symm fun i x y hx hy => ih i y x hy hx (k y (List.mem_of_getElem? hy))
  | @map ks ks' ds ds' hp nd hl hl' h ih =>
    cases k with
    | map k =>
    exact .map hp.symm (hp.nodup_iff.mp nd) hl' hl fun x hx => ih x (hp.mem_iff.mpr hx) (k _ (get_mem nd hl (hp.mem_iff.mpr hx)))
theorem sort_t {l : List D} (h : isTag l = false) : sort (.tup l) = "tuple" := by simp [sort, h]
theorem leqT_self {l : List D} (h : isTag l = true) : leqT l l = true := by
  obtain ⟨m, n, i, rfl⟩ := tag_parts h
  simp [leqT]
/-- two of which one thing is a filling agree -/
theorem Rf.may2 {a b c : D} (h : Rf a c) (h' : Rf b c) : ∀ {N : Nat}, dep a < N → dep b < N → may N a b = true := by
  induction h generalizing b with
  | unk h =>
    intro N h1 _
    cases N with
    | zero => omega
    | succ n => rw [may, if_pos (by simp [isU])]
  | non =>
    intro N h1 _
    cases N with
    | zero => omega
    | succ n => cases h' <;> simp [may, isU, sort, kids]
  | bl b =>
    intro N h1 _
    cases N with
    | zero => omega
    | succ n => cases h' <;> simp [may, isU, sort, kids]
  | int i =>
    intro N h1 _
    cases N with
    | zero => omega
    | succ n => cases h' <;> simp [may, isU, sort, kids]
  | str s =>
    intro N h1 _
    cases N with
    | zero => omega
    | succ n => cases h' <;> simp [may, isU, sort, kids]
  | @tag l ht =>
    intro N h1 _
    cases N with
    | zero => omega
    | succ n =>
      cases h' with
      | unk _ => rw [may, if_pos (by simp [isU])]
      | tag _ =>
        have e := leqT_self ht
        simp [may, isU, kids, ht, e]
      | tup z1 z2 => rw [ht] at z2; cases z2
  | @tup l l' h1 h2 hl h ih =>
    intro N d1 d2
    cases N with
    | zero => omega
    | succ n =>
      cases h' with
      | unk _ => rw [may, if_pos (by simp [isU])]
      | tag z => rw [h2] at z; cases z
      | @tup l2 _ h3 h4 hl2 h5 =>
        have el : l.length = l2.length := hl.trans hl2.symm
        rw [may, if_neg (by simp [isU]), if_pos (by rw [sort_t h1, sort_t h3])]
        have ek : kids (.tup l) (.tup l2) = some (l.zip l2) := by
          show (if isTag l then (if leqT l l2 then some [] else none) else if l.length = l2.length then some (l.zip l2) else none) = _
          rw [h1, if_neg (by simp), if_pos el]
        rw [ek]
        show (l.zip l2).all (fun p => may n p.1 p.2) = true
        rw [List.all_eq_true]
        intro p hp
        obtain ⟨i, hi⟩ := List.mem_iff_getElem?.mp hp
        obtain ⟨e1, e2⟩ := List.getElem?_zip_eq_some.mp hi
        have hi' : i < l'.length := by rw [← hl]; exact (List.getElem?_eq_some_iff.mp e1).1
        rw [dep] at d1 d2
        have m1 := dep_mem (List.mem_of_getElem? e1)
        have m2 := dep_mem (List.mem_of_getElem? e2)
        exact ih i p.1 l'[i] e1 (List.getElem?_eq_getElem hi') (h5 i p.2 l'[i] e2 (List.getElem?_eq_getElem hi')) (by omega) (by omega)
  | @map ks ks' ds ds' hp nd hl hl' h ih =>
    intro N d1 d2
    cases N with
    | zero => omega
    | succ n =>
      cases h' with
      | unk _ => rw [may, if_pos (by simp [isU])]
      | @map ks2 _ ds2 _ hp2 nd2 hl2 hl3 h5 =>
        have pp : ks.Perm ks2 := hp.trans hp2.symm
        rw [may, if_neg (by simp [isU]), if_pos (show sort (.map ks ds) = sort (.map ks2 ds2) from rfl)]
        have ek : kids (.map ks ds) (.map ks2 ds2) = some (ks.map (pairAt ks ds ks2 ds2)) := by
          show (if ks.Perm ks2 then some ((ks.zip ds).map fun p => (p.2, get ks2 ds2 p.1)) else none) = _
          rw [if_pos pp, zip_pairs nd hl]
        rw [ek]
        show (ks.map (pairAt ks ds ks2 ds2)).all (fun p => may n p.1 p.2) = true
        rw [List.all_map, List.all_eq_true]
        intro k hk
        have hk2 := pp.mem_iff.mp hk
        rw [dep] at d1 d2
        have m1 := dep_mem (get_mem nd hl hk)
        have m2 := dep_mem (get_mem nd2 hl2 hk2)
        exact ih k hk (h5 k hk2) (by omega) (by omega)
theorem leqT_eq {l l' : List D} (h : leqT l l' = true) : l = l' := by
  unfold leqT at h
  split at h
  · simp only [Bool.and_eq_true, decide_eq_true_eq] at h
    obtain ⟨⟨rfl, rfl⟩, rfl⟩ := h
    rfl
  · cases h
theorem rf_of_may : ∀ {N : Nat} {a b : D}, may N a b = true → Kn b → Wf a → Wf b → Rf a b
  | 0, _, _, h, _, _, _ => by cases h
  | n + 1, a, b, h, k, wa, wb => by
    rw [may] at h
    by_cases hu : (isU a || isU b) = true
    · rcases Bool.or_eq_true_iff.mp hu with z | z
      · cases a <;> simp [isU] at z
        exact .unk k
      · cases b <;> simp [isU] at z
        cases k
    · rw [if_neg hu] at h
      by_cases hs : sort a = sort b
      · rw [if_pos hs] at h
        have hu' : isU a = false ∧ isU b = false := by simpa using hu
        cases ek : kids a b with
        | none => rw [ek] at h; cases h
        | some ps =>
          rw [ek] at h
          have hall : ∀ p ∈ ps, may n p.1 p.2 = true := List.all_eq_true.mp h
          unfold kids at ek
          split at ek
          · rename_i l l'
            split at ek
            · rename_i ht
              split at ek
              · rename_i hq
                rw [leqT_eq hq] at ht ⊢
                exact .tag ht
              · cases ek
            · rename_i ht
              have ht1 : isTag l = false := by simpa using ht
              have ht2 : isTag l' = false := by
                cases z : isTag l' with
                | false => rfl
                | true =>
                  simp only [sort, ht1, z] at hs
                  exact absurd hs (by decide +kernel)
              split at ek
              · rename_i hl
                cases ek
                cases wa with
                | leaf h _ => exact absurd rfl (h _)
                | tup wa =>
                cases wb with
                | leaf h _ => exact absurd rfl (h _)
                | tup wb =>
                cases k with
                | tup k =>
                refine .tup ht1 ht2 hl fun i x y hx hy => ?_
                have mx := List.mem_of_getElem? hx
                have my := List.mem_of_getElem? hy
                exact rf_of_may (hall (x, y) (List.mem_of_getElem? (List.getElem?_zip_eq_some.mpr ⟨hx, hy⟩))) (k y my) (wa x mx) (wb y my)
              · cases ek
          · rename_i ks ds ks' ds'
            split at ek
            · rename_i hp
              cases wa with
              | leaf _ h => exact absurd rfl (h _ _)
              | map nd hl wa =>
              cases wb with
              | leaf _ h => exact absurd rfl (h _ _)
              | map nd' hl' wb =>
              cases k with
              | map k =>
              rw [zip_pairs nd hl] at ek
              cases ek
              refine .map hp nd hl hl' fun x hx => ?_
              have hx' := hp.mem_iff.mp hx
              have m1 := get_mem nd hl hx
              have m2 := get_mem nd' hl' hx'
              exact rf_of_may (hall (pairAt ks ds ks' ds' x) (List.mem_map.mpr ⟨x, hx, rfl⟩)) (k _ m2) (wa _ m1) (wb _ m2)
            · cases ek
          · exact .non
          · split at ek
            · rename_i e; subst e; exact .bl _
            · cases ek
          · split at ek
            · rename_i e; subst e; exact .int _
            · cases ek
          · split at ek
            · rename_i e; subst e; exact .str _
            · cases ek
          · cases ek
      · rw [if_neg hs] at h
        cases h
theorem kn_opn {d : D} (h : Kn d) : ∀ n, opn n d = 0 := by
  induction h with
  | non => intro n; cases n <;> rfl
  | bl b => intro n; cases n <;> rfl
  | int i => intro n; cases n <;> rfl
  | str s => intro n; cases n <;> rfl
  | @tup l h ih =>
    intro n
    cases n with
    | zero => rfl
    | succ n =>
      show (if isTag l then 0 else (l.map (opn n)).sum) = 0
      split
      · rfl
      · refine List.sum_eq_zero_iff_forall_eq_nat.mpr fun y hy => ?_
        obtain ⟨x, hx, rfl⟩ := List.mem_map.mp hy
        exact ih x hx n
  | @map ks ds h ih =>
    intro n
    cases n with
    | zero => rfl
    | succ n =>
      refine List.sum_eq_zero_iff_forall_eq_nat.mpr fun y hy => ?_
      obtain ⟨x, hx, rfl⟩ := List.mem_map.mp hy
      exact ih x hx n
theorem opn_kn : ∀ {n : Nat} {d : D}, dep d < n → opn n d = 0 → Kn d
  | 0, _, h, _ => absurd h (Nat.not_lt_zero _)
  | n + 1, d, h, e => by
    cases d with
    | non => exact .non
    | bl b => exact .bl b
    | int i => exact .int i
    | str s => exact .str s
    | unk => cases e
    | tup l =>
      have e' : (if isTag l then 0 else (l.map (opn n)).sum) = 0 := e
      rw [dep] at h
      split at e'
      · rename_i ht
        exact .tup (tag_kn ht)
      · refine .tup fun d hd => opn_kn (n := n) (by have := dep_mem hd; omega) ?_
        exact List.sum_eq_zero_iff_forall_eq_nat.mp e' _ (List.mem_map.mpr ⟨d, hd, rfl⟩)
    | map ks ds =>
      have e' : (ds.map (opn n)).sum = 0 := e
      rw [dep] at h
      refine .map fun d hd => opn_kn (n := n) (by have := dep_mem hd; omega) ?_
      exact List.sum_eq_zero_iff_forall_eq_nat.mp e' _ (List.mem_map.mpr ⟨d, hd, rfl⟩)
theorem wf_leaf {d : D} (h1 : ∀ l, d ≠ .tup l) (h2 : ∀ ks ds, d ≠ .map ks ds) : Wf d := .leaf h1 h2
theorem Gd.wf {d : D} (h : Gd d) : Wf d := by
  induction h with
  | tag h =>
    obtain ⟨m, n, i, rfl⟩ := tag_parts h
    refine .tup fun d hd => ?_
    simp only [List.mem_cons, List.not_mem_nil, or_false] at hd
    rcases hd with rfl | rfl | rfl <;> exact .leaf (fun _ z => nomatch z) (fun _ _ z => nomatch z)
  | tup h ih => exact .tup ih
  | map nd hl h ih => exact .map nd hl ih
  | _ => exact .leaf (fun _ z => nomatch z) (fun _ _ z => nomatch z)
theorem no_tag {l : List D} (h : ∀ d ∈ l, Gd d) : isTag l = false := by
  cases e : isTag l with
  | false => rfl
  | true =>
    obtain ⟨m, n, i, rfl⟩ := tag_parts e
    simp only [isTag, Bool.and_eq_true, decide_eq_true_eq] at e
    obtain ⟨⟨rfl, _⟩, _⟩ := e
    cases h _ List.mem_cons_self with
    | str _ z => exact absurd (by decide +kernel) z
theorem Gd.rf_tup {l l' : List D} (g : ∀ d ∈ l, Gd d) (g' : ∀ d ∈ l', Gd d) (hl : l.length = l'.length) (h : ∀ (i : Nat) (a b : D), l[i]? = some a → l'[i]? = some b → Rf a b) : Rf (.tup l) (.tup l') := .tup (no_tag g) (no_tag g') hl h
theorem pck_gd {v k d : D} (h : pck v k = some d) (g : Gd v) : Gd d := by
  have tupc : ∀ {l : List D}, pck (.tup l) k = some d → (isTag l = true ∨ ∀ x ∈ l, Gd x) → Gd d := fun {l} h g => by
    by_cases ht : isTag l = true
    · have : pck (.tup l) k = none := by show (if isTag l then none else _) = _; rw [if_pos ht]
      rw [this] at h
      cases h
    · have g := g.resolve_left ht
      cases k with
      | int i =>
        have h' : (if isTag l then none else (if 0 ≤ i then l[i.toNat]? else none)) = some d := h
        rw [if_neg ht] at h'
        split at h'
        · exact g d (List.mem_of_getElem? h')
        · cases h'
      | unk =>
        have h' : (if isTag l then none else some D.unk) = some d := h
        rw [if_neg ht] at h'
        cases h'
        exact .unk
      | _ =>
        have h' : (if isTag l then none else (none : Option D)) = some d := h
        rw [if_neg ht] at h'
        cases h'
  cases g with
  | tag ht => exact tupc h (.inl ht)
  | tup g => exact tupc h (.inr g)
  | @map ks ds nd hl g =>
    cases k with
    | str s =>
      have h' : (if s ∈ ks then some (get ks ds s) else none) = some d := h
      split at h'
      · rename_i hs
        cases h'
        exact g _ (get_mem nd hl hs)
      · cases h'
    | unk => cases h; exact .unk
    | _ => cases h
  | unk =>
    cases k with
    | str s => cases h; exact .unk
    | unk => cases h; exact .unk
    | int i =>
      have h' : (if 0 ≤ i then some D.unk else none) = some d := h
      split at h'
      · cases h'; exact .unk
      · cases h'
    | _ => cases h
  | _ => cases h
theorem mapMO_at {α β : Type} (f : α → Option β) : ∀ {l : List α} {bs : List β}, l.mapM f = some bs → bs.length = l.length ∧ ∀ (i : Nat) (a : α) (b : β), l[i]? = some a → bs[i]? = some b → f a = some b
  | [], bs, h => by
    cases h
    exact ⟨rfl, fun i a b h => nomatch h⟩
  | a :: l, bs, h => by
    rw [List.mapM_cons] at h
    cases e : f a with
    | none => rw [e] at h; cases h
    | some b =>
      rw [e] at h
      have h' : (do let bs ← l.mapM f; pure (b :: bs)) = some bs := h
      cases e2 : l.mapM f with
      | none => rw [e2] at h'; cases h'
      | some cs =>
        rw [e2] at h'
        cases h'
        obtain ⟨i1, i2⟩ := mapMO_at f e2
        refine ⟨by rw [List.length_cons, List.length_cons, i1], fun i x y hx hy => ?_⟩
        cases i with
        | zero => cases hx; cases hy; exact e
        | succ i => exact i2 i x y hx hy
theorem mapM_at {α β ε : Type} (f : α → Except ε β) : ∀ {l : List α} {bs : List β}, l.mapM f = .ok bs → bs.length = l.length ∧ ∀ (i : Nat) (a : α) (b : β), l[i]? = some a → bs[i]? = some b → f a = .ok b
  | [], bs, h => by
    cases h
    exact ⟨rfl, fun i a b h => nomatch h⟩
  | a :: l, bs, h => by
    rw [List.mapM_cons] at h
    cases e : f a with
    | error x => rw [e] at h; cases h
    | ok b =>
      rw [e] at h
      have h' : (do let bs ← l.mapM f; pure (b :: bs)) = Except.ok bs := h
      cases e2 : l.mapM f with
      | error x => rw [e2] at h'; cases h'
      | ok cs =>
        rw [e2] at h'
        cases h'
        obtain ⟨i1, i2⟩ := mapM_at f e2
        refine ⟨by rw [List.length_cons, List.length_cons, i1], fun i x y hx hy => ?_⟩
        cases i with
        | zero => cases hx; cases hy; exact e
        | succ i => exact i2 i x y hx hy
theorem each_tag {l ds : List D} {k : D} (ht : isTag l = true) (h : l.mapM (pck · k) = some ds) : False := by
  obtain ⟨m, n, i, rfl⟩ := tag_parts ht
  have z : pck (.str m) k = none := rfl
  rw [List.mapM_cons, z] at h
  cases h
theorem each_gd {v k d : D} (h : eachD v k = some d) (g : Gd v) : Gd d := by
  have kid : ∀ {l ds : List D}, l.mapM (pck · k) = some ds → (∀ d ∈ l, Gd d) → ∀ d ∈ ds, Gd d := fun {l ds} e g d hd => by
    obtain ⟨x, hx, ex⟩ := (mapMO_get _ e).2 d hd
    exact pck_gd ex (g x hx)
  cases g with
  | @tag l ht =>
    have h' : (l.mapM (pck · k)).map D.tup = some d := h
    obtain ⟨ds, e, rfl⟩ := Option.map_eq_some_iff.mp h'
    exact (each_tag ht e).elim
  | @tup l g =>
    have h' : (l.mapM (pck · k)).map D.tup = some d := h
    obtain ⟨ds, e, rfl⟩ := Option.map_eq_some_iff.mp h'
    exact .tup (kid e g)
  | @map ks l nd hl g =>
    have h' : (l.mapM (pck · k)).map (D.map ks) = some d := h
    obtain ⟨ds, e, rfl⟩ := Option.map_eq_some_iff.mp h'
    exact .map nd (hl.trans (mapMO_get _ e).1.symm) (kid e g)
  | unk => cases h; exact .unk
  | _ => cases h
theorem join_free {ys : List Str} (h : ∀ y ∈ ys, 35 ∉ y.cps.toList) : 35 ∉ (Txt.join "" ys).cps.toList := by
  rw [join_eq]
  intro hc
  have e := tl_join "" ys
  rw [show tl (Str.ofString "") = [] from by decide +kernel] at e
  rw [show (Str.join "" ys).cps.toList = joinL [] (ys.map tl) from e] at hc
  obtain ⟨p, hp, hcp⟩ := (joinL_nil _).2 35 hc
  obtain ⟨y, hy, rfl⟩ := List.mem_map.mp hp
  exact h y hy hcp
theorem txt_free {d : D} (h : Gd d) : 35 ∉ (txt d).cps.toList := by
  cases h with
  | str s h => exact h
  | int i => exact PyProof.Rows.int_text_free' 35 ⟨by decide, by decide⟩ i
  | _ => exact (by decide +kernel : 35 ∉ (Str.ofString "").cps.toList)
theorem jn_gd {ds : List D} {d : D} (h : ∀ d ∈ ds, Gd d) (hj : jn ds = some d) : Gd d := by
  unfold jn at hj
  split at hj
  · have e := Option.some.inj hj
    split at e
    · subst e
      exact .unk
    · subst e
      refine .str _ (join_free fun y hy => ?_)
      obtain ⟨d, hd, rfl⟩ := List.mem_map.mp hy
      exact txt_free (h d hd)
  · cases hj
theorem szd_gd {v d : D} (hs : szd v = some d) : Gd d := by
  unfold szd at hs
  split at hs
  · cases hs; exact .unk
  · cases hs; exact .int _
  · split at hs
    · cases hs
    · cases hs; exact .int _
  · cases hs; exact .int _
  · cases hs
theorem same_shape (N : Nat) (a b : D) : (∃ x, same N a b = .bl x) ∨ same N a b = .unk := by
  cases N with
  | zero => exact .inl ⟨_, rfl⟩
  | succ N =>
    rw [same]
    split
    · exact .inr rfl
    · split
      · split
        · exact .inl ⟨_, rfl⟩
        · unfold verdict
          split
          · exact .inl ⟨_, rfl⟩
          · split
            · exact .inr rfl
            · exact .inl ⟨_, rfl⟩
      · exact .inl ⟨_, rfl⟩
end VT

/-! expressions over names that are filled -/
namespace VT
open PySem L2 TL
inductive XK : X → Prop
  | say {d : D} (g : Gd d) (k : Kn d) : XK (.say d)
  | ref (w a : Str) : XK (.ref w a)
  | out (a b : Str) : XK (.out a b)
  | of (a b c : Str) : XK (.of a b c)
  | each (a b c : Str) : XK (.each a b c)
  | at (a b : Str) {x : X} (c : Str) (h : XK x) : XK (.at a b x c)
  | tup {l : List X} (h : ∀ x ∈ l, XK x) : XK (.tup l)
  | map {ks : List Str} {l : List X} (h : ∀ x ∈ l, XK x) : XK (.map ks l)
  | join {l : List X} (h : ∀ x ∈ l, XK x) : XK (.join l)
  | iff {a b c : X} (ha : XK a) (hb : XK b) (hc : XK c) : XK (.iff a b c)
  | same {a b : X} (ha : XK a) (hb : XK b) : XK (.same a b)
  | size {a : X} (ha : XK a) : XK (.size a)
  | pick {a b : X} (ha : XK a) (hb : XK b) : XK (.pick a b)
theorem XG.xk {x : X} (h : XG x) : XK x := by
  induction h with
  | say _ _ g k => exact .say g k
  | ref _ => exact .ref _ _
  | out a b => exact .out a b
  | of a b c => exact .of a b c
  | each a b c => exact .each a b c
  | «at» a b c _ ih => exact .at a b c ih
  | tup _ _ ih => exact .tup ih
  | map _ _ _ _ ih => exact .map ih
  | join _ _ ih => exact .join ih
  | iff _ _ _ i1 i2 i3 => exact .iff i1 i2 i3
  | same _ _ i1 i2 => exact .same i1 i2
  | size _ i1 => exact .size i1
  | pick _ _ i1 i2 => exact .pick i1 i2
theorem wk_gd {N : Nat} {nm : Nm} (hn : ∀ q ∈ nm, Gd q.2) : ∀ (n : Nat) (x : X) (d : D), XG x → XK x → wk N nm n x = .ok d → Gd d
  | 0, x, d, _, _, h => nomatch h
  | n + 1, x, d, hx, kx, h => by
    have ih := wk_gd (N := N) hn n
    have lookG : ∀ {k : List Str} {v : D}, look nm k = some v → Gd v := fun {k v} e => by
      obtain ⟨q, hq, rfl⟩ := look_mem e
      exact hn q hq
    have kids : ∀ (l : List X) (ds : List D), (∀ x ∈ l, XG x) → (∀ x ∈ l, XK x) → l.mapM (wk N nm n) = .ok ds → ∀ d ∈ ds, Gd d := fun l ds hl hk e d hd => by
      obtain ⟨y, hy, ey⟩ := (mapM_get _ e).2 d hd
      exact ih y d (hl y hy) (hk y hy) ey
    cases hx with
    | say h1 h2 =>
      cases kx with
      | say g k => cases h; exact g
    | ref h1 => exact lookG (opt_ok h)
    | out a b =>
      obtain ⟨v, e1, e2⟩ := Option.bind_eq_some_iff.mp (opt_ok h)
      exact pck_gd e2 (lookG e1)
    | of a b c =>
      obtain ⟨v, e1, e2⟩ := Option.bind_eq_some_iff.mp (opt_ok h)
      exact pck_gd e2 (lookG e1)
    | each a b c =>
      obtain ⟨v, e1, e2⟩ := Option.bind_eq_some_iff.mp (opt_ok h)
      exact each_gd e2 (lookG e1)
    | @«at» a b y c hy =>
      obtain ⟨k, _, e2⟩ := bind_ok h
      obtain ⟨v, e3, e4⟩ := Option.bind_eq_some_iff.mp (opt_ok e2)
      obtain ⟨u, e5, e6⟩ := Option.bind_eq_some_iff.mp e4
      exact pck_gd e6 (pck_gd e5 (lookG e3))
    | @tup l hl h3 =>
      cases kx with
      | tup kl =>
      obtain ⟨ds, e1, e2⟩ := bind_ok h
      cases e2
      exact .tup (kids l ds hl kl e1)
    | @map ks l hl h3 hk nd =>
      cases kx with
      | map kl =>
      obtain ⟨ds, e1, e2⟩ := bind_ok h
      cases e2
      exact .map nd (hk.trans (mapM_get _ e1).1.symm) (kids l ds hl kl e1)
    | @join l hl h3 =>
      cases kx with
      | join kl =>
      obtain ⟨ds, e1, e2⟩ := bind_ok h
      exact jn_gd (kids l ds hl kl e1) (opt_ok e2)
    | @iff a b c ha hb hc =>
      cases kx with
      | iff ka kb kc =>
      obtain ⟨t, e1, e2⟩ := bind_ok h
      cases t with
      | bl q =>
        cases q
        · exact ih c d hc kc e2
        · exact ih b d hb kb e2
      | unk =>
        obtain ⟨d1, e3, e4⟩ := bind_ok e2
        obtain ⟨d2, e5, e6⟩ := bind_ok e4
        have e7 := Except.ok.inj e6
        split at e7
        · subst e7; exact ih b _ hb kb e3
        · subst e7; exact .unk
      | _ => cases e2
    | @same a b ha hb =>
      obtain ⟨d1, e3, e4⟩ := bind_ok h
      obtain ⟨d2, e5, e6⟩ := bind_ok e4
      have e7 := Except.ok.inj e6
      subst e7
      rcases same_shape N d1 d2 with ⟨q, e⟩ | e
      · rw [e]; exact .bl _
      · rw [e]; exact .unk
    | @size a ha =>
      obtain ⟨d1, e3, e4⟩ := bind_ok h
      exact szd_gd (opt_ok e4)
    | @pick a b ha hb =>
      cases kx with
      | pick ka kb =>
      obtain ⟨d1, e3, e4⟩ := bind_ok h
      obtain ⟨d2, e5, e6⟩ := bind_ok e4
      exact pck_gd (opt_ok e6) (ih a d1 ha ka e3)
theorem pck_kn {v k d : D} (hv : Kn v) (hk : Kn k) (h : pck v k = some d) : Kn d := by
  cases hv with
  | @tup l hl =>
    by_cases ht : isTag l = true
    · have : pck (.tup l) k = none := by show (if isTag l then none else _) = _; rw [if_pos ht]
      rw [this] at h
      cases h
    · cases hk with
      | int i =>
        have h' : (if isTag l then none else (if 0 ≤ i then l[i.toNat]? else none)) = some d := h
        rw [if_neg ht] at h'
        split at h'
        · exact hl d (List.mem_of_getElem? h')
        · cases h'
      | _ =>
        have h' : (if isTag l then none else (none : Option D)) = some d := h
        rw [if_neg ht] at h'
        cases h'
  | @map ks ds hl =>
    cases hk with
    | str s =>
      have h' : (if s ∈ ks then some (get ks ds s) else none) = some d := h
      split at h'
      · cases h'
        rcases get_in (ks := ks) (ds := ds) (k := s) with e | e
        · rw [e]; exact .non
        · exact hl _ e
      · cases h'
    | _ => cases h
  | _ => cases h
theorem pck_rf {v v' k k' d d' : D} (hv : Rf v v') (hk : Rf k k') (h : pck v k = some d) (h' : pck v' k' = some d') : Rf d d' := by
  have kd' : Kn d' := pck_kn hv.kn hk.kn h'
  cases hv with
  | unk _ =>
    cases k with
    | str s => cases h; exact .unk kd'
    | unk => cases h; exact .unk kd'
    | int i =>
      have e : (if 0 ≤ i then some D.unk else none) = some d := h
      split at e
      · cases e; exact .unk kd'
      · cases e
    | _ => cases h
  | @tag l ht =>
    have : pck (.tup l) k = none := by show (if isTag l then none else _) = _; rw [if_pos ht]
    rw [this] at h
    cases h
  | @tup l l' h1 h2 hl hp =>
    cases hk with
    | unk _ =>
      have e : (if isTag l then none else some D.unk) = some d := h
      rw [h1, if_neg (by simp)] at e
      cases e
      exact .unk kd'
    | int i =>
      have e : (if isTag l then none else (if 0 ≤ i then l[i.toNat]? else none)) = some d := h
      have e' : (if isTag l' then none else (if 0 ≤ i then l'[i.toNat]? else none)) = some d' := h'
      rw [h1, if_neg (by simp)] at e
      rw [h2, if_neg (by simp)] at e'
      by_cases hi : 0 ≤ i
      · rw [if_pos hi] at e e'
        exact hp _ _ _ e e'
      · rw [if_neg hi] at e
        cases e
    | _ =>
      have e : (if isTag l then none else (none : Option D)) = some d := h
      rw [h1, if_neg (by simp)] at e
      cases e
  | @map ks ks' ds ds' hp nd hl hl' hr =>
    cases hk with
    | unk _ => cases h; exact .unk kd'
    | str s =>
      have e : (if s ∈ ks then some (get ks ds s) else none) = some d := h
      have e' : (if s ∈ ks' then some (get ks' ds' s) else none) = some d' := h'
      split at e
      · rename_i hs
        rw [if_pos (hp.mem_iff.mp hs)] at e'
        cases e
        cases e'
        exact hr s hs
      · cases e
    | _ => cases h
  | _ => cases h
theorem get_mapM {f : D → Option D} {ks : List Str} {l ds : List D} (nd : ks.Nodup) (hl : ks.length = l.length) (e : l.mapM f = some ds) {k : Str} (hk : k ∈ ks) : f (get ks l k) = some (get ks ds k) := by
  obtain ⟨h1, h2⟩ := mapMO_at f e
  obtain ⟨i, hi, rfl⟩ := List.mem_iff_getElem.mp hk
  have a1 : l[i]? = some l[i] := List.getElem?_eq_getElem (by omega)
  have a2 : ds[i]? = some ds[i] := List.getElem?_eq_getElem (by omega)
  rw [get_at nd (List.getElem?_eq_getElem hi) a1, get_at nd (List.getElem?_eq_getElem hi) a2]
  exact h2 i _ _ a1 a2
theorem each_rf {v v' k d d' : D} (hv : Rf v v') (gv : Gd v) (gv' : Gd v') (hk : Kn k) (wk : Wf k) (h : eachD v k = some d) (h' : eachD v' k = some d') : Rf d d' := by
  have kk : Rf k k := Rf.refl hk wk
  have kids : ∀ {l ds : List D}, l.mapM (pck · k) = some ds → (∀ x ∈ l, Kn x) → ∀ x ∈ ds, Kn x := fun {l ds} e g x hx => by
    obtain ⟨y, hy, ey⟩ := (mapMO_get _ e).2 x hx
    exact pck_kn (g y hy) hk ey
  have kidg : ∀ {l ds : List D}, l.mapM (pck · k) = some ds → (∀ x ∈ l, Gd x) → ∀ x ∈ ds, Gd x := fun {l ds} e g x hx => by
    obtain ⟨y, hy, ey⟩ := (mapMO_get _ e).2 x hx
    exact pck_gd ey (g y hy)
  cases hv with
  | unk kv =>
    cases h
    refine .unk ?_
    cases kv with
    | @tup l kl =>
      have e0 : (l.mapM (pck · k)).map D.tup = some d' := h'
      obtain ⟨ds, e, rfl⟩ := Option.map_eq_some_iff.mp e0
      exact .tup (kids e kl)
    | @map ks l kl =>
      have e0 : (l.mapM (pck · k)).map (D.map ks) = some d' := h'
      obtain ⟨ds, e, rfl⟩ := Option.map_eq_some_iff.mp e0
      exact .map (kids e kl)
    | _ => cases h'
  | @tag l ht =>
    have e0 : (l.mapM (pck · k)).map D.tup = some d := h
    obtain ⟨ds, e, rfl⟩ := Option.map_eq_some_iff.mp e0
    exact (each_tag ht e).elim
  | @tup l l' h1 h2 hl hp =>
    have e0 : (l.mapM (pck · k)).map D.tup = some d := h
    obtain ⟨ds, e, rfl⟩ := Option.map_eq_some_iff.mp e0
    have e0' : (l'.mapM (pck · k)).map D.tup = some d' := h'
    obtain ⟨ds', e', rfl⟩ := Option.map_eq_some_iff.mp e0'
    have gl : ∀ x ∈ l, Gd x := by
      cases gv with
      | tag z => rw [h1] at z; cases z
      | tup g => exact g
    have gl' : ∀ x ∈ l', Gd x := by
      cases gv' with
      | tag z => rw [h2] at z; cases z
      | tup g => exact g
    obtain ⟨a1, a2⟩ := mapMO_at _ e
    obtain ⟨b1, b2⟩ := mapMO_at _ e'
    refine Gd.rf_tup (kidg e gl) (kidg e' gl') (by omega) fun i x y hx hy => ?_
    have i1 := (List.getElem?_eq_some_iff.mp hx).1
    have i2 := (List.getElem?_eq_some_iff.mp hy).1
    have c1 : l[i]? = some l[i] := List.getElem?_eq_getElem (by omega)
    have c2 : l'[i]? = some l'[i] := List.getElem?_eq_getElem (by omega)
    exact pck_rf (hp i _ _ c1 c2) kk (a2 i _ _ c1 hx) (b2 i _ _ c2 hy)
  | @map ks ks' l l' hp nd hl hl' hr =>
    have e0 : (l.mapM (pck · k)).map (D.map ks) = some d := h
    obtain ⟨ds, e, rfl⟩ := Option.map_eq_some_iff.mp e0
    have e0' : (l'.mapM (pck · k)).map (D.map ks') = some d' := h'
    obtain ⟨ds', e', rfl⟩ := Option.map_eq_some_iff.mp e0'
    have nd' := hp.nodup_iff.mp nd
    refine .map hp nd (hl.trans (mapMO_at _ e).1.symm) (hl'.trans (mapMO_at _ e').1.symm) fun x hx => ?_
    exact pck_rf (hr x hx) kk (get_mapM nd hl e hx) (get_mapM nd' hl' e' (hp.mem_iff.mp hx))
  | _ => cases h
theorem jn_rf {ds ds' : List D} {d d' : D} (hl : ds.length = ds'.length) (h : ∀ (i : Nat) (a b : D), ds[i]? = some a → ds'[i]? = some b → Rf a b) (e : jn ds = some d) (e' : jn ds' = some d') : Rf d d' := by
  unfold jn at e e'
  have kn' : ∀ x ∈ ds', Kn x := fun x hx => by
    obtain ⟨i, hi, rfl⟩ := List.mem_iff_getElem.mp hx
    exact (h i _ _ (List.getElem?_eq_getElem (by omega)) (List.getElem?_eq_getElem hi)).kn
  have nu' : ds'.any isU = false := by
    rw [List.any_eq_false]
    intro x hx
    cases kn' x hx <;> simp [isU]
  split at e
  · rename_i ha
    split at e'
    · rw [if_neg (by rw [nu']; simp)] at e'
      have e' := Option.some.inj e'
      have e := Option.some.inj e
      by_cases hu : ds.any isU = true
      · rw [if_pos hu] at e
        rw [← e, ← e']
        exact .unk (.str _)
      · rw [if_neg hu] at e
        have hu' : ds.any isU = false := by simpa using hu
        have eq : ds = ds' := by
          refine ext_get hl fun i x y hx hy => ?_
          have o := List.all_eq_true.mp ha x (List.mem_of_getElem? hx)
          have u := List.any_eq_false.mp hu' x (List.mem_of_getElem? hx)
          cases h i x y hx hy with
          | unk _ => exact absurd rfl u
          | str s => rfl
          | int i => rfl
          | non => cases o
          | bl b => cases o
          | tag _ => cases o
          | tup _ _ _ _ => cases o
          | map _ _ _ _ _ => cases o
        rw [← e, ← e', eq]
        exact .str _
    · cases e'
  · cases e
theorem szd_rf {v v' d d' : D} (hv : Rf v v') (e : szd v = some d) (e' : szd v' = some d') : Rf d d' := by
  cases hv with
  | unk k =>
    cases e
    refine .unk ?_
    unfold szd at e'
    split at e'
    · cases k
    · cases e'; exact .int _
    · split at e'
      · cases e'
      · cases e'; exact .int _
    · cases e'; exact .int _
    · cases e'
  | str s => cases e; cases e'; exact .int _
  | @tag l ht =>
    have e : (if isTag l then none else some (D.int l.length)) = some d := e
    rw [if_pos ht] at e
    cases e
  | @tup l l' h1 h2 hl h =>
    have e : (if isTag l then none else some (D.int l.length)) = some d := e
    have e' : (if isTag l' then none else some (D.int l'.length)) = some d' := e'
    rw [h1, if_neg (by simp)] at e
    rw [h2, if_neg (by simp)] at e'
    cases e
    cases e'
    rw [hl]
    exact .int _
  | @map ks ks' ds ds' hp nd hl hl' h =>
    cases e
    cases e'
    have := hp.length_eq
    rw [show ds.length = ds'.length by omega]
    exact .int _
  | _ => cases e
theorem same_rf {N : Nat} {a a' b b' : D} (ha : Rf a a') (hb : Rf b b') (ga : Wf a) (ga' : Wf a') (gb : Wf b) (gb' : Wf b') (da : dep a < N) (da' : dep a' < N) (db : dep b < N) (db' : dep b' < N) : Rf (same N a b) (same N a' b') := by
  rw [same_is N a b ga gb da db, same_is N a' b' ga' gb' da' db', kn_opn ha.kn, kn_opn hb.kn]
  show Rf (if may N a b then (if opn N a + opn N b = 0 then .bl true else .unk) else .bl false) (if may N a' b' then (if 0 + 0 = 0 then .bl true else .unk) else .bl false)
  rw [if_pos (rfl : 0 + 0 = 0)]
  have up : may N a' b' = true → may N a b = true := fun h => (ha.trans (rf_of_may h hb.kn ga' gb')).may2 hb da db
  by_cases m : may N a b = true
  · rw [if_pos m]
    by_cases o : opn N a + opn N b = 0
    · rw [if_pos o]
      have ka : Kn a := opn_kn da (by omega)
      have kb : Kn b := opn_kn db (by omega)
      have r : Rf a' b' := ((ha.symm ka).trans (rf_of_may m kb ga gb)).trans hb
      rw [if_pos (r.may2 (Rf.refl hb.kn gb') da' db')]
      exact .bl _
    · rw [if_neg o]
      refine .unk ?_
      split <;> exact .bl _
  · rw [if_neg m, if_neg fun z => m (up z)]
    exact .bl _
structure NF (nm nm' : Nm) : Prop where
  g : ∀ q ∈ nm, Gd q.2
  g' : ∀ q ∈ nm', Gd q.2
  ng : NG nm
  ng' : NG nm'
  rf : ∀ (k : List Str) (v : D), look nm k = some v → ∃ v', look nm' k = some v' ∧ Rf v v'
theorem wk_rf {N : Nat} {nm nm' : Nm} (F : NF nm nm') : ∀ (n : Nat) (x : X) (d d' : D), XG x → XK x → xd x ≤ 14 → 20 < N → wk N nm n x = .ok d → wk N nm' n x = .ok d' → Rf d d'
  | 0, x, d, d', _, _, _, _, h, _ => nomatch h
  | n + 1, x, d, d', hx, kx, h14, hN, h, h' => by
    have ih := fun x d d' g k hd => wk_rf (N := N) F n x d d' g k hd hN
    have gd := wk_gd (N := N) F.g n
    have gd' := wk_gd (N := N) F.g' n
    have bd := fun x d g hd e => (wk_good (N := N) F.ng n x d g hd e).2
    have bd' := fun x d g hd e => (wk_good (N := N) F.ng' n x d g hd e).2
    have lk : ∀ {k : List Str} {v v' : D}, look nm k = some v → look nm' k = some v' → Rf v v' ∧ Gd v ∧ Gd v' := fun {k v v'} e e' => by
      obtain ⟨u, e2, r⟩ := F.rf k v e
      rw [e'] at e2
      cases e2
      obtain ⟨q, hq, rfl⟩ := look_mem e
      obtain ⟨q', hq', rfl⟩ := look_mem e'
      exact ⟨r, F.g q hq, F.g' q' hq'⟩
    have kids : ∀ (l : List X) (ds ds' : List D), (∀ x ∈ l, XG x) → (∀ x ∈ l, XK x) → xdL l ≤ 14 → l.mapM (wk N nm n) = .ok ds → l.mapM (wk N nm' n) = .ok ds' →
        ds.length = ds'.length ∧ (∀ (i : Nat) (a b : D), ds[i]? = some a → ds'[i]? = some b → Rf a b) ∧ (∀ d ∈ ds, Gd d) ∧ ∀ d ∈ ds', Gd d := fun l ds ds' hl hk hd e e' => by
      obtain ⟨a1, a2⟩ := mapM_at _ e
      obtain ⟨b1, b2⟩ := mapM_at _ e'
      refine ⟨by omega, fun i a b ha hb => ?_, fun d hd => ?_, fun d hd => ?_⟩
      · have i1 := (List.getElem?_eq_some_iff.mp ha).1
        have c : l[i]? = some l[i] := List.getElem?_eq_getElem (by omega)
        have m := List.mem_of_getElem? c
        exact ih _ a b (hl _ m) (hk _ m) (by have := xd_mem m; omega) (a2 i _ a c ha) (b2 i _ b c hb)
      · obtain ⟨y, hy, ey⟩ := (mapM_get _ e).2 d hd
        exact gd y d (hl y hy) (hk y hy) ey
      · obtain ⟨y, hy, ey⟩ := (mapM_get _ e').2 d hd
        exact gd' y d (hl y hy) (hk y hy) ey
    have str : ∀ s : Str, Rf (.str s) (.str s) := fun s => .str s
    cases hx with
    | say h1 h2 =>
      cases kx with
      | say g k =>
      cases h
      cases h'
      exact Rf.refl k g.wf
    | ref h1 => exact (lk (opt_ok h) (opt_ok h')).1
    | out a b =>
      obtain ⟨v, e1, e2⟩ := Option.bind_eq_some_iff.mp (opt_ok h)
      obtain ⟨v', e1', e2'⟩ := Option.bind_eq_some_iff.mp (opt_ok h')
      exact pck_rf (lk e1 e1').1 (.str _) e2 e2'
    | of a b c =>
      obtain ⟨v, e1, e2⟩ := Option.bind_eq_some_iff.mp (opt_ok h)
      obtain ⟨v', e1', e2'⟩ := Option.bind_eq_some_iff.mp (opt_ok h')
      exact pck_rf (lk e1 e1').1 (.str _) e2 e2'
    | each a b c =>
      obtain ⟨v, e1, e2⟩ := Option.bind_eq_some_iff.mp (opt_ok h)
      obtain ⟨v', e1', e2'⟩ := Option.bind_eq_some_iff.mp (opt_ok h')
      obtain ⟨l1, l2, l3⟩ := lk e1 e1'
      exact each_rf l1 l2 l3 (.str _) (.leaf (fun _ z => nomatch z) (fun _ _ z => nomatch z)) e2 e2'
    | @«at» a b y c hy =>
      cases kx with
      | «at» _ _ _ ky =>
      rw [xd] at h14
      obtain ⟨k, f1, e2⟩ := bind_ok h
      obtain ⟨v, e3, e4⟩ := Option.bind_eq_some_iff.mp (opt_ok e2)
      obtain ⟨u, e5, e6⟩ := Option.bind_eq_some_iff.mp e4
      obtain ⟨k', f1', e2'⟩ := bind_ok h'
      obtain ⟨v', e3', e4'⟩ := Option.bind_eq_some_iff.mp (opt_ok e2')
      obtain ⟨u', e5', e6'⟩ := Option.bind_eq_some_iff.mp e4'
      exact pck_rf (pck_rf (lk e3 e3').1 (ih y k k' hy ky (by omega) f1 f1') e5 e5') (.str _) e6 e6'
    | @tup l hl h3 =>
      cases kx with
      | tup kl =>
      rw [xd] at h14
      obtain ⟨ds, e1, e2⟩ := bind_ok h
      obtain ⟨ds', e1', e2'⟩ := bind_ok h'
      cases e2
      cases e2'
      obtain ⟨a1, a2, a3, a4⟩ := kids l ds ds' hl kl (by omega) e1 e1'
      exact Gd.rf_tup a3 a4 a1 a2
    | @map ks l hl h3 hk nd =>
      cases kx with
      | map kl =>
      rw [xd] at h14
      obtain ⟨ds, e1, e2⟩ := bind_ok h
      obtain ⟨ds', e1', e2'⟩ := bind_ok h'
      cases e2
      cases e2'
      obtain ⟨a1, a2, a3, a4⟩ := kids l ds ds' hl kl (by omega) e1 e1'
      have l1 : ks.length = ds.length := hk.trans (mapM_get _ e1).1.symm
      have l2 : ks.length = ds'.length := hk.trans (mapM_get _ e1').1.symm
      refine .map (.refl _) nd l1 l2 fun k hk => ?_
      obtain ⟨i, hi, rfl⟩ := List.mem_iff_getElem.mp hk
      have c1 : ds[i]? = some ds[i] := List.getElem?_eq_getElem (by omega)
      have c2 : ds'[i]? = some ds'[i] := List.getElem?_eq_getElem (by omega)
      rw [get_at nd (List.getElem?_eq_getElem hi) c1, get_at nd (List.getElem?_eq_getElem hi) c2]
      exact a2 i _ _ c1 c2
    | @join l hl h3 =>
      cases kx with
      | join kl =>
      rw [xd] at h14
      obtain ⟨ds, e1, e2⟩ := bind_ok h
      obtain ⟨ds', e1', e2'⟩ := bind_ok h'
      obtain ⟨a1, a2, a3, a4⟩ := kids l ds ds' hl kl (by omega) e1 e1'
      exact jn_rf a1 a2 (opt_ok e2) (opt_ok e2')
    | @iff a b c ha hb hc =>
      cases kx with
      | iff ka kb kc =>
      rw [xd] at h14
      obtain ⟨t, e1, e2⟩ := bind_ok h
      obtain ⟨t', e1', e2'⟩ := bind_ok h'
      have rt := ih a t t' ha ka (by omega) e1 e1'
      cases rt with
      | bl q =>
        cases q
        · exact ih c d d' hc kc (by omega) e2 e2'
        · exact ih b d d' hb kb (by omega) e2 e2'
      | unk kt =>
        obtain ⟨d1, e3, e4⟩ := bind_ok e2
        obtain ⟨d2, e5, e6⟩ := bind_ok e4
        have e7 := Except.ok.inj e6
        cases kt with
        | bl q =>
          cases q
          · have r2 := ih c d2 d' hc kc (by omega) e5 e2'
            split at e7
            · rename_i hm
              subst e7
              have dd2 := bd c d2 hc (by omega) e5
              have k2 : Kn d2 := opn_kn (n := N) (by omega) (by omega)
              exact (rf_of_may hm.1 k2 (gd b _ hb kb e3).wf (gd c _ hc kc e5).wf).trans r2
            · subst e7; exact .unk r2.kn
          · have r1 := ih b d1 d' hb kb (by omega) e3 e2'
            split at e7
            · subst e7; exact r1
            · subst e7; exact .unk r1.kn
        | _ => cases e2'
      | _ => cases e2
    | @same a b ha hb =>
      cases kx with
      | same ka kb =>
      rw [xd] at h14
      obtain ⟨d1, e3, e4⟩ := bind_ok h
      obtain ⟨d2, e5, e6⟩ := bind_ok e4
      obtain ⟨d1', e3', e4'⟩ := bind_ok h'
      obtain ⟨d2', e5', e6'⟩ := bind_ok e4'
      have e7 := Except.ok.inj e6
      have e7' := Except.ok.inj e6'
      subst e7
      subst e7'
      have q1 := bd a d1 ha (by omega) e3
      have q2 := bd b d2 hb (by omega) e5
      have q3 := bd' a d1' ha (by omega) e3'
      have q4 := bd' b d2' hb (by omega) e5'
      exact same_rf (ih a d1 d1' ha ka (by omega) e3 e3') (ih b d2 d2' hb kb (by omega) e5 e5') (gd a _ ha ka e3).wf (gd' a _ ha ka e3').wf (gd b _ hb kb e5).wf (gd' b _ hb kb e5').wf (by omega) (by omega) (by omega) (by omega)
    | @size a ha =>
      cases kx with
      | size ka =>
      rw [xd] at h14
      obtain ⟨d1, e3, e4⟩ := bind_ok h
      obtain ⟨d1', e3', e4'⟩ := bind_ok h'
      exact szd_rf (ih a d1 d1' ha ka (by omega) e3 e3') (opt_ok e4) (opt_ok e4')
    | @pick a b ha hb =>
      cases kx with
      | pick ka kb =>
      rw [xd] at h14
      obtain ⟨d1, e3, e4⟩ := bind_ok h
      obtain ⟨d2, e5, e6⟩ := bind_ok e4
      obtain ⟨d1', e3', e4'⟩ := bind_ok h'
      obtain ⟨d2', e5', e6'⟩ := bind_ok e4'
      exact pck_rf (ih a d1 d1' ha ka (by omega) e3 e3') (ih b d2 d2' hb kb (by omega) e5 e5') (opt_ok e6) (opt_ok e6')
end VT

/-! an exception out of a walk over a dict: the dict's lock goes with it -/
namespace XR
open PySem PySem.Spec PyProof.Rows L2
def unE (H0 : Hp) (E : XK) : XK := fun cls d H => ∃ (dd : Addr) (od : Obj) (u : HO), H dd = some (.frz od u) ∧ (∀ o' u', H0 dd ≠ some (.frz o' u')) ∧ E cls d (upd H dd u)
theorem takes_un {X : Cx} {E : XK} (t : Takes X (fun cls d _ H => E cls d H)) : Takes X (fun cls d _ H => unE X.H_0 E cls d H) := fun u s' ⟨a, B, sI, pins, σ, H, cls, d, e, I, nb, up, sky, na, os, ag, dd, od, x, h1, h2, w⟩ =>
  t u s' ⟨a, B, sI, pins, σ, upd H dd x, cls, d, e, I.unlock h1 h2, nb, up, sky, by rw [upd_ne (fun z => by rw [z, h1] at na; cases na)]; exact na, os, ag, w⟩
end XR

/-! a cut in a walk: what holds behind a statement or an expression, said once -/
namespace XR
open PySem PySem.Spec PyProof.Rows L2
variable {X : Cx}
def tVia (t : TS) : TS := fun D σ H => ∃ F : L2.St → Hp → Prop, t { D with nx := F } σ H ∧ ∀ σ' H', F σ' H' → D.nx σ' H'
theorem ps_via {st : Stmt} {t : TS} (h : PS X st t) : PS X st (tVia t) := by
  refine ⟨fun pins s σ H D I hw => ?_⟩
  obtain ⟨F, ht, hF⟩ := hw
  refine thn (h.run pins s σ H _ I ht) fun f s1 q => ?_
  cases f with
  | next => obtain ⟨σ', H', I2, q⟩ := q; exact ⟨σ', H', I2, hF _ _ q⟩
  | brk => exact q
  | cont => exact q
  | ret v => exact q
def eVia (t : TE) : TE := fun σ H Q => ∃ F : VK, t σ H F ∧ ∀ v H', F v H' → Q v H'
theorem pe_via {e : Expr} {t : TE} (h : PE X e t) : PE X e (eVia t) := by
  refine ⟨fun pins s σ H Q I hw => ?_⟩
  obtain ⟨F, ht, hF⟩ := hw
  refine thn (h.run pins s σ H _ I ht) fun v s1 ⟨x, H1, I2, r, q⟩ => ⟨x, H1, I2, r, hF _ _ q⟩
/-- one expression, two rules -/
def eAlt (t u : TE) : TE := fun σ H Q => t σ H Q ∨ u σ H Q
theorem pe_alt {e : Expr} {t u : TE} (h : PE X e t) (h2 : PE X e u) : PE X e (eAlt t u) := by
  refine ⟨fun pins s σ H Q I hw => ?_⟩
  rcases hw with hw | hw
  · exact h.run pins s σ H Q I hw
  · exact h2.run pins s σ H Q I hw
end XR

namespace PySem.W
open PySem PySem.Spec PySem.Calls PyProof.Rows
section
variable {prog : Program} {w : World} {A : Around} {E : Value → Shared → Prop} {s : Shared} {K : Frag} {x D : Addr} {ox : Obj} {od : Option Obj}
theorem xr_find {name : Str} {a g : Value} (hc : (clsIn K D).isSome = true) (ha : findIn K (.ref D) name = some (some a)) (hg : specialIn K a "__get__" = some (some g)) (ht : takesIn K a = some true) : findObj K D od name = some (.bind g a) := by
  obtain ⟨cd, hc⟩ := Option.isSome_iff_exists.mp hc
  simp [findObj, hc, ha, hg, ht]
/-- x.__class__ of an exception with or without a dict -/
theorem xr_class (C : L2.ExcC K D) {Q : Option Value → Shared → Prop} (X : K.In s.heap) (I : InstAt s.heap x ox D od) (h : Q (some (.ref D)) { s with toks := s.toks + 1 }) : wpAny (model prog w) A (getAttr? (.ref x) "__class__") Q E s := by
  have hf : findObj K D od "__class__" = some (.bind (.builtin "getset_descriptor.__get__") (.builtin "object.__class__")) := by
    obtain ⟨cd, hc, _⟩ := any_some C.hd
    exact xr_find (by rw [hc]; rfl) C.ha C.hn C.ht
  obtain ⟨hp, g, d, t, os⟩ := s
  have L0 := I.type (M := model prog w)
  have L1 := looks_findIn (M := model prog w) X C.hg
  have L2 := looks_findIn (M := model prog w) X C.hk
  have L3 := looks_find (M := model prog w) X I hf
  have sub : Looks (model prog w) hp (isInstance (.ref x) (.type "BaseException")) true := L0.andThen (looks_subIn X C.hs)
  have n2 : (Value.builtin "BaseException.__getattribute__" == Value.builtin "object.__getattribute__") = false := by decide +kernel
  have n1 : (onTheHeap (Value.ref D) && Value.builtin "BaseException.__getattribute__" == Value.builtin "object.__getattribute__") = false := by rw [n2]; rfl
  unfold getAttr? getAttrBy? getAttrBy
  refine wpAny_bind (wpAny_mkText (wpAny_bind (wpAny_attempt (wpAny_holding (wpAny_bind (L0.at (wpAny_bind (L1.at ?_))))))))
  show wpAny _ _ (if (onTheHeap (Value.ref D) && Value.builtin "BaseException.__getattribute__" == Value.builtin "object.__getattribute__") = true then _ else _) _ _ _
  rw [n1, if_neg Bool.false_ne_true]
  unfold getAttrByItsOwn hookBefore
  refine wpAny_bind ?_
  rw [if_pos (show onTheHeap (Value.ref D) = true from rfl)]
  refine L2.at ?_
  refine wpAny_bind (wpAny_attempt (wpAny_holding ?_))
  unfold callGetattribute
  rw [show (false && onTheHeap (Value.builtin "BaseException.__getattribute__")) = false from rfl, if_neg Bool.false_ne_true]
  unfold boundAndCalled
  rw [PySem.F.excAttr_ValueError.ga.bind (.ref x)]
  refine wpAny_bind (wpAny_pure ?_)
  show wpAny _ _ (call (.builtin "BaseException.__getattribute__") [.ref x, .str "__class__" t]) _ _ _
  refine wpAny_call (codeAny_call_builtin PySem.F.excAttr_ValueError.ga.plain PySem.F.entry_bexc_ga ?_)
  refine @check_slot (model prog w) _ _ ⟨hp, g, d, t + 1, os⟩ "BaseException.__getattribute__" "BaseException" "__getattribute__" (.ref x) [.str "__class__" t] [] _ (by decide +kernel) (by decide +kernel) sub (PySem.F.args_bexc_ga (.ref x) (.str "__class__" t)) ?_
  unfold Builtin.«object.__getattribute__»
  refine wpAny_bind (wpAny_of_eq (a := ((Value.ref x : Value), [Value.str "__class__" t])) (by first | rfl | (simp only [slotArgs]; rfl)) ?_)
  refine wpAny_bind (wpAny_pure (wpAny_bind (L0.at (wpAny_bind (L3.at ?_)))))
  show wpAny _ _ (holding [Value.builtin "object.__class__"] (call (.builtin "getset_descriptor.__get__") [.builtin "object.__class__", .ref x, .ref D]) >>= ret) _ _ _
  refine wpAny_bind (wpAny_holding (wpAny_call (class_get (s := ⟨hp, g, d, t + 1, os⟩) (ox := ox) (od := od) X I C.hm ?_)))
  refine wpAny_pure ?_
  show wpAny _ _ (handedOut (.ref D)) _ _ _
  rw [handedOut_of (v := .ref D) rfl]
  first
    | exact wpAny_pure (wpAny_pure h)
    | exact wpAny_pure h
    | exact wpAny_pure (wpAny_bind (wpAny_pure (wpAny_pure h)))
theorem xr_kit (C : L2.ExcC K D) : KitX K (.ref x) (.ref D) (fun h => InstAt h x ox D od) where
  ty := fun _ _ _ I => I.type
  it := fun _ _ X _ => by
    obtain ⟨cdD, hcD, _⟩ := any_some C.hd
    unfold clsIn at hcD
    split at hcD
    · rename_i c' d' cd' sl' ho
      intro A' Q' E' s' k q
      unfold isType loadHead
      exact wpAny_bind (wpAny_loadPart (k _ _ (X _ _ ho)) (wpAny_pure q))
    · cases hcD
  ne := fun h tp dd its n sl X htp => by
    obtain ⟨cdD, hcD, _⟩ := any_some C.hd
    refine Bool.eq_false_iff.mpr fun q => ?_
    have e : D = tp := Value.ref.inj (beq_iff_eq.mp q)
    subst e
    unfold clsIn at hcD
    split at hcD
    · rename_i c' d' cd' sl' ho
      have z := (X _ _ ho).symm.trans htp
      cases z
    · cases hcD
  ca := fun X I k => xr_class C X I k
end
end PySem.W
namespace XR
open PySem PySem.Spec PyProof.Rows L2
/-- an exception at e, of the class at C, without a dict; its arguments stand at t -/
def exa (e C t : Addr) : HO := .ext fun h => h.get? e = some ({ cls := .ref C, data := .fields #[.ref t, .none, .none, .none, .bool false, .none] } : Obj)
/-- an exception value of class C stands at a -/
def ExV (H : Hp) (a C : Addr) : Prop := (∃ dx fs, H a = some (exo a C (some dx)) ∧ H dx = some (exd dx fs)) ∨ ∃ t, H a = some (exa a C t)
section
variable {X : Cx} {pins : List (Addr × Obj)} {σ : L2.St} {H : Hp} {s : Shared}
theorem exa_at {P : Program} {w : World} {H : Hp} {h : Heap} {e C t : Addr} (hok : HOk P w H h) (he : H e = some (exa e C t)) : h.get? e = some ({ cls := .ref C, data := .fields #[.ref t, .none, .none, .none, .bool false, .none] } : Obj) := by
  have x : ObjOk P w H h e (.ext fun h => h.get? e = some ({ cls := .ref C, data := .fields #[.ref t, .none, .none, .none, .bool false, .none] } : Obj)) := hok e _ he
  exact x.1
theorem ExV.inst {a C : Addr} (I : Inv X pins σ H s) (h : ExV H a C) : ∃ ox od, PySem.W.InstAt s.heap a ox C od := by
  rcases h with ⟨dx, fs, ea, ed⟩ | ⟨t, ea⟩
  · obtain ⟨t1, od, _, J, _⟩ := exo_inst I ea ed
    exact ⟨_, _, J⟩
  · exact ⟨_, none, exa_at I.hok ea, rfl, rfl, trivial⟩
theorem ExV.same {a C : Addr} {H' : Hp} (h : ExV H a C) (m : Same H H') : ExV H' a C := by
  rcases h with ⟨dx, fs, ea, ed⟩ | ⟨t, ea⟩
  · exact .inl ⟨dx, fs, m _ _ ea, m _ _ ed⟩
  · exact .inr ⟨t, m _ _ ea⟩
/-- isinstance(e, c) -/
def rIsX (K : PySem.W.Frag) : List V → Hp → VK → Prop := fun xs H Q => ∃ (a C : Addr) (c : V) (u : Value) (b : Bool), xs = [.ref a, c] ∧ ExV H a C ∧ ExcC K C ∧ ClsV c u ∧ PySem.W.kitOne K (.ref C) u = some b ∧ Q (.bl b) H
theorem call_isX : CallR X (.builtin "isinstance") (rIsX X.K) := by
  intro pins s σ H xs us Q I r h
  obtain ⟨a, C, c, u, b, rfl, ev, ec, cv, e, q⟩ := h
  obtain ⟨u1, u2, rfl, r1, r2⟩ := vals2 r
  cases (show u1 = Value.ref a from r1)
  have e2 := cv.eq r2
  subst e2
  obtain ⟨ox, od, J⟩ := ev.inst I
  exact PySem.W.kia_one (PySem.W.xr_kit (ox := ox) (od := od) ec) I.kIn J e (fun z => nomatch z) fun tk => ⟨.bl b, H, I.tok tk, rfl, q⟩
/-- str(e), e made with one text -/
def rStrX (K : PySem.W.Frag) : List V → Hp → VK → Prop := fun xs H Q => ∃ (a C t : Addr) (y : Str), xs = [.ref a] ∧ H a = some (exa a C t) ∧ H t = some (.tup [.str y]) ∧ PySem.W.findIn K (.ref C) "__str__" = some (some (.builtin "BaseException.__str__")) ∧
  PySem.W.subIn K (.ref C) (.type "BaseException") = some true ∧ Q (.str y) H
theorem call_strX (hu : X.A.units + 2 < cLine) : CallR X (.type "str") (rStrX X.K) := by
  intro pins s σ H xs us Q I r h
  obtain ⟨a, C, t, y, rfl, ea, et, hs, hB, q⟩ := h
  obtain ⟨u1, rfl, r1⟩ := vals1 r
  cases (show u1 = Value.ref a from r1)
  obtain ⟨_, its, rv, o, h1, h2, n, h3⟩ := (show ObjOk X.prog X.w H s.heap t (.tup [.str y]) from I.hok t _ et)
  cases rv with
  | cons ra rn =>
    cases rn
    obtain ⟨tk, rfl⟩ := ra
    exact PySem.P.str_of_C_one hu ⟨I.kIn, _, _, exa_at I.hok ea, rfl, rfl, rfl⟩ ⟨o, n, h1, h2, h3⟩ hs hB ⟨.str y, H, I, ⟨tk, rfl⟩, q⟩
/-- two new objects are tracked -/
theorem inv_two {h' : Heap} {a t : Addr} {o u : HO} (I : Inv X pins σ H s) (k : ∀ b z, s.heap.get? b = some z → h'.get? b = some z) (ha : s.heap.get? a = none) (ht : s.heap.get? t = none) (na : H a = none) (nt : H t = none) (hat : a ≠ t)
    (oa : ObjOk X.prog X.w (upd (upd H t u) a o) h' a o) (ot : ObjOk X.prog X.w (upd (upd H t u) a o) h' t u) : Inv X pins σ (upd (upd H t u) a o) { s with heap := h' } := by
  have ea : ∀ {b z}, s.heap.get? b = some z → b ≠ a := fun {b z} q e => by rw [e, ha] at q; cases q
  have et : ∀ {b z}, s.heap.get? b = some z → b ≠ t := fun {b z} q e => by rw [e, ht] at q; cases q
  have old : ∀ {b : Addr} {z : HO}, H b = some z → upd (upd H t u) a o b = some z := fun {b z} q => by rw [upd_ne (ne_of_none q na), upd_ne (ne_of_none q nt)]; exact q
  refine I.un (t' := s.toks) ⟨fun b z q _ _ _ => k b z q, fun b z q _ _ _ => ⟨z.slots, k b z q⟩, fun b z q n _ => by rw [upd_ne (ea q), upd_ne (et q)]; exact n, fun b z q _ => ⟨z, k b z q⟩, fun b xs q => old q, fun b z v q => old q, fun b ps q => ⟨#[], by rw [old q]; simp⟩⟩ fun b z e => ?_
  by_cases hb : b = a
  · subst hb
    rw [upd_same] at e
    cases e
    exact oa
  · rw [upd_ne hb] at e
    by_cases hb2 : b = t
    · subst hb2
      rw [upd_same] at e
      cases e
      exact ot
    · rw [upd_ne hb2] at e
      exact (I.hok b z e).stay (fun c v _ q => k c v q) (fun c q => old q) fun c xs q => old q
/-- C(e), C without an own __init__, as a value -/
theorem pe_new1 {C : Addr} {bmB : List Value} {B newId initId : String} {x : Str} {e : Expr} {ta : TE} {p pos : Pos} (F : ExcBaseFacts B newId initId bmB) (q : PySem.W.excIn X.K C bmB newId = true) (gC : X.mg x = some (.ref C)) (kC : PySem.W.keepIn X.K (.ref C) = true) (hg : Gl X x)
    (he : PE X e ta) (hs : starEach [e] X.env = (false, eval e X.env) :: starEach [] X.env := by rfl) (hdb : (x == ("__debug__" : Str)) = false := by decide) :
    PE X (.Call (.Name x p) [e] [] pos) (fun σ H Q => ta σ H fun v H1 => ∀ a t, H1 a = none → H1 t = none → a ≠ t → Q (.ref a) (upd (upd H1 t (.tup [v])) a (exa a C t))) := by
  refine ⟨fun pins s σ H Q I h => ?_⟩
  refine wpAny_Call_Name_kw (ld_glob I hg gC ?_ hdb)
  refine PySem.W.callWith_K (h₀ := X.base) I.ok.mod.kin kC ?_ hs (by rfl)
  rw [hs]
  show wpAny _ _ (spliced ((false, eval e X.env) :: backTo pos (starEach [] X.env))) _ _ s
  refine Calls.spliced_cons (thn (he.run pins s σ H _ I h) fun u s1 ⟨v, H1, I1, r1, q1⟩ => ?_)
  refine Calls.spliced_nil ⟨I1.kIn, ?_⟩
  show wpAny _ _ (call (.ref C) [u]) _ _ _
  obtain ⟨bm, N, nm, qn, bs, hdct, sn, sub, ab, col, dd, k0, k1, k2, k3, k5, mN, hC, hN, hni, T⟩ := exc_obj I1.kIn q
  refine wpAny_call_exc_subT F T hC hN hni (fun h' a hm => ?_) (by show 1 ≤ sizeLine; rw [sizeLine_eq]; omega)
  have na : H1 a = none := I1.hok.gone hm.new
  obtain ⟨t, h1, h2, h3⟩ := hm.there
  have nt : H1 t = none := I1.hok.gone h2
  have hat : a ≠ t := fun z => by
    rw [z, h3] at h1
    cases h1
  refine ⟨.ref a, _, inv_two (a := a) (t := t) (o := exa a C t) (u := .tup [v]) I1 hm.keeps hm.new h2 na nt hat ?_ ?_, rfl, q1 a t na nt hat⟩
  · exact ⟨h1, ⟨_, h1⟩, fun _ _ z k => k _ z⟩
  · exact ⟨by show 1 ≤ sizeLine; rw [sizeLine_eq]; omega, [u], .cons r1 .nil, _, h3, rfl, _, rfl⟩
end
end XR

namespace XR
open PySem PySem.Spec PyProof.Rows L2
/-- repr(x) is the text t -/
inductive Shw (K : PySem.W.Frag) (H : Hp) : V → Str → Prop
  | non : Shw K H .non "None"
  | bl (b : Bool) : Shw K H (.bl b) (if b then "True" else "False")
  | int (i : Int) (h : i.natAbs.log2 < 1920) : Shw K H (.int i) (toString i)
  | str (y : Str) (h : (reprText y).length ≤ sizeLine) : Shw K H (.str y) (reprText y)
  | dat {a : Addr} {d : PyData} (h : Dp K H (.ref a) d) (h1 : d.showable = true) (h2 : d.hasDict = false) (h3 : d.depth ≤ 20) (h4 : d.shown.length ≤ sizeLine) : Shw K H (.ref a) d.shown
  | dict0 {a : Addr} (h : H a = some (.dK [])) : Shw K H (.ref a) (PyData.dict []).shown
section
variable {X : Cx} {pins : List (Addr × Obj)} {σ : L2.St} {H : Hp} {s : Shared}
def rRepr (K : PySem.W.Frag) : List V → Hp → VK → Prop := fun xs H Q => ∃ x t, xs = [x] ∧ Shw K H x t ∧ Q (.str t) H
theorem call_reprX (hg : X.A.guards = some []) (hu : X.A.units + 30 < cLine) : CallR X (.builtin "repr") (rRepr X.K) := by
  intro pins s σ H xs us Q I r h
  obtain ⟨x, t, rfl, sh, q⟩ := h
  obtain ⟨u1, rfl, r1⟩ := vals1 r
  cases sh with
  | non =>
    cases (show u1 = Value.none from r1)
    exact PySem.P.repr_of_none ⟨.str _, H, I.tok _, ⟨_, rfl⟩, q⟩
  | bl b =>
    cases (show u1 = Value.bool b from r1)
    exact PySem.P.repr_of_bool ⟨.str _, H, I.tok _, ⟨_, rfl⟩, q⟩
  | int i h =>
    obtain ⟨t, rfl⟩ := r1
    exact PySem.P.repr_of_int h ⟨.str _, H, I.tok _, ⟨_, rfl⟩, q⟩
  | str y h =>
    obtain ⟨t, rfl⟩ := r1
    exact PySem.P.repr_of_str ⟨.str _, H, I.tok _, ⟨_, rfl⟩, q⟩ h
  | @dat a d h h1 h2 h3 h4 =>
    cases (show u1 = Value.ref a from r1)
    obtain ⟨as, rd⟩ := Dp.reads I d _ _ h rfl
    exact repr_of_reads' rd h1 (fun z => by rw [h2] at z; cases z) hg (by omega) (fun _ _ z => z) (fun h' u tk k => ⟨.str _, H, I.kept k, ⟨_, rfl⟩, q⟩) h4
  | @dict0 a h =>
    cases (show u1 = Value.ref a from r1)
    obtain ⟨_, ns, vs, kv, o, es, ep, e1, e2, e3, _, ps, _⟩ := (show ObjOk X.prog X.w H s.heap a (.dK []) from I.hok a _ h)
    cases kv
    have e0 : es.toList = [] := by
      cases hh : es.toList with
      | nil => rfl
      | cons z zs =>
        rw [hh] at ps
        cases ps
    have rd : Reads s.heap (.ref a) (.dict []) (a :: [] ++ []) := Reads.dict e1 e2.1 e3 (by rw [e0]; exact .nil) (by rw [e0]; exact .nil)
    refine repr_of_reads' rd rfl (fun _ z => ?_) hg (by show _ + (1 + 1) < _; omega) (fun _ _ z => z) (fun h' u tk k => ⟨.str _, H, I.kept k, ⟨_, rfl⟩, q⟩) (by decide +kernel)
    have z' : sysModules = a := by simpa using z
    rw [← z'] at ns
    simp at ns
end

/-! ### the law's own def, called at the top -/
structure TopOk (P : Program) (w : World) (K : PySem.W.Frag) (mg : Str → Option Value) (base : Heap) (k : Nat) (f : Addr) (fd : FuncData) (ps : List Str) (sp : Sp) : Prop where
  len : ∀ vs H Q E, sp vs H Q E → vs.length = ps.length
  run : ∀ (s : Shared) (H : Hp) (args : Args) (us : List Value) (vs : List V) (Q : VK) (E : XK), Room k callerA → Env0 P w K mg base callerA [] s H → BindsTo s fd args (ps.zip us) → Vals vs us → sp vs H Q E →
    codeAny (model P w) callerA (.call (.ref f) args) (CR CX0 [] P w H s Q E) s
section
variable {P : Program} {w : World} {K : PySem.W.Frag} {mg : Str → Option Value} {base : Heap}
theorem top_ok {x qual : Str} {st : Stmt} {f : Addr} {fd : FuncData} {N ps : List Str} {k : Nat} {sp : Sp} (F : Fun K x qual st f fd) (S : FnScope N ps (defScope st)) (len : ∀ vs H Q E, sp vs H Q E → vs.length = ps.length)
    (hbody : ∀ (cdv : Value) (s : Shared) (H : Hp) (vs : List V) (Q : VK) (E : XK), Room k (callerA.deeper (envOfC qual (defScope st) s.heap.objs.size f cdv)) → sp vs H Q E →
      ∃ t, PSs (cxOf CX0 P w K mg base N qual (defScope st) f cdv callerA [] s H E).nox (defBody st) t ∧ t { nx := fun _ H' => Q .non H', rt := Q } (start N vs) H) : TopOk P w K mg base (k + 1) f fd ps sp := by
  obtain ⟨oc, od, kV, doc, pm, an, cdv, ct, osl, rfl, lk, hcd⟩ := F.ex
  refine ⟨len, fun s H args us vs Q E hr e0 hb r hsp => ?_⟩
  have hl := len _ _ _ _ hsp
  have KX : K.In s.heap := e0.mod.kin.keeps fun b o e => (e0.bs b o e).1
  have lim : s.heap.NoLimit := e0.mod.nolimit.keeps fun b o e => (e0.bs b o e).1
  have hkind : ∀ y ∈ ps.zip us, (defScope st).names.lookup y.1 = some .local ∨ ((defScope st).names.lookup y.1 = some .cell ∧ ((cellsFrom (s.heap.objs.size + 1) (defScope st).names []).lookup y.1).isSome = true) := fun ⟨n, v⟩ hy => by
    rcases S.par n (List.of_mem_zip hy).1 with q | q
    · exact .inl q
    · exact .inr ⟨q, PySem.W.cellsFrom_some _ _ _ (.inl q)⟩
  refine codeAny_call_function hr.depth (KX _ _ lk) rfl S.co S.gen rfl (PySem.W.codeRec_of KX hcd) (hb _ _ _ _ ?_)
  refine wpAny_newFunctionEnv_cells S.kind hkind fun env he s1 y => ?_
  subst he
  refine ⟨lim.keeps y.toInCall.keep, codeAny_func ?_⟩
  obtain ⟨t, ht, hq⟩ := hbody cdv s H vs Q E (hr.deeper _) hsp
  have I : Inv (cxOf CX0 P w K mg base N qual (defScope st) f cdv callerA [] s H E) [] (start N vs) H s1 := inv_start S hr.hd e0 hl r y
  refine wpAny_mono (ht.nox.run [] s1 (start N vs) H _ I hq) (fun fl s' hs => ?_) fun e s' hs => hs
  cases fl with
  | ret u =>
    obtain ⟨v, σ', H', J, rv, q⟩ := hs
    exact ⟨v, H', J.os, J.bare, J.base, J.hok, rv, q⟩
  | next =>
    obtain ⟨σ', H', J, q⟩ := hs
    exact ⟨V.non, H', J.os, J.bare, J.base, J.hok, rfl, q⟩
  | brk =>
    obtain ⟨_, _, _, q⟩ := hs
    exact False.elim q
  | cont =>
    obtain ⟨_, _, _, q⟩ := hs
    exact False.elim q
end
theorem law_top {P : Program} {w : World} {K : PySem.W.Frag} {mg mb : Str → Option Value} {k : Nat} {fa a : Addr} {fd : FuncData} {x : Str} {sp : Sp} {s1 : Shared} {vs : List Value} {ns : List Int}
    (KX : K.In s1.heap) (hns : s1.heap.Ns mainGlobals mg) (hb : s1.heap.Ns builtinsNs mb) (hbb : ∀ x : Str, x ≠ "__name__" → mb x = bootBuiltins x) (hlim : s1.heap.NoLimit) (hg : s1.gens = #[])
    (ha : s1.heap.get? a = some { cls := .type "list", data := .seq vs.toArray }) (hi : IntsAre vs ns) (hl : ns.length ≤ sizeLine) (hr : Room k callerA)
    (F : ∀ base : Heap, K.In base → base.Ns mainGlobals mg → TopOk P w K mg base k fa fd [x] sp) (hbind : ∀ (s : Shared) (u : Value), BindsTo s fd ⟨[u], []⟩ [(x, u)])
    (hsp : ∀ H : Hp, Only H → SqL K H a (ns.map V.int) → sp [.ref a] H (fun v _ => v = .bl true) fun _ _ _ => False) :
    codeAny (model P w) callerA (.call (.ref fa) ⟨[.ref a], []⟩) (fun r s' => r = .ok (.ret (.bool true)) ∧ OldK s1.heap s'.heap ∧ s'.os = s1.os ∧ AllBare s'.gens) s1 := by
  have rv := vals_ints hi
  have lenV := hi.length
  have core : ∀ H : Hp, Only H → SqL K H a (ns.map V.int) → HOk P w H s1.heap → (∀ b, H b ≠ none → b = a) → (H a ≠ none → K.lookup a = none) →
      codeAny (model P w) callerA (.call (.ref fa) ⟨[.ref a], []⟩) (fun r s' => r = .ok (.ret (.bool true)) ∧ OldK s1.heap s'.heap ∧ s'.os = s1.os ∧ AllBare s'.gens) s1 := by
    intro H hO hS hok hA hK
    have base_of : ∀ {b : Addr} {o : Obj}, s1.heap.get? b = some o → H b = none → (hidT s1.heap H).get? b = some o := fun e n => hidT_get e n
    have noA : ∀ {b : Addr} {o : Obj} {es : Array DictEntry} {ep : Nat}, s1.heap.get? b = some o → o.data = .dict es ep → H b = none := fun {b o es ep} e d => by
      cases q : H b with
      | none => rfl
      | some u =>
        have e' : b = a := hA b (by rw [q]; simp)
        subst e'
        rw [ha] at e
        cases e
        have d' : Data.seq vs.toArray _ = Data.dict es ep := d
        cases d'
    have nsK : ∀ {b : Addr} {m : Str → Option Value}, s1.heap.Ns b m → (hidT s1.heap H).Ns b m := fun {b m} ⟨o, es, ep, e, d, r⟩ => ⟨o, es, ep, base_of e (noA e d), d, r⟩
    have hKb : K.In (hidT s1.heap H) := fun b o e => base_of (KX b o e) (by
      cases q : H b with
      | none => rfl
      | some u =>
        have e' : b = a := hA b (by rw [q]; simp)
        subst e'
        rw [hK (by rw [q]; simp)] at e
        cases e)
    have hM : Mod K mg (hidT s1.heap H) := ⟨hKb, nsK hns, ⟨mb, nsK hb, hbb⟩, let ⟨mc, h1, h2⟩ := hlim; ⟨mc, nsK h1, h2⟩⟩
    have e0 : Env0 P w K mg (hidT s1.heap H) callerA [] s1 H := ⟨rfl, hM, fun b o e => of_hidT e, Nat.le_of_eq (hidT_size _ _), trivial, fun b hb => absurd (show b ∈ ([] : List Addr) from hb) (by simp), hok, .of_eq hg⟩
    refine codeAny_mono ((F _ hKb (nsK hns)).run s1 H ⟨[.ref a], []⟩ [.ref a] [.ref a] _ _ hr e0 (hbind s1 (.ref a)) (.cons rfl .nil) (hsp H hO hS)) fun r s' h => ?_
    cases r with
    | error e => exact h.elim
    | ok fl =>
      cases fl with
      | next => exact False.elim h
      | brk => exact False.elim h
      | cont => exact False.elim h
      | ret u =>
        obtain ⟨v, H', os, bare, un, hok', r', q⟩ := h
        have q' : v = .bl true := q
        subst q'
        obtain rfl : u = Value.bool true := r'
        refine ⟨rfl, OldK.of_keep fun b o e => ?_, os, bare⟩
        cases q : H b with
        | none => exact un.keep b o e q (by intro z; exact absurd (show b ∈ ([] : List Addr) from z) (by simp)) (by simp)
        | some u =>
          rcases hO b with z | ⟨ob, xs, z⟩
          · rw [q] at z
            cases z
          · have z2 := un.frzs b ob _ z
            obtain ⟨e1, _⟩ := hok b _ z
            obtain ⟨e2, _⟩ := hok' b _ z2
            rw [e] at e1
            cases e1
            exact e2
  cases hk : K.lookup a with
  | some o =>
    have e := KX a o hk
    rw [ha] at e
    cases e
    refine core (fun _ => none) (fun _ => .inl rfl) (.inr ⟨_, vs.toArray, _, hk, rfl, rfl, rfl, by rw [List.size_toArray, lenV]; exact hl, by simpa using rv⟩) (fun b u z => by have z' : (none : Option HO) = some u := z; cases z') (fun b z => absurd rfl z) fun z => absurd rfl z
  | none =>
    refine core (fun b => if b = a then some (.frz { cls := .type "list", data := .seq vs.toArray } (.lst (ns.map V.int))) else none) (fun b => ?_) (.inl (.inr ⟨{ cls := .type "list", data := .seq vs.toArray }, if_pos rfl⟩)) (fun b u z => ?_) (fun b z => ?_) fun _ => hk
    · by_cases hb : b = a
      · exact .inr ⟨_, _, if_pos hb⟩
      · exact .inl (if_neg hb)
    · by_cases hb : b = a
      · have z' := (if_pos hb).symm.trans z
        cases z'
        subst hb
        exact ⟨ha, by rw [List.length_map]; exact hl, vs, _, rv, ha⟩
      · have z' := (if_neg hb).symm.trans z
        cases z'
    · by_cases hb : b = a
      · exact hb
      · exact absurd (if_neg hb) z
theorem walk_top {l : PySem.W.OpenLaw} {n k : Nat} {q : Program} {loose : List Str} {XP : (Str → Option Value) → Heap → Prop} {YP : World → Heap → Prop} {d : DefRec} {K : Params → PySem.W.Frag} {sp : PySem.W.Frag → Sp} {x : Str}
    (hn : l.most = some n) (hn2 : n ≤ sizeLine) (hdf : d.params.defaults = []) (hr : Room k callerA)
    (hY : ∀ (w : World) (h : Heap), YP w h → (K w.params).In h)
    (F : ∀ (w : World) (mg : Str → Option Value) (fa : Addr) (h : Heap), (K w.params).In h → h.Ns mainGlobals mg → mg d.name = some (.ref fa) →
      ∃ fd : FuncData, (∀ (s : Shared) (u : Value), BindsTo s fd ⟨[u], []⟩ [(x, u)]) ∧
        ∀ base : Heap, (K w.params).In base → base.Ns mainGlobals mg → TopOk l.prog w (K w.params) mg base k fa fd [x] (sp (K w.params)))
    (hsp : ∀ (K : PySem.W.Frag) (H : Hp) (a : Addr) (ns : List Int), ns.length ≤ n → Only H → SqL K H a (ns.map V.int) → sp K [.ref a] H (fun v _ => v = .bl true) fun _ _ _ => False) :
    PySem.W.WalkO q loose XP YP l.row.toRowW d [] (fun f vs => PySem.call f vs) := by
  refine Att.attach_call hn hdf fun w s₀ s1 mg mb fa o pm cd doc a vs ns G Y ho hd hcd hmg hobj hints hlen hg => ?_
  have KX := hY w _ Y
  obtain ⟨fd, hb, hF⟩ := F w mg fa _ KX G.T.g hmg
  exact law_top KX G.T.g G.T.b G.T.builtins G.T.nolimit hg hobj hints (Nat.le_trans hlen hn2) hr hF hb fun H hO hS => hsp _ H a ns hlen hO hS
end XR

/-! repr of trees -/
namespace VT
open PySem L2 TL
def rowP : List Str → List PyData → List (PyData × PyData)
  | k :: ks, p :: ps => (.str k, p) :: rowP ks ps
  | _, _ => []
mutual
def toP : D → PyData
  | .non => .none
  | .bl b => .bool b
  | .int i => .int i
  | .str s => .str s
  | .unk => .none
  | .tup l => .tuple (toPL l)
  | .map ks ds => .dict (rowP ks (toPL ds))
def toPL : List D → List PyData
  | [] => []
  | d :: l => toP d :: toPL l
end
mutual
/-- nothing unknown -/
def nou : D → Bool
  | .unk => false
  | .tup l => nouL l
  | .map _ ds => nouL ds
  | _ => true
def nouL : List D → Bool
  | [] => true
  | d :: l => nou d && nouL l
end
def lnK : List Str → Nat
  | [] => 0
  | k :: ks => 10 * k.length + 6 + lnK ks
mutual
/-- the text of a tree is no longer -/
def ln : D → Nat
  | .non => 4
  | .bl _ => 5
  | .int _ => 13
  | .str s => 10 * s.length + 2
  | .unk => 4
  | .tup l => lnL l + 4
  | .map ks ds => lnK ks + lnL ds + 4
def lnL : List D → Nat
  | [] => 0
  | d :: l => ln d + 2 + lnL l
end
theorem nouL_mem : ∀ {l : List D} {d : D}, nouL l = true → d ∈ l → nou d = true
  | x :: l, d, h, hd => by
    rw [nouL, Bool.and_eq_true] at h
    rcases List.mem_cons.mp hd with rfl | hd
    · exact h.1
    · exact nouL_mem h.2 hd
def Pl (d : D) : Prop := (toP d).showable = true ∧ (toP d).shown.length ≤ ln d ∧ (toP d).depth ≤ dep d
theorem join_le (ts : List Str) : (Str.join ", " ts).length ≤ piled ts := by
  cases ts with
  | nil => exact Nat.zero_le _
  | cons t ts =>
    have := join_length_add (t :: ts) (by simp)
    omega
theorem pl_all : ∀ {l : List D}, (∀ d ∈ l, Pl d) → PyData.showableAll (toPL l) = true ∧ piled (PyData.shownAll (toPL l)) ≤ lnL l ∧ PyData.depthAll (toPL l) ≤ depL l
  | [], _ => ⟨rfl, Nat.zero_le _, Nat.zero_le _⟩
  | d :: l, h => by
    obtain ⟨a1, a2, a3⟩ := h d List.mem_cons_self
    obtain ⟨b1, b2, b3⟩ := pl_all (l := l) fun x hx => h x (List.mem_cons_of_mem _ hx)
    refine ⟨?_, ?_, ?_⟩
    · show ((toP d).showable && PyData.showableAll (toPL l)) = true
      rw [a1, b1]
      rfl
    · show piled ((toP d).shown :: PyData.shownAll (toPL l)) ≤ ln d + 2 + lnL l
      rw [piled_cons]
      omega
    · show max (toP d).depth (PyData.depthAll (toPL l)) ≤ max (dep d) (depL l)
      omega
theorem txt_le {x : Str} (h : PyData.strOk x = true) : (reprText x).length ≤ 10 * x.length + 2 := StrLaws.reprText_len x fun c hc => by
  have h' : x.cps.all (· < 0x110000) = true := h
  rw [← Array.all_toList, List.all_eq_true] at h'
  have := of_decide_eq_true (h' c hc)
  omega
theorem pl_rows : ∀ {ks : List Str} {l : List D}, ks.length = l.length → (∀ k ∈ ks, PyData.strOk k = true) → (∀ d ∈ l, Pl d) →
    PyData.showableKv (rowP ks (toPL l)) = true ∧ piled (PyData.shownKv (rowP ks (toPL l))) ≤ lnK ks + lnL l ∧ PyData.depthKv (rowP ks (toPL l)) ≤ depL l
  | [], [], _, _, _ => ⟨rfl, Nat.zero_le _, Nat.zero_le _⟩
  | k :: ks, d :: l, hl, hk, h => by
    obtain ⟨a1, a2, a3⟩ := h d List.mem_cons_self
    obtain ⟨b1, b2, b3⟩ := pl_rows (ks := ks) (l := l) (Nat.succ.inj hl) (fun x hx => hk x (List.mem_cons_of_mem _ hx)) fun x hx => h x (List.mem_cons_of_mem _ hx)
    refine ⟨?_, ?_, ?_⟩
    · show (true && (toP d).showable && PyData.showableKv (rowP ks (toPL l))) = true
      rw [a1, b1]
      rfl
    · show piled ((reprText k ++ ": " ++ (toP d).shown) :: PyData.shownKv (rowP ks (toPL l))) ≤ (10 * k.length + 6 + lnK ks) + (ln d + 2 + lnL l)
      rw [piled_cons, strLen_append, strLen_append]
      have e1 := txt_le (hk k List.mem_cons_self)
      have e2 : (Str.ofString ": ").length = 2 := by decide +kernel
      rw [e2]
      omega
    · show max (max 0 (toP d).depth) (PyData.depthKv (rowP ks (toPL l))) ≤ max (dep d) (depL l)
      omega
/-- its numbers are small -/
inductive IB : D → Prop
  | non : IB .non
  | bl (b : Bool) : IB (.bl b)
  | int (i : Int) (h : i.natAbs < 10 ^ 12) : IB (.int i)
  | str (s : Str) : IB (.str s)
  | unk : IB .unk
  | tup {l : List D} (h : ∀ d ∈ l, IB d) : IB (.tup l)
  | map {ks : List Str} {ds : List D} (h : ∀ d ∈ ds, IB d) : IB (.map ks ds)
theorem BD.ib {T : Nat} {d : D} (h : BD T d) : IB d := by
  induction h with
  | non => exact .non
  | bl b => exact .bl b
  | int i h => exact .int i h
  | str s h l => exact .str s
  | unk => exact .unk
  | tup h hl ih => exact .tup ih
  | map h hl ih => exact .map ih
theorem Rep.pl {CU : Addr} {H : Hp} {v : V} {d : D} (h : Rep CU H v d) (b : IB d) : Pl d := by
  induction h with
  | non => exact ⟨rfl, by decide +kernel, Nat.le_refl _⟩
  | bl q => cases q <;> exact ⟨rfl, by decide +kernel, Nat.le_refl _⟩
  | int i =>
    cases b with
    | int _ hi => exact ⟨decide_eq_true (int_log hi), int_len hi, Nat.le_refl _⟩
  | str x hx => exact ⟨rfl, txt_le hx.1, Nat.le_refl _⟩
  | unk h => exact ⟨rfl, by decide +kernel, Nat.le_refl _⟩
  | @tup a xs ds h hl hz hs ih =>
    cases b with
    | tup hb =>
      obtain ⟨p1, p2, p3⟩ := pl_all (l := ds) fun d hd => by
        obtain ⟨i, hi, rfl⟩ := List.mem_iff_getElem.mp hd
        exact ih i (xs[i]'(by omega)) _ (List.getElem?_eq_getElem (by omega)) (List.getElem?_eq_getElem hi) (hb _ hd)
      refine ⟨p1, ?_, ?_⟩
      · show (tupleText (PyData.shownAll (toPL ds))).length ≤ lnL ds + 4
        unfold tupleText
        rw [strLen_append, strLen_append]
        have e1 : (Str.ofString "(").length = 1 := by decide +kernel
        have e2 : (Str.ofString (if ((PyData.shownAll (toPL ds)).length == 1) = true then ",)" else ")")).length ≤ 2 := by split <;> decide +kernel
        have e3 := join_le (PyData.shownAll (toPL ds))
        rw [e1]
        omega
      · show PyData.depthAll (toPL ds) + 1 ≤ dep (.tup ds)
        rw [dep]
        omega
  | @map a vs ks ds h hv hk hz nd ko hs ih =>
    cases b with
    | map hb =>
      obtain ⟨p1, p2, p3⟩ := pl_rows (l := ds) hk (fun k hk => (ko k hk).1) fun d hd => by
        obtain ⟨i, hi, rfl⟩ := List.mem_iff_getElem.mp hd
        exact ih i (vs[i]'(by omega)) _ (List.getElem?_eq_getElem (by omega)) (List.getElem?_eq_getElem hi) (hb _ hd)
      refine ⟨p1, ?_, ?_⟩
      · show (dictText (PyData.shownKv (rowP ks (toPL ds)))).length ≤ lnK ks + lnL ds + 4
        unfold dictText
        rw [strLen_append, strLen_append]
        have e1 : (Str.ofString "{").length = 1 := by decide +kernel
        have e2 : (Str.ofString "}").length = 1 := by decide +kernel
        have e3 := join_le (PyData.shownKv (rowP ks (toPL ds)))
        rw [e1, e2]
        omega
      · show PyData.depthKv _ + 1 ≤ dep (.map ks ds)
        rw [dep]
        omega
theorem reads_all {h : Heap} : ∀ {xs : List V} {us : List Value} {ds : List D}, Vals xs us → xs.length = ds.length → (∀ (i : Nat) (v : V) (d : D), xs[i]? = some v → ds[i]? = some d → ∀ u, RelV v u → ∃ as, Reads h u (toP d) as ∧ sysModules ∉ as) → ∃ as, ReadsAll h us (toPL ds) as ∧ sysModules ∉ as
  | [], _, [], r, _, _ => by
    cases r
    exact ⟨[], .nil, fun z => nomatch z⟩
  | x :: xs, _, d :: ds, r, hl, hs => by
    cases r with
    | cons r1 r2 =>
      obtain ⟨as, q1, n1⟩ := hs 0 x d rfl rfl _ r1
      obtain ⟨bs, q2, n2⟩ := reads_all r2 (Nat.succ.inj hl) fun i v e h1 h2 => hs (i + 1) v e h1 h2
      exact ⟨as ++ bs, .cons q1 q2, fun z => (List.mem_append.mp z).elim n1 n2⟩
theorem reads_rows {P : Program} {w : World} {h : Heap} : ∀ {ks : List Str} {vs : List V} {ds : List D} {es : List DictEntry} {kvs : List (Key × Value)}, vs.length = ks.length → ds.length = ks.length → KV (mkv ks vs) kvs → Pairs (mixKind P w) es kvs →
    (∀ (i : Nat) (v : V) (d : D), vs[i]? = some v → ds[i]? = some d → ∀ u, RelV v u → ∃ as, Reads h u (toP d) as ∧ sysModules ∉ as) →
    (∃ as, ReadsAll h (es.map (·.key)) ((rowP ks (toPL ds)).map (·.1)) as ∧ sysModules ∉ as) ∧ ∃ bs, ReadsAll h (es.map (·.val)) ((rowP ks (toPL ds)).map (·.2)) bs ∧ sysModules ∉ bs
  | [], [], [], es, kvs, _, _, r, ps, _ => by
    cases r
    cases ps
    exact ⟨⟨[], .nil, fun z => nomatch z⟩, ⟨[], .nil, fun z => nomatch z⟩⟩
  | k :: ks, v :: vs, d :: ds, es, kvs, h1, h2, r, ps, hs => by
    have r' : KV ((Sum.inr k, v) :: mkv ks vs) kvs := r
    cases r' with
    | @cons _ q _ kvs' rq r2 =>
      cases ps with
      | @cons e _ es' _ ke ve ps2 =>
        obtain ⟨⟨as, q1, n1⟩, ⟨bs, q2, n2⟩⟩ := reads_rows (ks := ks) (Nat.succ.inj h1) (Nat.succ.inj h2) r2 ps2 fun i v d e1 e2 => hs (i + 1) v d e1 e2
        obtain ⟨eq1, rv⟩ := rq
        obtain ⟨cs, q3, n3⟩ := hs 0 v d rfl rfl _ rv
        have ke' : keyIs q.1 e.key = true := ke
        rw [← eq1] at ke'
        rcases keyIs_shape ke' with ⟨i, t, z, _⟩ | ⟨x, t, z, ek⟩
        · cases z
        · cases z
          refine ⟨⟨[] ++ as, ?_, n1⟩, ⟨cs ++ bs, ?_, fun z => (List.mem_append.mp z).elim n3 n2⟩⟩
          · show ReadsAll h (e.key :: _) (PyData.str k :: _) _
            rw [ek]
            exact .cons (.str _ _) q1
          · show ReadsAll h (e.val :: _) (toP d :: _) _
            rw [ve]
            exact .cons q3 q2
theorem Rep.reads {CU : Addr} {X : Cx} {pins : List (Addr × Obj)} {σ : L2.St} {H : Hp} {s : Shared} {v : V} {d : D} (I : Inv X pins σ H s) (h : Rep CU H v d) (n : nou d = true) : ∀ u, RelV v u → ∃ as, Reads s.heap u (toP d) as ∧ sysModules ∉ as := by
  induction h with
  | non =>
    intro u r
    cases (show u = Value.none from r)
    exact ⟨[], .none, fun z => nomatch z⟩
  | bl b =>
    intro u r
    cases (show u = Value.bool b from r)
    exact ⟨[], .bool b, fun z => nomatch z⟩
  | int i =>
    intro u r
    obtain ⟨t, rfl⟩ := r
    exact ⟨[], .int i t, fun z => nomatch z⟩
  | str x h =>
    intro u r
    obtain ⟨t, rfl⟩ := r
    exact ⟨[], .str x t, fun z => nomatch z⟩
  | unk h => cases n
  | @tup a xs ds h hl hz hs ih =>
    intro u r
    cases (show u = Value.ref a from r)
    obtain ⟨_, its, rv, o, ho, hc, m, hd⟩ := (show ObjOk X.prog X.w H s.heap a (.tup xs) from I.hok a _ h)
    obtain ⟨as, q, na⟩ := reads_all (h := s.heap) rv hl fun i v d e1 e2 => ih i v d e1 e2 (nouL_mem (l := ds) n (List.mem_of_getElem? e2))
    exact ⟨as, .tuple ho hc hd (by simpa using q), na⟩
  | @map a vs ks ds h hv hk hz nd ko hs ih =>
    intro u r
    cases (show u = Value.ref a from r)
    obtain ⟨_, ns, kvs, kv, o, es, ep, e1, e2, e3, _, ps, _⟩ := (show ObjOk X.prog X.w H s.heap a (.dK (mkv ks vs)) from I.hok a _ h)
    obtain ⟨⟨as, q1, n1⟩, ⟨bs, q2, n2⟩⟩ := reads_rows (h := s.heap) (hv.trans hk.symm) hk.symm kv ps fun i v d e1 e2 => ih i v d e1 e2 (nouL_mem (l := ds) n (List.mem_of_getElem? e2))
    refine ⟨a :: as ++ bs, .dict e1 e2.1 e3 q1 q2, fun z => ?_⟩
    rcases List.mem_append.mp z with z | z
    · rcases List.mem_cons.mp z with z | z
      · rw [← z] at ns
        simp at ns
      · exact n1 z
    · exact n2 z
end VT
namespace XR
open PySem PySem.Spec PyProof.Rows L2 VT
section
variable {X : Cx} {CU : Addr}
def rReprT (CU : Addr) : List V → Hp → VK → Prop := fun xs H Q => ∃ (a : Addr) (d : D), xs = [.ref a] ∧ Rep CU H (.ref a) d ∧ IB d ∧ nou d = true ∧ ln d ≤ sizeLine ∧ dep d ≤ 40 ∧ Q (.str (toP d).shown) H
theorem call_reprT (hg : X.A.guards = some []) (hu : X.A.units + 50 < cLine) : CallR X (.builtin "repr") (rReprT CU) := by
  intro pins s σ H xs us Q I r h
  obtain ⟨a, d, rfl, rp, bd, nu, le, dp, q⟩ := h
  obtain ⟨u1, rfl, r1⟩ := vals1 r
  cases (show u1 = Value.ref a from r1)
  obtain ⟨as, rd, na⟩ := rp.reads I nu _ rfl
  obtain ⟨p1, p2, p3⟩ := rp.pl bd
  exact repr_of_reads' rd p1 (fun _ => na) hg (by omega) (fun _ _ z => z) (fun h' u tk k => ⟨.str _, H, I.kept k, ⟨_, rfl⟩, q⟩) (by omega)
end
end XR

/-! dict(xs) of a list of pairs whose keys are tuples -/
namespace XR
open PySem PySem.Spec PyProof.Rows L2
def putsT : List (List L2.Key × V) → List (List L2.Key × V) → List (List L2.Key × V)
  | acc, [] => acc
  | acc, p :: r => putsT (putK acc p.1 p.2) r
theorem length_putsT : ∀ (m acc : List (List L2.Key × V)), (putsT acc m).length ≤ acc.length + m.length
  | [], acc => Nat.le_refl _
  | p :: m, acc => by
    have h1 := length_putsT m (putK acc p.1 p.2)
    have h2 : (putK acc p.1 p.2).length ≤ acc.length + 1 := length_putK ..
    show (putsT (putK acc p.1 p.2) m).length ≤ acc.length + (m.length + 1)
    omega
theorem KT_puts {H : Hp} : ∀ {more acc : List (List L2.Key × V)} {ys xs : List (List L2.Key × Addr × Value)}, KT H acc xs → KT H more ys → KT H (putsT acc more) (storedAllH xs ys)
  | [], acc, _, xs, ha, .nil => ha
  | p :: more, acc, _, xs, ha, .cons (b := y) h t => by
    obtain ⟨e1, e2, e3⟩ := h
    have h1 : KT H (putK acc p.1 p.2) (storedH xs y.1 y.2.1 y.2.2) := by
      rw [← e1]
      exact KT.put ha p.1 e2 e3
    show KT H (putsT (putK acc p.1 p.2) more) (storedAllH (storedH xs y.1 y.2.1 y.2.2) _)
    exact KT_puts h1 t
section
variable {X : Cx}
def rDictPT (K : PySem.W.Frag) : List V → Hp → VK → Prop := fun xs H Q => ∃ (a : Addr) (ps : List Addr) (kvs : List (List L2.Key × V)), xs = [.ref a] ∧ SqL K H a (ps.map V.ref) ∧
  Paired (fun p kv => ∃ b, H p = some (.tup [.ref b, kv.2]) ∧ H b = some (.tup (kv.1.map kV))) ps kvs ∧ ∀ p, H p = none → Q (.ref p) (upd H p (.dT (putsT [] kvs)))
theorem pairsT_of {pins : List (Addr × Obj)} {σ : L2.St} {H : Hp} {s : Shared} (I : Inv X pins σ H s) : ∀ {ps : List Addr} {kvs : List (List L2.Key × V)}, Paired (fun p kv => ∃ b, H p = some (.tup [.ref b, kv.2]) ∧ H b = some (.tup (kv.1.map kV))) ps kvs →
    ∃ prs : List (List L2.Key × Addr × Value), KT H kvs prs ∧ prs.length = ps.length ∧ ∀ (j : Nat) (q : List L2.Key × Addr × Value), prs[j]? = some q → ∃ b : Addr, ps[j]? = some b ∧ IsTup s.heap b #[.ref q.2.1, q.2.2] ∧ (tupleKind (mixKind X.prog X.w)).is s.heap q.1 q.2.1
  | _, _, .nil => ⟨[], .nil, rfl, fun j q e => by simp at e⟩
  | _, _, .cons (a := p) (b := kv) h t => by
    obtain ⟨prs, r, hl, hp⟩ := pairsT_of I t
    obtain ⟨b, h1, h2⟩ := h
    obtain ⟨its, rv, ht, _⟩ := I.tuple (SqT.of h1)
    obtain ⟨u, y, ei, ru, ry⟩ := vals2 rv
    subst ei
    cases (show u = Value.ref b from ru)
    refine ⟨(kv.1, b, y) :: prs, .cons ⟨rfl, h2, ry⟩ r, by rw [List.length_cons, List.length_cons, hl], fun j q e => ?_⟩
    cases j with
    | zero =>
      have e' : (kv.1, b, y) = q := Option.some.inj e
      subst e'
      exact ⟨p, rfl, ht, key_of I.hok h2⟩
    | succ j =>
      obtain ⟨c, e1, e2⟩ := hp j q (by simpa using e)
      exact ⟨c, by simpa using e1, e2⟩
theorem call_dictPT (hcalm : X.calm = true) (hu : X.A.units + 3 < cLine) : CallR X (.type "dict") (rDictPT X.K) := by
  intro pins s σ H xs us Q I r q
  obtain ⟨a, ps, kvs, ex, hq, hp, q⟩ := q
  subst ex
  obtain ⟨u, eu, rx⟩ := vals1 r
  subst eu
  cases rx
  obtain ⟨its, rv, pl, hz⟩ := I.list hq
  have ei := refs_at rv
  subst ei
  rw [List.length_map] at hz
  obtain ⟨prs, rel, hl, hpr⟩ := pairsT_of I hp
  obtain ⟨o, n, ho, hc, hd, hdat⟩ := pl
  have item : ∀ (j : Nat) (k v : Value), (prs.map fun q => (Value.ref q.2.1, q.2.2))[j]? = some (k, v) → ∃ q, prs[j]? = some q ∧ k = .ref q.2.1 ∧ v = q.2.2 := fun j k v e => by
    rw [List.getElem?_map] at e
    obtain ⟨q, h1, h2⟩ := Option.map_eq_some_iff.mp e
    cases h2
    exact ⟨q, h1, rfl, rfl⟩
  have pi : PairItems s.heap (ps.map Value.ref).toArray (fun j => ps.getD j 0) (prs.map fun q => (Value.ref q.2.1, q.2.2)) := by
    refine ⟨by simp [hl], fun j k v e => ?_⟩
    obtain ⟨q, e1, rfl, rfl⟩ := item j k v e
    obtain ⟨b, e2, e3, _⟩ := hpr j q e1
    have eg : ps.getD j 0 = b := by rw [List.getD_eq_getElem?_getD, e2]; rfl
    show _ = some (Value.ref (ps.getD j 0)) ∧ PairAt s.heap (ps.getD j 0) _ _
    rw [eg]
    exact ⟨by simp [e2], .inl e3⟩
  refine PySem.call_dict_pairsH (knd := tupleKind (mixKind X.prog X.w)) (ps := prs) (PairArg.list (prog := X.prog) (w := X.w) a (ps.map Value.ref).toArray (fun j => ps.getD j 0) (prs.map fun q => (Value.ref q.2.1, q.2.2))) (I.ok.hd hcalm) (show X.A.in1.in1.units < cLine from ?_)
    ⟨⟨o, n, ho, hc, hd, hdat⟩, pi⟩ ⟨by rw [List.length_map], fun i k v e => ?_⟩ (fun h' hk x hx => ?_) (by rw [List.length_map, hl]; exact hz) fun h' tk dd k => ?_
  · show X.A.units + 1 + 1 < cLine
    omega
  · obtain ⟨q, e1, rfl, rfl⟩ := item i k v e
    exact ⟨q.1, q.2.1, e1, rfl⟩
  · obtain ⟨j, hj⟩ := List.mem_iff_getElem?.mp hx
    obtain ⟨b, _, _, e3⟩ := hpr j x hj
    obtain ⟨o3, it3, n3, ho3, hc3, r3⟩ := e3
    exact ⟨o3, it3, n3, hk _ _ (Nat.ne_of_lt (Heap.lt_size ho3)) (by simp) ho3, hc3, r3⟩
  · have hm : (s.heap.objs.size == sysModules) = false := beq_eq_false_iff_ne.mpr (Nat.ne_of_gt I.big)
    have hlen : (putsT [] kvs).length ≤ sizeLine := by
      refine Nat.le_trans (length_putsT kvs []) ?_
      rw [List.length_nil, Nat.zero_add, Paired.length rel, hl]
      exact hz
    have fr := I.hok.fresh (Nat.le_refl s.heap.objs.size)
    have r0 : KT (upd H s.heap.objs.size (.dT (putsT [] kvs))) (putsT [] kvs) (storedAllH [] prs) := (KT_puts .nil rel).keeps fun b ys e => by rw [upd_ne (ne_of_none e fr)]; exact e
    obtain ⟨o', es, ep, g1, g2, g3, g4, _, g5⟩ := dd
    exact ⟨.ref s.heap.objs.size, upd H s.heap.objs.size (.dT (putsT [] kvs)), I.laid (t' := tk) (fun b ob e => k b ob (by simp) e) (Nat.le_refl _) ⟨hlen, hm, storedAllH [] prs, r0, o', es, ep, g1, g2, g3, g4, g5⟩, rfl, q _ fr⟩
end
end XR

namespace K04
open PySem L2 XR VT
def top (i : Nat) : Stmt := PySem.Challenge.pw_planfirst_k04_whole_known_values_are_rig.main.body.getD i (.Pass ⟨0, 0, 0, 0⟩)
abbrev sInt : Stmt := top 7
abbrev sName : Stmt := top 8
abbrev sTag : Stmt := top 9
abbrev sKnown : Stmt := top 10
abbrev sSort : Stmt := top 11
abbrev sParts : Stmt := top 12
abbrev sSame : Stmt := top 13
abbrev sAgrees : Stmt := top 15
abbrev sUEq : Stmt := inClass (top 6) 0
def tyN : D → String
  | .non => "NoneType"
  | .bl _ => "bool"
  | .int _ => "int"
  | .str _ => "str"
  | .tup _ => "tuple"
  | .map _ _ => "dict"
  | .unk => ""
def tyD (CU : Addr) : D → Value
  | .unk => .ref CU
  | d => .type (tyN d)
def isD (t : String) (d : D) : Bool := tyN d == t || (tyN d == "bool" && t == "int")
abbrev tys : List String := ["tuple", "bool", "int", "dict", "str"]
structure Txt (K : PySem.W.Frag) (mg : Str → Option Value) (CU : Addr) : Prop where
  isi : mg "isinstance" = none
  len : mg "len" = none
  all : mg "all" = none
  zip : mg "zip" = none
  tuple : mg "tuple" = none
  dict : mg "dict" = none
  list : mg "list" = none
  bool : mg "bool" = none
  int : mg "int" = none
  str : mg "str" = none
  sorted : mg "sorted" = none
  gU : mg "Unknown" = some (.ref CU)
  letters : ∃ t, mg "LETTERS" = some (.str "abcdefghijklmnopqrstuvwxyz" t)
  mark : ∃ t, mg "MARK" = some (.str "#" t)
  kU : ∀ d : D, PySem.W.kitOne K (tyD CU d) (.ref CU) = some (isU d)
  kT : ∀ t ∈ tys, PySem.W.kitOne K (.ref CU) (.type t) = some false
  cu : Cls K CU
  c1 : PySem.W.findIn K (.ref CU) "__class__" = some (some (.builtin "object.__class__"))
  c2 : PySem.W.specialIn K (.builtin "object.__class__") "__get__" = some (some (.builtin "getset_descriptor.__get__"))
  c3 : PySem.W.takesIn K (.builtin "object.__class__") = some true
  c4 : PySem.W.mroIn K CU (.type "object") = some true
section
variable {P : Program} {w : World} {K : PySem.W.Frag} {mg : Str → Option Value} {base : Heap} {CU : Addr}
theorem Rep.ty {H : Hp} {v : V} {d : D} (T : Txt K mg CU) (h : Rep CU H v d) : TyX K H v (tyD CU d) := by
  cases h with
  | non => exact .base .non
  | bl b => exact .base (.bl b)
  | int i => exact .base (.int i)
  | str x h => exact .base (.str x)
  | unk h => exact .base (.ins h T.cu T.c1 T.c2 T.c3 T.c4)
  | tup h => exact .base (.tup h)
  | map h => exact .base (.dK h)
theorem Txt.kit (T : Txt K mg CU) (t : String) (ht : t ∈ tys) (d : D) : PySem.W.kitOne K (tyD CU d) (.type t) = some (isD t d) := by
  have tb : ∀ a ∈ ["NoneType", "bool", "int", "str", "tuple", "dict"], ∀ t ∈ tys, kitB a t = some (a == t || (a == "bool" && t == "int")) := by decide +kernel
  have un : ∀ t ∈ tys, (some false : Option Bool) = some (("" : String) == t || (("" : String) == "bool" && t == "int")) := by decide +kernel
  cases d with
  | unk => exact (T.kT t ht).trans (un t ht)
  | non => exact kit_ty (tb "NoneType" (by decide) t ht)
  | bl b => exact kit_ty (tb "bool" (by decide) t ht)
  | int i => exact kit_ty (tb "int" (by decide) t ht)
  | str x => exact kit_ty (tb "str" (by decide) t ht)
  | tup l => exact kit_ty (tb "tuple" (by decide) t ht)
  | map ks ds => exact kit_ty (tb "dict" (by decide) t ht)
def intD : D → Bool
  | .int _ => true
  | _ => false
def nameD : D → Bool
  | .str x => isName x
  | _ => false
def tagD : D → Bool
  | .tup l => isTag l
  | _ => false
/-- a test of a value tree -/
def spD (CU : Addr) (f : D → V) : Sp := fun vs H Q _ => ∃ (v : V) (d : D), vs = [v] ∧ Rep CU H v d ∧ ∀ H', Same H H' → Q (f d) H'
theorem spD_len {f : D → V} {vs : List V} {H : Hp} {Q : VK} {E : XK} (h : spD CU f vs H Q E) : vs.length = 1 := by
  obtain ⟨v, d, rfl, _⟩ := h
  rfl
theorem scIn : FnScope ["thing"] ["thing"] (defScope sInt) := ⟨rfl, rfl, rfl, by decide +kernel, rfl, by decide +kernel, by decide +kernel⟩
theorem ok_int {f : Addr} {fd : FuncData} (F : Fun K "is_integer" "is_integer" sInt f fd) (T : Txt K mg CU) : FnOk P w K mg base CX0 1 f fd ["thing"] (spD CU fun d => .bl (intD d)) := by
  refine F.ok scIn (fun vs H Q E h => spD_len h) (fun cdv A outer s H vs Q E hr h => ?_)
  obtain ⟨v, d, rfl, hd, k⟩ := h
  refine ⟨_, (pss_one (ps_ret (pe_and (pe_callB call_isi (by rfl) T.isi (by decide +kernel) (pa_cons (pv 0) (pa_cons (pe_bltn (v := .ty "int") (by rfl) T.int (by decide +kernel) rfl) pa_nil))) (pe_one (pe_not (pe_callB call_isi (by rfl) T.isi (by decide +kernel) (pa_cons (pv 0) (pa_cons (pe_bltn (v := .ty "bool") (by rfl) T.bool (by decide +kernel) rfl) pa_nil)))))))), ?_⟩
  have tv := Rep.ty T hd
  refine ⟨_, rfl, _, _, _, _, _, rfl, .ty _, tv, T.kit "int" (by decide) d, _, rfl, ?_⟩
  have fin : ∀ b, Q (.bl (intD d)) H → b = intD d → Q (.bl b) H := fun b q e => by rw [e]; exact q
  cases e1 : isD "int" d with
  | false => exact iteF (fin _ (k H (fun _ _ z => z)) (by cases d <;> first | rfl | (simp [isD, tyN] at e1)))
  | true =>
    refine iteT ⟨_, rfl, _, _, _, _, _, rfl, .ty _, tv, T.kit "bool" (by decide) d, _, rfl, ?_⟩
    exact fin _ (k H (fun _ _ z => z)) (by cases d <;> first | rfl | (simp [isD, tyN] at e1))
theorem scNa : FnScope ["thing", "letter"] ["thing"] (defScope sName) := ⟨rfl, rfl, rfl, by decide +kernel, rfl, by decide +kernel, by decide +kernel⟩
theorem ok_name {f : Addr} {fd : FuncData} (F : Fun K "is_name" "is_name" sName f fd) (T : Txt K mg CU) : FnOk P w K mg base CX0 1 f fd ["thing"] (spD CU fun d => .bl (nameD d)) := by
  obtain ⟨tL, hL⟩ := T.letters
  refine F.ok scNa (fun vs H Q E h => spD_len h) (fun cdv A outer s H vs Q E hr h => ?_)
  obtain ⟨v, d, rfl, hd, k⟩ := h
  refine ⟨_, (pss_one (ps_ret (pe_and (pe_callB call_isi (by rfl) T.isi (by decide +kernel) (pa_cons (pv 0) (pa_cons (pe_bltn (v := .ty "str") (by rfl) T.str (by decide +kernel) rfl) pa_nil))) (pe_and (pe_chain op_le op_le pe_int (pe_callB call_len (by rfl) T.len (by decide +kernel) (pa_cons (pv 0) pa_nil)) pe_int) (pe_one (pe_callB (cr_all rfl) (by rfl) T.all (by decide +kernel) (pa_cons (pe_lc (own := [("letter", 1)]) (g := gName 1) (tt := tYes) rfl scNa.nd (pi_str (pv 0)) (blkOk_by (own := [("letter", 1)]) (N := ["thing", "letter"]) (sc := (defScope sName)) (by decide +kernel)) (fun _ _ _ _ _ => pg_name (i := 1) scNa.nd rfl (Or.inl rfl)) (fun _ _ _ _ _ => pts_nil) (fun _ _ _ _ _ => (pe_cmpR op_in_sign (pv 1) (pe_glob (v := .str "abcdefghijklmnopqrstuvwxyz") rfl hL ⟨_, rfl⟩) (by rfl)))) pa_nil))))))), ?_⟩
  have tv := Rep.ty T hd
  refine ⟨_, rfl, _, _, _, _, _, rfl, .ty _, tv, T.kit "str" (by decide) d, _, rfl, ?_⟩
  cases hd with
  | str x hx =>
    refine iteT ?_
    have hxl := hx.2
    have fin : ∀ b H', Same H H' → b = isName x → Q (.bl b) H' := fun b H' m e => by rw [e]; exact k H' m
    refine ⟨_, rfl, _, _, rfl, ⟨(by rw [sizeLine_eq]; omega), rfl⟩, ?_⟩
    refine ⟨1, _, rfl, rfl, _, rfl, ?_⟩
    have lx : x.length = x.cps.size := rfl
    by_cases h1 : (1 : Int) ≤ (x.length : Int)
    case neg =>
      rw [decide_eq_false h1]
      refine iteF ⟨_, rfl, iteF (fin _ H (fun _ _ z => z) ?_)⟩
      have : ¬ 1 ≤ x.length := by omega
      simp [isName, this]
    rw [decide_eq_true h1]
    refine iteT ⟨_, 12, rfl, rfl, _, rfl, ?_⟩
    by_cases h2 : (x.length : Int) ≤ 12
    case neg =>
      rw [decide_eq_false h2]
      refine iteF (fin _ H (fun _ _ z => z) ?_)
      have : ¬ x.length ≤ 12 := by omega
      simp [isName, this]
    rw [decide_eq_true h2]
    refine iteT ?_
    refine ⟨_, rfl, x, rfl, fun D hD => ?_⟩
    refine lc_pure walk_str hD (x.cps.toList.map fun c => V.bl (decide (c ∈ letters))) (by rw [List.length_map]; rfl) (by show x.length < sizeLine; rw [sizeLine_eq]; omega) (fun _ _ => trivial) (fun i y H2 H3 z hz m hy N hN => ?_) mono_name (fun H' m f => ?_)
    · obtain ⟨rfl, c, hc, rfl⟩ := hy
      have hc' : x.cps.toList[i]? = some c := by rw [Array.getElem?_toList]; exact hc
      rw [List.getElem?_map, hc'] at hz
      cases hz
      exact ⟨rfl, _, rfl, c, _, rfl, rfl, hN _ (fun _ _ z => z)⟩
    · have e : x.cps.toList.map (fun c => V.bl (decide (c ∈ letters))) = (x.cps.toList.map fun c => decide (c ∈ letters)).map V.bl := by
        rw [List.map_map]
        rfl
      rw [e] at f
      refine ⟨D, _, rfl, SqL.of f, fin _ H' m ?_⟩
      have h1' : 1 ≤ x.length := by omega
      have h2' : x.length ≤ 12 := by omega
      rw [List.all_map]
      simp [isName, h1', h2']
  | _ => exact iteF (k H (fun _ _ z => z))
theorem scTg : FnScope ["thing"] ["thing"] (defScope sTag) := ⟨rfl, rfl, rfl, by decide +kernel, rfl, by decide +kernel, by decide +kernel⟩
theorem three {α : Type} {l : List α} (h : l.length = 3) : ∃ a b c, l = [a, b, c] := match l, h with | [a, b, c], _ => ⟨a, b, c, rfl⟩
theorem isTag3 {l : List D} (h : l.length ≠ 3) : isTag l = false := by
  unfold isTag
  split
  · exact absurd rfl h
  · rfl
theorem ok_tag {f fN fI : Addr} {fd dN dI : FuncData} (F : Fun K "is_tag" "is_tag" sTag f fd) (T : Txt K mg CU) (FN : Fun K "is_name" "is_name" sName fN dN) (gN : mg "is_name" = some (.ref fN)) (bN : Binds K dN ["thing"] []) (FI : Fun K "is_integer" "is_integer" sInt fI dI) (gI : mg "is_integer" = some (.ref fI)) (bI : Binds K dI ["thing"] []) :
    FnOk P w K mg base CX0 2 f fd ["thing"] (spD CU fun d => .bl (tagD d)) := by
  obtain ⟨tM, hM⟩ := T.mark
  have GN : FnOk P w K mg base CX0 1 fN dN ["thing"] (spD CU fun d => .bl (nameD d)) := ok_name FN T
  have GI : FnOk P w K mg base CX0 1 fI dI ["thing"] (spD CU fun d => .bl (intD d)) := ok_int FI T
  have kN := FN.kp
  have kI := FI.kp
  refine F.ok scTg (fun vs H Q E h => spD_len h) (fun cdv A outer s H vs Q E hr h => ?_)
  obtain ⟨v, d, rfl, hd, k⟩ := h
  refine ⟨_, (pss_cons (ps_if (PW.pt (pw_or (pt_not (pt_val (pe_callB call_isi (by rfl) T.isi (by decide +kernel) (pa_cons (pv 0) (pa_cons (pe_bltn (v := .ty "tuple") (by rfl) T.tuple (by decide +kernel) rfl) pa_nil))))) (pw_or (pt_cmpR op_ne (pe_callB call_len (by rfl) T.len (by decide +kernel) (pa_cons (pv 0) pa_nil)) pe_int (nomark _)) (pw_or (pt_not (pt_val (pe_callB call_isi (by rfl) T.isi (by decide +kernel) (pa_cons (pe_ix ix_tup (pv 0) pe_int (fun _ _ => rfl)) (pa_cons (pe_bltn (v := .ty "str") (by rfl) T.str (by decide +kernel) rfl) pa_nil))))) (pw_or1 (pt_cmpR op_ne (pe_ix ix_tup (pv 0) pe_int (fun _ _ => rfl)) (pe_glob (v := .str "#") rfl hM ⟨_, rfl⟩) (nomark _))))))) (pss_one (ps_ret pe_bl)) pss_nil)
      (pss_one (ps_ret (pe_and (pe_call GN hr rfl gN kN bN .nil pass0 (pa_cons (pe_ix ix_tup (pv 0) pe_int (fun _ _ => rfl)) pa_nil)) (pe_and (pe_call GI hr rfl gI kI bI .nil pass0 (pa_cons (pe_ix ix_tup (pv 0) pe_int (fun _ _ => rfl)) pa_nil)) (pe_one (pe_cmpR op_ge (pe_ix ix_tup (pv 0) pe_int (fun _ _ => rfl)) pe_int (nomark _)))))))), ?_⟩
  refine ⟨_, rfl, _, _, _, _, _, rfl, .ty _, Rep.ty T hd, T.kit "tuple" (by decide) d, _, rfl, ?_⟩
  cases hd with
  | @tup a xs ds h hl hz hs =>
    refine iteF ?_
    refine ⟨_, rfl, _, _, rfl, .inr ⟨_, SqT.of h, rfl⟩, rfl, _, rfl, ?_⟩
    have fin : ∀ b H', Same H H' → b = isTag ds → Q (.bl b) H' := fun b H' m e => by rw [e]; exact k H' m
    by_cases h3 : ds.length = 3
    case neg =>
      have h3' : ¬ V.int (xs.length : Int) = V.int 3 := fun z => h3 (by have := V.int.inj z; omega)
      rw [decide_eq_false h3']
      exact iteT (iteT (fin _ H (fun _ _ z => z) (isTag3 h3).symm))
    have h3' : V.int (xs.length : Int) = V.int 3 := by rw [hl, h3]; rfl
    rw [decide_eq_true h3']
    refine iteF ?_
    obtain ⟨d0, d1, d2, rfl⟩ := three h3
    obtain ⟨v0, v1, v2, rfl⟩ := three (hl.trans h3)
    have r0 := hs 0 v0 d0 rfl rfl
    have r1 := hs 1 v1 d1 rfl rfl
    have r2 := hs 2 v2 d2 rfl rfl
    have i0 : atI [v0, v1, v2] 0 = some v0 := atI_nat (j := 0) rfl
    have i1 : atI [v0, v1, v2] 1 = some v1 := atI_nat (j := 1) rfl
    have i2 : atI [v0, v1, v2] 2 = some v2 := atI_nat (j := 2) rfl
    refine ⟨_, rfl, a, _, 0, v0, rfl, rfl, SqT.of h, i0, _, _, _, _, _, rfl, .ty _, Rep.ty T r0, T.kit "str" (by decide) d0, _, rfl, ?_⟩
    have ff : ∀ {d0 d1 d2 : D}, (∀ x, d0 ≠ .str x) → isTag [d0, d1, d2] = false := fun {d0 d1 d2} n => by
      unfold isTag
      split
      · rename_i e
        cases e
        exact absurd rfl (n _)
      · rfl
    cases r0 with
    | str x hx =>
      refine iteF ?_
      refine ⟨_, rfl, a, _, 0, _, rfl, rfl, SqT.of h, i0, rfl, _, rfl, ?_⟩
      by_cases hm : x = "#"
      case neg =>
        have hm' : ¬ V.str x = V.str "#" := fun z => hm (by cases z; rfl)
        rw [decide_eq_false hm']
        refine iteT ((fin _ H (fun _ _ z => z) ?_))
        unfold isTag
        split
        · rename_i e
          cases e
          simp [hm]
        · rfl
      subst hm
      refine iteF ?_
      refine ⟨_, rfl, a, _, 1, v1, rfl, rfl, SqT.of h, i1, v1, d1, rfl, r1, fun H1 m1 => ⟨_, rfl, ?_⟩⟩
      have hA := m1 _ _ h
      have r2' := r2.same m1
      have e : isTag [.str "#", d1, d2] = (nameD d1 && (intD d2 && (match d2 with | .int i => decide (1 ≤ i) | _ => false))) := by
        cases d1 <;> cases d2 <;> simp [isTag, nameD, intD]
      cases hn : nameD d1 with
      | false =>
        refine iteF (fin _ H1 m1 ?_)
        rw [e, hn]
        rfl
      | true =>
        refine iteT ⟨_, rfl, a, _, 2, v2, rfl, rfl, SqT.of hA, i2, v2, d2, rfl, r2', fun H2 m2 => ⟨_, rfl, ?_⟩⟩
        have hB := m2 _ _ hA
        cases r2' with
        | int i =>
          refine iteT ⟨_, rfl, a, _, 2, _, rfl, rfl, SqT.of hB, i2, _, _, rfl, rfl, fin _ H2 (m1.trans m2) ?_⟩
          rw [e, hn]
          rfl
        | _ =>
          refine iteF (fin _ H2 (m1.trans m2) ?_)
          rw [e, hn]
          rfl
    | _ => exact iteT (iteT (fin _ H (fun _ _ z => z) (ff (by intro _ z; cases z)).symm))
  | _ => exact iteT (iteT (k H (fun _ _ z => z)))
end
end K04

namespace K04
open PySem L2 XR VT
section
variable {P : Program} {w : World} {K : PySem.W.Frag} {mg : Str → Option Value} {base : Heap} {CU : Addr}
theorem scSo : FnScope ["value"] ["value"] (defScope sSort) := ⟨rfl, rfl, rfl, by decide +kernel, rfl, by decide +kernel, by decide +kernel⟩
theorem ok_sort {f fT : Addr} {fd dT : FuncData} (F : Fun K "sort_of" "sort_of" sSort f fd) (T : Txt K mg CU) (GT : FnOk P w K mg base CX0 2 fT dT ["thing"] (spD CU fun d => .bl (tagD d))) (gT : mg "is_tag" = some (.ref fT)) (kT : PySem.W.keepIn K (.ref fT) = true) (bT : Binds K dT ["thing"] []) :
    FnOk P w K mg base CX0 3 f fd ["value"] (spD CU fun d => .str (sort d)) := by
  refine F.ok scSo (fun vs H Q E h => spD_len h) (fun cdv A outer s H vs Q E hr h => ?_)
  obtain ⟨v, d, rfl, hd, k⟩ := h
  refine ⟨_, (pss_cons (ps_if (pt_val (pe_callB call_isi (by rfl) T.isi (by decide +kernel) (pa_cons (pv 0) (pa_cons (pe_bltn (v := .ty "tuple") (by rfl) T.tuple (by decide +kernel) rfl) pa_nil)))) (pss_one (ps_ret (pe_ifExp (pt_val (pe_call GT hr rfl gT kT bT .nil pass0 (pa_cons (pv 0) pa_nil))) pe_str pe_str))) pss_nil)
      (pss_cons (ps_if (pt_val (pe_callB call_isi (by rfl) T.isi (by decide +kernel) (pa_cons (pv 0) (pa_cons (pe_bltn (v := .ty "bool") (by rfl) T.bool (by decide +kernel) rfl) pa_nil)))) (pss_one (ps_ret pe_str)) pss_nil)
      (pss_cons (ps_if (pt_val (pe_callB call_isi (by rfl) T.isi (by decide +kernel) (pa_cons (pv 0) (pa_cons (pe_bltn (v := .ty "int") (by rfl) T.int (by decide +kernel) rfl) pa_nil)))) (pss_one (ps_ret pe_str)) pss_nil)
      (pss_cons (ps_if (pt_val (pe_callB call_isi (by rfl) T.isi (by decide +kernel) (pa_cons (pv 0) (pa_cons (pe_bltn (v := .ty "dict") (by rfl) T.dict (by decide +kernel) rfl) pa_nil)))) (pss_one (ps_ret pe_str)) pss_nil)
      (pss_one (ps_ret (pe_ifExp (pt_val (pe_callB call_isi (by rfl) T.isi (by decide +kernel) (pa_cons (pv 0) (pa_cons (pe_bltn (v := .ty "str") (by rfl) T.str (by decide +kernel) rfl) pa_nil)))) pe_str pe_str))))))), ?_⟩
  have tv := Rep.ty T hd
  have k0 := k H (fun _ _ z => z)
  cases hd with
  | @tup a xs ds h hl hz hs =>
    refine ⟨_, rfl, _, _, _, _, _, rfl, .ty _, tv, T.kit "tuple" (by decide) _, _, rfl, iteT ⟨_, rfl, _, .tup ds, rfl, .tup h hl hz hs, fun H1 m1 => ⟨_, rfl, ?_⟩⟩⟩
    have e0 : sort (.tup ds) = (if isTag ds then ("tag" : Str) else ("tuple" : Str)) := rfl
    have k1 : Q (.str (sort (.tup ds))) H1 := k H1 m1
    rw [e0] at k1
    cases e : tagD (.tup ds) with
    | true =>
      rw [if_pos (show isTag ds = true from e)] at k1
      exact iteT k1
    | false =>
      have e' : ¬ isTag ds = true := fun z => by rw [show tagD (.tup ds) = true from z] at e; cases e
      rw [if_neg e'] at k1
      exact iteF k1
  | bl b => exact ⟨_, rfl, _, _, _, _, _, rfl, .ty _, tv, T.kit "tuple" (by decide) _, _, rfl, iteF ⟨_, rfl, _, _, _, _, _, rfl, .ty _, tv, T.kit "bool" (by decide) _, _, rfl, iteT k0⟩⟩
  | int i => exact ⟨_, rfl, _, _, _, _, _, rfl, .ty _, tv, T.kit "tuple" (by decide) _, _, rfl, iteF ⟨_, rfl, _, _, _, _, _, rfl, .ty _, tv, T.kit "bool" (by decide) _, _, rfl, iteF ⟨_, rfl, _, _, _, _, _, rfl, .ty _, tv, T.kit "int" (by decide) _, _, rfl, iteT k0⟩⟩⟩
  | map h hv hk hz nd ko hs => exact ⟨_, rfl, _, _, _, _, _, rfl, .ty _, tv, T.kit "tuple" (by decide) _, _, rfl, iteF ⟨_, rfl, _, _, _, _, _, rfl, .ty _, tv, T.kit "bool" (by decide) _, _, rfl, iteF ⟨_, rfl, _, _, _, _, _, rfl, .ty _, tv, T.kit "int" (by decide) _, _, rfl, iteF ⟨_, rfl, _, _, _, _, _, rfl, .ty _, tv, T.kit "dict" (by decide) _, _, rfl, iteT k0⟩⟩⟩⟩
  | str x hx => exact ⟨_, rfl, _, _, _, _, _, rfl, .ty _, tv, T.kit "tuple" (by decide) _, _, rfl, iteF ⟨_, rfl, _, _, _, _, _, rfl, .ty _, tv, T.kit "bool" (by decide) _, _, rfl, iteF ⟨_, rfl, _, _, _, _, _, rfl, .ty _, tv, T.kit "int" (by decide) _, _, rfl, iteF ⟨_, rfl, _, _, _, _, _, rfl, .ty _, tv, T.kit "dict" (by decide) _, _, rfl, iteF ⟨_, rfl, _, _, _, _, _, rfl, .ty _, tv, T.kit "str" (by decide) _, _, rfl, iteT k0⟩⟩⟩⟩⟩
  | non => exact ⟨_, rfl, _, _, _, _, _, rfl, .ty _, tv, T.kit "tuple" (by decide) _, _, rfl, iteF ⟨_, rfl, _, _, _, _, _, rfl, .ty _, tv, T.kit "bool" (by decide) _, _, rfl, iteF ⟨_, rfl, _, _, _, _, _, rfl, .ty _, tv, T.kit "int" (by decide) _, _, rfl, iteF ⟨_, rfl, _, _, _, _, _, rfl, .ty _, tv, T.kit "dict" (by decide) _, _, rfl, iteF ⟨_, rfl, _, _, _, _, _, rfl, .ty _, tv, T.kit "str" (by decide) _, _, rfl, iteF k0⟩⟩⟩⟩⟩
  | unk h => exact ⟨_, rfl, _, _, _, _, _, rfl, .ty _, tv, T.kit "tuple" (by decide) _, _, rfl, iteF ⟨_, rfl, _, _, _, _, _, rfl, .ty _, tv, T.kit "bool" (by decide) _, _, rfl, iteF ⟨_, rfl, _, _, _, _, _, rfl, .ty _, tv, T.kit "int" (by decide) _, _, rfl, iteF ⟨_, rfl, _, _, _, _, _, rfl, .ty _, tv, T.kit "dict" (by decide) _, _, rfl, iteF ⟨_, rfl, _, _, _, _, _, rfl, .ty _, tv, T.kit "str" (by decide) _, _, rfl, iteF k0⟩⟩⟩⟩⟩
/-- a def that goes through a tree of less than n floors -/
def spN (CU : Addr) (n : Nat) (f : D → V) : Sp := fun vs H Q _ => ∃ (v : V) (d : D), vs = [v] ∧ Rep CU H v d ∧ dep d < n ∧ ∀ H', Same H H' → Q (f d) H'
theorem spN_len {n : Nat} {f : D → V} {vs : List V} {H : Hp} {Q : VK} {E : XK} (h : spN CU n f vs H Q E) : vs.length = 1 := by
  obtain ⟨v, d, rfl, _⟩ := h
  rfl
theorem never0 {k : Nat} {f : Addr} {fd : FuncData} {x : Str} {g : D → V} : FnOk P w K mg base CX0 k f fd [x] (spN CU 0 g) := ⟨fun _ _ _ _ h => spN_len h, fun _ _ _ _ _ _ _ _ _ _ _ _ _ ⟨_, _, _, _, z, _⟩ => absurd z (Nat.not_lt_zero _)⟩
theorem scKn : FnScope ["value", "item", "key"] ["value"] (defScope sKnown) := ⟨rfl, rfl, rfl, by decide +kernel, rfl, by decide +kernel, by decide +kernel⟩
theorem ok_known {f fT : Addr} {fd dT : FuncData} {n k : Nat} (F : Fun K "is_known" "is_known" sKnown f fd) (T : Txt K mg CU) (gK : mg "is_known" = some (.ref f)) (bK : Binds K fd ["value"] []) (GT : FnOk P w K mg base CX0 2 fT dT ["thing"] (spD CU fun d => .bl (tagD d))) (gT : mg "is_tag" = some (.ref fT)) (kT : PySem.W.keepIn K (.ref fT) = true) (bT : Binds K dT ["thing"] []) (hk : 2 ≤ k)
    (GK : FnOk P w K mg base CX0 k f fd ["value"] (spN CU n fun d => .bl (known n d))) : FnOk P w K mg base CX0 (k + 1) f fd ["value"] (spN CU (n + 1) fun d => .bl (known (n + 1) d)) := by
  have kK := F.kp
  refine F.ok scKn (fun vs H Q E h => spN_len h) (fun cdv A outer s H vs Q E hr h => ?_)
  obtain ⟨v, d, rfl, hd, hn, k⟩ := h
  have hr2 : Room 2 _ := hr.mono hk
  have hu := hu_of hr
  refine ⟨_, (pss_cons (ps_if (pt_val (pe_callB call_isi (by rfl) T.isi (by decide +kernel) (pa_cons (pv 0) (pa_cons (pe_glob (v := .ref CU) rfl T.gU rfl) pa_nil)))) (pss_one (ps_ret pe_bl)) pss_nil)
      (pss_cons (ps_if (pt_val (pe_callB call_isi (by rfl) T.isi (by decide +kernel) (pa_cons (pv 0) (pa_cons (pe_bltn (v := .ty "tuple") (by rfl) T.tuple (by decide +kernel) rfl) pa_nil)))) (pss_one (ps_ret (pe_or (pe_call GT hr2 rfl gT kT bT .nil pass0 (pa_cons (pv 0) pa_nil)) (pe_one (pe_callB (cr_all rfl) (by rfl) T.all (by decide +kernel) (pa_cons (pe_lc (own := [("item", 1)]) (g := gName 1) (tt := tYes) rfl scKn.nd (pi_tup (pv 0)) (blkOk_by (own := [("item", 1)]) (N := ["value", "item", "key"]) (sc := (defScope sKnown)) (by decide +kernel)) (fun _ _ _ _ _ => pg_name (i := 1) scKn.nd rfl (Or.inl rfl)) (fun _ _ _ _ _ => pts_nil) (fun _ _ _ _ _ => (pe_call GK hr rfl gK kK bK .nil pass0 (pa_cons (pv 1) pa_nil)))) pa_nil)))))) pss_nil)
      (pss_one (ps_ret (pe_or (pe_not (pe_callB call_isi (by rfl) T.isi (by decide +kernel) (pa_cons (pv 0) (pa_cons (pe_bltn (v := .ty "dict") (by rfl) T.dict (by decide +kernel) rfl) pa_nil)))) (pe_one (pe_callB (cr_all rfl) (by rfl) T.all (by decide +kernel) (pa_cons (pe_lock (pe_lc (own := [("key", 2)]) (g := gName 2) (tt := tYes) rfl scKn.nd (pi_keys (pv 0)) (blkOk_by (own := [("key", 2)]) (N := ["value", "item", "key"]) (sc := (defScope sKnown)) (by decide +kernel)) (fun _ _ _ _ _ => pg_name (i := 2) scKn.nd rfl (Or.inl rfl)) (fun _ _ _ _ _ => pts_nil) (fun _ _ _ _ _ => (pe_call GK hr rfl gK kK bK .nil pass0 (pa_cons (pe_dget hu (pv 0) (pv 2) (fun _ _ => rfl)) pa_nil))))) pa_nil)))))))), ?_⟩
  have tv := Rep.ty T hd
  have k0 := k H (fun _ _ z => z)
  refine ⟨_, rfl, _, _, _, _, _, rfl, .own _, tv, T.kU d, _, rfl, ?_⟩
  cases hd with
  | unk h => exact iteT k0
  | @tup a xs ds h hl hz hs =>
    refine iteF ⟨_, rfl, _, _, _, _, _, rfl, .ty _, tv, T.kit "tuple" (by decide) _, _, rfl, iteT ⟨_, rfl, _, .tup ds, rfl, .tup h hl hz hs, fun H1 m1 => ⟨_, rfl, ?_⟩⟩⟩
    have k : ∀ H', Same H H' → Q (.bl (isTag ds || ds.all (known n))) H' := k
    cases e : tagD (.tup ds) with
    | true =>
      have k1 := k H1 m1
      rw [show isTag ds = true from e] at k1
      exact iteT k1
    | false =>
      rw [show isTag ds = false from e] at k
      have h1 := m1 _ _ h
      have hdl : depL ds < n := by rw [dep] at hn; omega
      refine iteF ⟨_, rfl, a, rfl, ⟨_, SqT.of h1⟩, fun D hD => ?_⟩
      refine lc_pure walk_tup hD (ds.map fun d => V.bl (known n d)) (by rw [List.length_map, hl]) (by rw [hl]; exact small1000 (by omega)) (fun H' m => SqT.of (m _ _ h1)) (fun i y H2 H3 z hz' m hy N hN => ?_) mono_name (fun H' m f => ?_)
      · obtain ⟨rfl, hx⟩ := hy
        rw [List.getElem?_map] at hz'
        obtain ⟨di, hdi, rfl⟩ := Option.map_eq_some_iff.mp hz'
        exact ⟨rfl, _, rfl, y, di, rfl, ((hs i y di hx hdi).same m1).same m, Nat.lt_of_le_of_lt (dep_mem (List.mem_of_getElem? hdi)) hdl, fun H5 m5 => hN H5 m5⟩
      · rw [show ds.map (fun d => V.bl (known n d)) = (ds.map (known n)).map V.bl from by rw [List.map_map]; rfl] at f
        have k1 := k H' (m1.trans m)
        refine ⟨D, _, rfl, SqL.of f, ?_⟩
        rw [List.all_map]
        exact k1
  | @map a vs ks ds h hv hk hz nd ko hs =>
    refine iteF ⟨_, rfl, _, _, _, _, _, rfl, .ty _, tv, T.kit "tuple" (by decide) _, _, rfl, iteF ⟨_, rfl, _, _, _, _, _, rfl, .ty _, tv, T.kit "dict" (by decide) _, _, rfl, _, rfl, iteF ?_⟩⟩
    have k : ∀ H', Same H H' → Q (.bl (ds.all (known n))) H' := k
    have hdl : depL ds < n := by rw [dep] at hn; omega
    have hrep : Rep CU H (.ref a) (.map ks ds) := .map h hv hk hz nd ko hs
    refine ⟨a, _, h, trivial, fun od => ?_⟩
    refine ⟨_, rfl, a, od, rfl, .inl ⟨_, upd_same, fun D hD => ?_⟩⟩
    have lkv : (mkv ks vs).length = ds.length := by rw [mkv_length (hk.trans hv.symm), hk]
    refine lc_pure walk_keys hD (ds.map fun d => V.bl (known n d)) (by rw [List.length_map, lkv]) (by rw [lkv]; exact small1000 (by omega)) (fun H' m => m _ _ upd_same) (fun i y H2 H3 z hz' m hy N hN => ?_) mono_name (fun H' m f => ?_)
    · obtain ⟨rfl, ky, vy, hx, rfl⟩ := hy
      rw [List.getElem?_map] at hz'
      obtain ⟨di, hdi, rfl⟩ := Option.map_eq_some_iff.mp hz'
      obtain ⟨x, hx1, rfl, hx3⟩ := mkv_get hx
      have hm := List.mem_of_getElem? hdi
      have hr1 : Rep CU (upd H a (.frz od (.dK (mkv ks vs)))) vy di := Rep.off hrep (hs i vy di hx3 hdi) (by rw [sz]; have := sz_mem hm; omega)
      exact ⟨rfl, _, rfl, _, rfl, a, vy, rfl, .inl ⟨_, Sum.inr x, .inr ⟨od, m _ _ upd_same⟩, rfl, (mkv_val nd hx1 hx3).symm⟩, vy, di, rfl, hr1.same m, Nat.lt_of_le_of_lt (dep_mem hm) hdl, fun H5 m5 => hN H5 m5⟩
    · rw [show ds.map (fun d => V.bl (known n d)) = (ds.map (known n)).map V.bl from by rw [List.map_map]; rfl] at f
      have nD : D ≠ a := fun z => by
        rw [z, upd_same] at hD
        cases hD
      have m3 := same_lock h m
      refine ⟨m _ _ upd_same, D, _, rfl, SqL.of (by rw [upd_ne nD]; exact f), ?_⟩
      have k1 := k _ m3
      rw [List.all_map]
      exact k1
  | _ => exact iteF ⟨_, rfl, _, _, _, _, _, rfl, .ty _, tv, T.kit "tuple" (by decide) _, _, rfl, iteF ⟨_, rfl, _, _, _, _, _, rfl, .ty _, tv, T.kit "dict" (by decide) _, _, rfl, _, rfl, iteT k0⟩⟩
end
end K04

namespace K04
open PySem L2 XR VT
/-- a list of pairs of trees -/
def PL (CU : Addr) (H : Hp) (p : Addr) (ps : List (D × D)) : Prop := ∃ ts : List Addr, H p = some (.lst (ts.map V.ref)) ∧ ts.length = ps.length ∧ ∀ (j : Nat) (t : Addr) (q : D × D), ts[j]? = some t → ps[j]? = some q → ∃ x y, H t = some (.tup [x, y]) ∧ Rep CU H x q.1 ∧ Rep CU H y q.2
def spParts (CU : Addr) : Sp := fun vs H Q _ => ∃ (v u : V) (a b : D), vs = [v, u] ∧ Rep CU H v a ∧ Rep CU H u b ∧ isU a = false ∧ isU b = false ∧ sort a = sort b ∧ (kids a b = none → ∀ H', Same H H' → Q .non H') ∧
  ∀ ps, kids a b = some ps → ∀ (p : Addr) (ps' : List (D × D)) (H' : Hp), Same H H' → ps'.Perm ps → PL CU H' p ps' → Q (.ref p) H'
section
variable {P : Program} {w : World} {K : PySem.W.Frag} {mg : Str → Option Value} {base : Heap} {CU : Addr}
theorem scPa : FnScope ["one", "other", "key"] ["one", "other"] (defScope sParts) := ⟨rfl, rfl, rfl, by decide +kernel, rfl, by decide +kernel, by decide +kernel⟩
theorem sort_tuple {d : D} (h : sort d = "tuple") : ∃ l, d = .tup l ∧ isTag l = false := by
  cases d with
  | tup l =>
    refine ⟨l, rfl, ?_⟩
    cases e : isTag l with
    | false => rfl
    | true =>
      have h' : (if isTag l then ("tag" : Str) else ("tuple" : Str)) = "tuple" := h
      rw [if_pos e] at h'
      exact absurd h' (by decide +kernel)
  | non => exact absurd (show ("none" : Str) = "tuple" from h) (by decide +kernel)
  | unk => exact absurd (show ("none" : Str) = "tuple" from h) (by decide +kernel)
  | bl b => exact absurd (show ("bool" : Str) = "tuple" from h) (by decide +kernel)
  | int i => exact absurd (show ("integer" : Str) = "tuple" from h) (by decide +kernel)
  | str x => exact absurd (show ("text" : Str) = "tuple" from h) (by decide +kernel)
  | map ks ds => exact absurd (show ("map" : Str) = "tuple" from h) (by decide +kernel)
theorem sort_map {d : D} (h : sort d = "map") : ∃ ks ds, d = .map ks ds := by
  cases d with
  | tup l =>
    have h' : (if isTag l then ("tag" : Str) else ("tuple" : Str)) = "map" := h
    split at h'
    · exact absurd h' (by decide +kernel)
    · exact absurd h' (by decide +kernel)
  | non => exact absurd (show ("none" : Str) = "map" from h) (by decide +kernel)
  | unk => exact absurd (show ("none" : Str) = "map" from h) (by decide +kernel)
  | bl b => exact absurd (show ("bool" : Str) = "map" from h) (by decide +kernel)
  | int i => exact absurd (show ("integer" : Str) = "map" from h) (by decide +kernel)
  | str x => exact absurd (show ("text" : Str) = "map" from h) (by decide +kernel)
  | map ks ds => exact ⟨ks, ds, rfl⟩
theorem tag_of {l : List D} (h : isTag l = true) : ∃ m n i, l = [.str m, .str n, .int i] := by
  unfold isTag at h
  split at h
  · exact ⟨_, _, _, rfl⟩
  · cases h
theorem tag_rep {H : Hp} {p : Addr} {xs : List V} {m n : Str} {i : Int} (h : H p = some (.tup xs)) (hl : xs.length = 3) (hs : ∀ (j : Nat) (v : V) (d : D), xs[j]? = some v → ([.str m, .str n, .int i] : List D)[j]? = some d → Rep CU H v d) :
    Dp K H (.ref p) (.tuple [.str m, .str n, .int i]) ∧ SeqAt.shaped (.tuple [.str m, .str n, .int i]) = true := by
  obtain ⟨v0, v1, v2, rfl⟩ := three hl
  have r0 := hs 0 v0 _ rfl rfl
  have r1 := hs 1 v1 _ rfl rfl
  have r2 := hs 2 v2 _ rfl rfl
  cases r0 with
  | str _ h0 =>
  cases r1 with
  | str _ h1 =>
  cases r2
  have a0 := h0.1
  have a1 := h1.1
  exact ⟨.tup (SqT.of h) (.cons (.str m) (.cons (.str n) (.cons (.int i) .nil))), by simp [SeqAt.shaped, PyData.canLay0, PyData.canLayAll0, PyData.depth, PyData.depthAll, a0, a1]⟩
theorem leaf_pair {H : Hp} {v u : V} {a b : D} (ha : Rep CU H v a) (hb : Rep CU H u b) (hua : isU a = false) (hub : isU b = false) (hsab : sort a = sort b) (n1 : ¬ sort a = "tuple") (n2 : ¬ sort a = "map") :
    ∃ da db, Dp K H v da ∧ Dp K H u db ∧ SeqAt.shaped da = true ∧ SeqAt.shaped db = true ∧ kids a b = (if PyData.eqv da db = true then some [] else none) := by
  cases ha with
  | non =>
    cases hb with
    | non => exact ⟨_, _, .non, .non, by simp [SeqAt.shaped, PyData.canLay0, PyData.canLayAll0, PyData.depth, PyData.depthAll], by simp [SeqAt.shaped, PyData.canLay0, PyData.canLayAll0, PyData.depth, PyData.depthAll], rfl⟩
    | bl b2 => exact absurd (show ("none" : Str) = "bool" from hsab) (by decide +kernel)
    | int i2 => exact absurd (show ("none" : Str) = "integer" from hsab) (by decide +kernel)
    | str x2 hx2 => exact absurd (show ("none" : Str) = "text" from hsab) (by decide +kernel)
    | unk h2 => cases hub
    | @tup p2 ys l' h2 hl2 hz2 hs2 =>
      have h' : ("none" : Str) = (if isTag l' then ("tag" : Str) else ("tuple" : Str)) := hsab
      split at h'
      · exact absurd h' (by decide +kernel)
      · exact absurd h' (by decide +kernel)
    | map h2 hv2 hk2 hz2 nd2 ko2 hs2 => exact absurd (show ("none" : Str) = "map" from hsab) (by decide +kernel)
  | bl b1 =>
    cases hb with
    | non => exact absurd (show ("bool" : Str) = "none" from hsab) (by decide +kernel)
    | bl b2 => exact ⟨_, _, .bl b1, .bl b2, by simp [SeqAt.shaped, PyData.canLay0, PyData.canLayAll0, PyData.depth, PyData.depthAll], by simp [SeqAt.shaped, PyData.canLay0, PyData.canLayAll0, PyData.depth, PyData.depthAll], by show (if b1 = b2 then _ else _) = _; simp [PyData.eqv]⟩
    | int i2 => exact absurd (show ("bool" : Str) = "integer" from hsab) (by decide +kernel)
    | str x2 hx2 => exact absurd (show ("bool" : Str) = "text" from hsab) (by decide +kernel)
    | unk h2 => cases hub
    | @tup p2 ys l' h2 hl2 hz2 hs2 =>
      have h' : ("bool" : Str) = (if isTag l' then ("tag" : Str) else ("tuple" : Str)) := hsab
      split at h'
      · exact absurd h' (by decide +kernel)
      · exact absurd h' (by decide +kernel)
    | map h2 hv2 hk2 hz2 nd2 ko2 hs2 => exact absurd (show ("bool" : Str) = "map" from hsab) (by decide +kernel)
  | int i1 =>
    cases hb with
    | non => exact absurd (show ("integer" : Str) = "none" from hsab) (by decide +kernel)
    | bl b2 => exact absurd (show ("integer" : Str) = "bool" from hsab) (by decide +kernel)
    | int i2 => exact ⟨_, _, .int i1, .int i2, by simp [SeqAt.shaped, PyData.canLay0, PyData.canLayAll0, PyData.depth, PyData.depthAll], by simp [SeqAt.shaped, PyData.canLay0, PyData.canLayAll0, PyData.depth, PyData.depthAll], by show (if i1 = i2 then _ else _) = _; simp [PyData.eqv]⟩
    | str x2 hx2 => exact absurd (show ("integer" : Str) = "text" from hsab) (by decide +kernel)
    | unk h2 => cases hub
    | @tup p2 ys l' h2 hl2 hz2 hs2 =>
      have h' : ("integer" : Str) = (if isTag l' then ("tag" : Str) else ("tuple" : Str)) := hsab
      split at h'
      · exact absurd h' (by decide +kernel)
      · exact absurd h' (by decide +kernel)
    | map h2 hv2 hk2 hz2 nd2 ko2 hs2 => exact absurd (show ("integer" : Str) = "map" from hsab) (by decide +kernel)
  | str x1 hx1 =>
    cases hb with
    | non => exact absurd (show ("text" : Str) = "none" from hsab) (by decide +kernel)
    | bl b2 => exact absurd (show ("text" : Str) = "bool" from hsab) (by decide +kernel)
    | int i2 => exact absurd (show ("text" : Str) = "integer" from hsab) (by decide +kernel)
    | str x2 hx2 => exact ⟨_, _, .str x1, .str x2, by simp [SeqAt.shaped, PyData.canLay0, PyData.canLayAll0, PyData.depth, PyData.depthAll, hx1.1], by simp [SeqAt.shaped, PyData.canLay0, PyData.canLayAll0, PyData.depth, PyData.depthAll, hx2.1], by show (if x1 = x2 then _ else _) = _; simp [PyData.eqv]⟩
    | unk h2 => cases hub
    | @tup p2 ys l' h2 hl2 hz2 hs2 =>
      have h' : ("text" : Str) = (if isTag l' then ("tag" : Str) else ("tuple" : Str)) := hsab
      split at h'
      · exact absurd h' (by decide +kernel)
      · exact absurd h' (by decide +kernel)
    | map h2 hv2 hk2 hz2 nd2 ko2 hs2 => exact absurd (show ("text" : Str) = "map" from hsab) (by decide +kernel)
  | unk h1 => cases hua
  | @tup p1 xs l h1 hl1 hz1 hs1 =>
    have t1 : isTag l = true := by
      cases e : isTag l with
      | true => rfl
      | false => exact absurd (show (if isTag l then ("tag" : Str) else ("tuple" : Str)) = "tuple" from by rw [e]; rfl) n1
    have s1 : sort (.tup l) = "tag" := by
      show (if isTag l then ("tag" : Str) else ("tuple" : Str)) = "tag"
      rw [t1]
      rfl
    rw [s1] at hsab
    cases hb with
    | @tup p2 ys l' h2 hl2 hz2 hs2 =>
      have t2 : isTag l' = true := by
        cases e : isTag l' with
        | true => rfl
        | false =>
          have h' : ("tag" : Str) = (if isTag l' then ("tag" : Str) else ("tuple" : Str)) := hsab
          rw [e] at h'
          exact absurd h' (by decide +kernel)
      obtain ⟨m, n, i, rfl⟩ := tag_of t1
      obtain ⟨m', n', i', rfl⟩ := tag_of t2
      obtain ⟨d1, sh1⟩ := tag_rep (K := K) h1 hl1 hs1
      obtain ⟨d2, sh2⟩ := tag_rep (K := K) h2 hl2 hs2
      refine ⟨_, _, d1, d2, sh1, sh2, ?_⟩
      show (if isTag [.str m, .str n, .int i] then (if leqT [.str m, .str n, .int i] [.str m', .str n', .int i'] then some [] else none) else _) = _
      rw [if_pos t1]
      have e : leqT [.str m, .str n, .int i] [.str m', .str n', .int i'] = PyData.eqv (.tuple [.str m, .str n, .int i]) (.tuple [.str m', .str n', .int i']) := by
        rw [Bool.eq_iff_iff]
        simp [leqT, PyData.eqv, PyData.eqvAll, and_assoc]
      rw [e]
    | unk h2 => cases hub
    | non => exact absurd (show ("tag" : Str) = "none" from hsab) (by decide +kernel)
    | bl b2 => exact absurd (show ("tag" : Str) = "bool" from hsab) (by decide +kernel)
    | int i2 => exact absurd (show ("tag" : Str) = "integer" from hsab) (by decide +kernel)
    | str x2 hx2 => exact absurd (show ("tag" : Str) = "text" from hsab) (by decide +kernel)
    | map h2 hv2 hk2 hz2 nd2 ko2 hs2 => exact absurd (show ("tag" : Str) = "map" from hsab) (by decide +kernel)
  | map h1 hv1 hk1 hz1 nd1 ko1 hs1 => exact absurd rfl n2
theorem refs_of : ∀ {zs : List V}, (∀ (i : Nat) (v : V), zs[i]? = some v → ∃ t, v = .ref t) → ∃ ts : List Addr, zs = ts.map V.ref
  | [], _ => ⟨[], rfl⟩
  | z :: zs, h => by
    obtain ⟨t, rfl⟩ := h 0 z rfl
    obtain ⟨ts, rfl⟩ := refs_of (zs := zs) fun i v e => h (i + 1) v e
    exact ⟨t :: ts, rfl⟩
theorem dp_strs {H : Hp} : ∀ ys : List Str, DpAll K H (ys.map V.str) (ys.map PyData.str)
  | [] => .nil
  | y :: ys => .cons (.str y) (dp_strs ys)
theorem lay_strs : ∀ {ys : List Str}, (∀ y ∈ ys, TxOk y) → PyData.canLayAll0 (ys.map PyData.str) = true ∧ PyData.depthAll (ys.map PyData.str) = 0
  | [], _ => ⟨rfl, rfl⟩
  | y :: ys, h => by
    obtain ⟨h1, h2⟩ := lay_strs (ys := ys) fun z hz => h z (List.mem_cons_of_mem _ hz)
    have h3 := (h y List.mem_cons_self).1
    simp only [List.map_cons, PyData.canLayAll0, PyData.canLay0, PyData.depthAll, PyData.depth, h1, h2, h3]
    exact ⟨rfl, rfl⟩
theorem shaped_strs {ys : List Str} (h : ∀ y ∈ ys, TxOk y) : SeqAt.shaped (.list (ys.map .str)) = true := by
  obtain ⟨h1, h2⟩ := lay_strs h
  simp [SeqAt.shaped, PyData.canLay0, PyData.depth, h1, h2]
theorem str_dec {x y : Str} : decide (V.str x = V.str y) = decide (x = y) := by
  rw [Bool.eq_iff_iff]
  simp
theorem ok_parts {f fS : Addr} {fd dS : FuncData} (F : Fun K "parts_of" "parts_of" sParts f fd) (T : Txt K mg CU) (GS : FnOk P w K mg base CX0 3 fS dS ["value"] (spD CU fun d => .str (sort d))) (gS : mg "sort_of" = some (.ref fS)) (kS : PySem.W.keepIn K (.ref fS) = true) (bS : Binds K dS ["value"] []) :
    FnOk P w K mg base CX0 4 f fd ["one", "other"] (spParts CU) := by
  refine F.ok scPa (fun vs H Q E h => ?_) (fun cdv A outer s H vs Q E hr h => ?_)
  · obtain ⟨v, u, a, b, rfl, _⟩ := h
    rfl
  obtain ⟨v, u, a, b, rfl, ha, hb, hua, hub, hsab, kn, kp⟩ := h
  have hu := hu_of hr
  refine ⟨_, (pss_cons (ps_if (pt_cmpR op_eq (pe_call GS hr rfl gS kS bS .nil pass0 (pa_cons (pv 0) pa_nil)) pe_str (nomark _)) (pss_one (ps_ret (pe_ifExp (pt_cmpR op_eq (pe_callB call_len (by rfl) T.len (by decide +kernel) (pa_cons (pv 0) pa_nil)) (pe_callB call_len (by rfl) T.len (by decide +kernel) (pa_cons (pv 1) pa_nil)) (nomark _)) (XZ.pe_listZip rfl (by rfl) T.list (by decide +kernel) (by rfl) T.zip (pa_cons (pv 0) (pa_cons (pv 1) pa_nil))) pe_non))) pss_nil)
      (pss_cons (ps_if (pt_cmpR op_eq (pe_call GS hr rfl gS kS bS .nil pass0 (pa_cons (pv 0) pa_nil)) pe_str (nomark _)) (pss_one (ps_ret (pe_ifExp (pt_cmpR (op_eqD hr.units) (pe_callB (call_sortedD rfl) (by rfl) T.sorted (by decide +kernel) (pa_cons (pv 0) pa_nil)) (pe_callB (call_sortedD rfl) (by rfl) T.sorted (by decide +kernel) (pa_cons (pv 1) pa_nil)) (nomark _)) (pe_lc (own := [("key", 2)]) (g := gName 2) (tt := tYes) rfl scPa.nd (pi_list (pe_callB (call_sortedD rfl) (by rfl) T.sorted (by decide +kernel) (pa_cons (pv 0) pa_nil))) (blkOk_by (own := [("key", 2)]) (N := ["one", "other", "key"]) (sc := (defScope sParts)) (by decide +kernel)) (fun _ _ _ _ _ => pg_name (i := 2) scPa.nd rfl (Or.inl rfl)) (fun _ _ _ _ _ => pts_nil) (fun _ _ _ _ _ => (pe_tup (pa_cons (pe_dget hu (pv 0) (pv 2) (fun _ _ => rfl)) (pa_cons (pe_dget hu (pv 1) (pv 2) (fun _ _ => rfl)) pa_nil))))) pe_non))) pss_nil)
      (pss_one (ps_ret (pe_ifExp (pt_cmpR (op_eqD hr.units) (pv 0) (pv 1) (nomark _)) (pe_lst pa_nil) pe_non))))), ?_⟩
  refine ⟨_, rfl, v, a, rfl, ha, fun H1 m1 => ⟨rfl, _, rfl, ?_⟩⟩
  have ha1 := ha.same m1
  have hb1 := hb.same m1
  by_cases e1 : sort a = "tuple"
  · have e1' : V.str (sort a) = V.str "tuple" := by rw [e1]
    rw [decide_eq_true e1']
    refine iteT ?_
    obtain ⟨l, rfl, ht⟩ := sort_tuple e1
    obtain ⟨l', rfl, ht'⟩ := sort_tuple (hsab ▸ e1)
    have ke : kids (.tup l) (.tup l') = if l.length = l'.length then some (l.zip l') else none := by
      show (if isTag l then _ else _) = _
      rw [ht]
      rfl
    cases ha1 with
    | @tup p1 xs _ h1 hl1 hz1 hs1 =>
    cases hb1 with
    | @tup p2 ys _ h2 hl2 hz2 hs2 =>
    refine ⟨_, rfl, _, _, rfl, .inr ⟨_, SqT.of h1, rfl⟩, _, rfl, _, _, rfl, .inr ⟨_, SqT.of h2, rfl⟩, rfl, _, rfl, ?_⟩
    by_cases hl : l.length = l'.length
    · have hl' : V.int (xs.length : Int) = V.int (ys.length : Int) := by rw [hl1, hl2, hl]
      rw [decide_eq_true hl']
      rw [if_pos hl] at ke
      refine iteT ⟨_, rfl, _, rfl, p1, p2, xs, ys, rfl, SqT.of h1, SqT.of h2, by omega, fun H' p ts m hp e hlt hpr => ?_⟩
      refine kp _ ke p _ H' (m1.trans m) (.refl _) ⟨ts, e, by rw [List.length_zip]; omega, fun j t q hj hq => ?_⟩
      obtain ⟨x, y, hx, hy, ht2⟩ := hpr j t hj
      obtain ⟨q1, q2⟩ := List.getElem?_zip_eq_some.mp hq
      exact ⟨x, y, ht2, (hs1 j x q.1 hx q1).same m, (hs2 j y q.2 hy q2).same m⟩
    · have hl' : ¬ V.int (xs.length : Int) = V.int (ys.length : Int) := fun z => hl (by have := V.int.inj z; omega)
      rw [decide_eq_false hl']
      rw [if_neg hl] at ke
      exact iteF (kn ke H1 m1)
  have e1' : ¬ V.str (sort a) = V.str "tuple" := fun z => e1 (V.str.inj z)
  rw [decide_eq_false e1']
  refine iteF ?_
  refine ⟨_, rfl, v, a, rfl, ha1, fun H2 m2 => ⟨rfl, _, rfl, ?_⟩⟩
  have ha2 := ha1.same m2
  have hb2 := hb1.same m2
  by_cases e2 : sort a = "map"
  · have e2' : V.str (sort a) = V.str "map" := by rw [e2]
    rw [decide_eq_true e2']
    refine iteT ?_
    obtain ⟨ks, ds, rfl⟩ := sort_map e2
    obtain ⟨ks', ds', rfl⟩ := sort_map (hsab ▸ e2)
    cases ha2 with
    | @map p1 vs1 _ _ h1 hv1 hk1 hz1 nd1 ko1 hs1 =>
    cases hb2 with
    | @map p2 vs2 _ _ h2 hv2 hk2 hz2 nd2 ko2 hs2 =>
    have ke : kids (.map ks ds) (.map ks' ds') = if ks.Perm ks' then some (ks.map (pairAt ks ds ks' ds')) else none := by
      show (if ks.Perm ks' then some ((ks.zip ds).map fun p => (p.2, get ks' ds' p.1)) else none) = _
      rw [zip_pairs nd1 hk1]
    refine ⟨_, rfl, p1, _, ks, rfl, .inl h1, mkv_keys (hk1.trans hv1.symm), by omega, fun ys q1 py sy hq1 => ?_⟩
    have n3 := same_new (o := .lst (ys.map V.str)) hq1
    have f3 := at_new (o := .lst (ys.map V.str)) hq1
    generalize (upd H2 q1 (.lst (ys.map V.str))) = H3 at n3 f3 ⊢
    refine ⟨_, rfl, p2, _, ks', rfl, .inl (n3 _ _ h2), mkv_keys (hk2.trans hv2.symm), by omega, fun zs q2 pz sz' hq2 => ?_⟩
    have n4 := same_new (o := .lst (zs.map V.str)) hq2
    have f4 := at_new (o := .lst (zs.map V.str)) hq2
    generalize (upd H3 q2 (.lst (zs.map V.str))) = H4 at n4 f4 ⊢
    refine ⟨_, _, .lst (SqL.of (n4 _ _ f3)) (dp_strs ys), .lst (SqL.of f4) (dp_strs zs), shaped_strs (fun y hy => ko1 y (py.mem_iff.mp hy)), shaped_strs (fun y hy => ko2 y (pz.mem_iff.mp hy)), _, rfl, ?_⟩
    have ev : PyData.eqv (.list (ys.map .str)) (.list (zs.map .str)) = decide (ys = zs) := by
      rw [PyData.eqv]
      exact eqv_strs ys zs
    rw [ev]
    have so := sorted_one py sy pz sz'
    have m4 := ((m1.trans m2).trans n3).trans n4
    by_cases hp : ks.Perm ks'
    case neg =>
      rw [decide_eq_false fun z => hp (so.mp z)]
      rw [if_neg hp] at ke
      exact iteF (kn ke H4 m4)
    rw [decide_eq_true (so.mpr hp)]
    rw [if_pos hp] at ke
    refine iteT ?_
    have h14 := (n3.trans n4) _ _ h1
    have h24 := (n3.trans n4) _ _ h2
    refine ⟨_, rfl, p1, _, ks, rfl, .inl h14, mkv_keys (hk1.trans hv1.symm), by omega, fun ys3 q3 py3 sy3 hq3 => ?_⟩
    have n5 := same_new (o := .lst (ys3.map V.str)) hq3
    have f5 := at_new (o := .lst (ys3.map V.str)) hq3
    generalize (upd H4 q3 (.lst (ys3.map V.str))) = H5 at n5 f5 ⊢
    have ly : ys3.length = ks.length := py3.length_eq
    refine ⟨q3, rfl, ⟨_, SqL.of f5⟩, fun D hD => ?_⟩
    refine lc_rel walk_list hD (by rw [List.length_map]; exact small1000 (by omega)) (fun i H' v => ∃ t, v = .ref t ∧ ∀ k, ys3[i]? = some k → ∃ x y, H' t = some (.tup [x, y]) ∧ Rep CU H' x (get ks ds k) ∧ Rep CU H' y (get ks' ds' k))
      (fun i H H' v m ⟨t, e, h⟩ => ⟨t, e, fun k hk => let ⟨x, y, a, b, c⟩ := h k hk; ⟨x, y, m _ _ a, b.same m, c.same m⟩⟩)
      (fun i H H' v l bu hl ⟨t, e, h⟩ => ⟨t, e, fun k hk => let ⟨x, y, a, b, c⟩ := h k hk; ⟨x, y, bu _ _ a (ne_of a hl (fun z => nomatch z)), b.but bu hl tr_lst, c.but bu hl tr_lst⟩⟩)
      (fun H' m => SqL.of (m _ _ f5)) (fun i x H6 H7 hi m hy N hN => ?_) mono_name (fun H' zs' m f hl hR => ?_)
    · obtain ⟨rfl, hx⟩ := hy
      rw [List.getElem?_map] at hx
      obtain ⟨k, hk, rfl⟩ := Option.map_eq_some_iff.mp hx
      have hkm := py3.mem_iff.mp (List.mem_of_getElem? hk)
      have hkm' := hp.mem_iff.mp hkm
      obtain ⟨j, hj, ej⟩ := List.mem_iff_getElem.mp hkm
      obtain ⟨j', hj', ej'⟩ := List.mem_iff_getElem.mp hkm'
      have kj : ks[j]? = some k := by rw [List.getElem?_eq_getElem hj, ej]
      have kj' : ks'[j']? = some k := by rw [List.getElem?_eq_getElem hj', ej']
      have vj : vs1[j]? = some vs1[j] := List.getElem?_eq_getElem (by omega)
      have vj' : vs2[j']? = some vs2[j'] := List.getElem?_eq_getElem (by omega)
      have dj : ds[j]? = some ds[j] := List.getElem?_eq_getElem (by omega)
      have dj' : ds'[j']? = some ds'[j'] := List.getElem?_eq_getElem (by omega)
      have g1 := (n5.trans m) _ _ h14
      have g2 := (n5.trans m) _ _ h24
      refine ⟨rfl, _, rfl, _, rfl, p1, _, rfl, .inl ⟨_, Sum.inr k, .inl g1, rfl, (mkv_val nd1 kj vj).symm⟩, _, rfl, _, rfl, p2, _, rfl, .inl ⟨_, Sum.inr k, .inl g2, rfl, (mkv_val nd2 kj' vj').symm⟩, (by show 2 ≤ sizeLine; decide), fun t ht => ?_⟩
      have mm := (n3.trans n4).trans (n5.trans m)
      refine hN _ _ (same_new ht) ⟨t, rfl, fun k' hk' => ?_⟩
      rw [hk] at hk'
      cases hk'
      refine ⟨_, _, upd_same, ?_, ?_⟩
      · rw [get_at nd1 kj dj]
        exact ((hs1 j _ _ vj dj).same mm).same (same_new ht)
      · rw [get_at nd2 kj' dj']
        exact ((hs2 j' _ _ vj' dj').same mm).same (same_new ht)
    · obtain ⟨ts, rfl⟩ := refs_of fun i v e => let ⟨t, h, _⟩ := hR i v e; ⟨t, h⟩
      refine kp _ ke D (ys3.map (pairAt ks ds ks' ds')) H' ((m4.trans n5).trans m) (py3.map _) ⟨ts, f, by rw [List.length_map, List.length_map] at hl; rw [List.length_map]; exact hl, fun j t q hj hq => ?_⟩
      rw [List.getElem?_map] at hq
      obtain ⟨k, hk, rfl⟩ := Option.map_eq_some_iff.mp hq
      obtain ⟨t', et, hh⟩ := hR j (.ref t) (by rw [List.getElem?_map, hj]; rfl)
      cases et
      obtain ⟨x, y, a, b, c⟩ := hh k hk
      exact ⟨x, y, a, b, c⟩
  have e2' : ¬ V.str (sort a) = V.str "map" := fun z => e2 (V.str.inj z)
  rw [decide_eq_false e2']
  refine iteF ?_
  obtain ⟨da, db, d1, d2, s1, s2, ke⟩ := leaf_pair (K := K) ha2 hb2 hua hub hsab e1 e2
  refine ⟨_, rfl, _, rfl, da, db, d1, d2, s1, s2, _, rfl, ?_⟩
  cases eq : PyData.eqv da db with
  | true =>
    rw [if_pos eq] at ke
    refine iteT ⟨(by show 0 ≤ sizeLine; decide), fun p hp => ?_⟩
    exact kp _ ke p [] _ ((m1.trans m2).trans (same_new hp)) (.refl _) ⟨[], upd_same, rfl, fun j t q hj _ => nomatch hj⟩
  | false =>
    rw [if_neg (by rw [eq]; decide)] at ke
    exact iteF (kn ke H2 (m1.trans m2))
end
end K04

namespace K04
open PySem L2 XR VT
theorem same_kind (n : Nat) (a b : D) : (∃ x, same n a b = .bl x) ∨ same n a b = .unk := by
  cases n with
  | zero => exact .inl ⟨_, rfl⟩
  | succ n =>
    rw [same]
    split
    · exact .inr rfl
    · split
      · split
        · exact .inl ⟨_, rfl⟩
        · rename_i ps _
          unfold verdict
          split
          · exact .inl ⟨_, rfl⟩
          · split
            · exact .inr rfl
            · exact .inl ⟨_, rfl⟩
      · exact .inl ⟨_, rfl⟩
def spSame (CU : Addr) (n : Nat) : Sp := fun vs H Q _ => ∃ (v u : V) (a b : D), vs = [v, u] ∧ Rep CU H v a ∧ Rep CU H u b ∧ dep a < n ∧ dep b < n ∧ ∀ (r : V) (H' : Hp), Same H H' → Rep CU H' r (same n a b) → Q r H'
theorem spSame_len {CU : Addr} {n : Nat} {vs : List V} {H : Hp} {Q : VK} {E : XK} (h : spSame CU n vs H Q E) : vs.length = 2 := by
  obtain ⟨v, u, a, b, rfl, _⟩ := h
  rfl
section
variable {P : Program} {w : World} {K : PySem.W.Frag} {mg : Str → Option Value} {base : Heap} {CU : Addr}
theorem kids_len {H : Hp} {v : V} {a b : D} {ps : List (D × D)} (ha : Rep CU H v a) (hk : kids a b = some ps) : ps.length ≤ 60 := by
  unfold kids at hk
  split at hk
  · cases ha with
    | tup h hl hz hs =>
      split at hk
      · split at hk
        · cases hk; exact Nat.zero_le _
        · cases hk
      · split at hk
        · cases hk; rw [List.length_zip]; omega
        · cases hk
  · cases ha with
    | map h hv hk' hz nd ko hs =>
      split at hk
      · cases hk; rw [List.length_map, List.length_zip]; omega
      · cases hk
  · cases hk; exact Nat.zero_le _
  · split at hk
    · cases hk; exact Nat.zero_le _
    · cases hk
  · split at hk
    · cases hk; exact Nat.zero_le _
    · cases hk
  · split at hk
    · cases hk; exact Nat.zero_le _
    · cases hk
  · cases hk
def isB : V → Bool
  | .bl _ => true
  | _ => false
theorem verdict_zs {H : Hp} : ∀ {zs : List V} {ans : List D}, zs.length = ans.length → (∀ (i : Nat) (z : V) (d : D), zs[i]? = some z → ans[i]? = some d → Rep CU H z d) → (∀ d ∈ ans, (∃ x, d = .bl x) ∨ d = .unk) →
    inV (.bl false) (zs.filter isB) = (ans.any fun d => match d with | .bl false => true | _ => false) ∧ zs.any isRefV = ans.any isU
  | [], [], _, _, _ => ⟨rfl, rfl⟩
  | z :: zs, d :: ans, hl, hR, hk => by
    obtain ⟨i1, i2⟩ := verdict_zs (zs := zs) (ans := ans) (Nat.succ.inj hl) (fun i z d h1 h2 => hR (i + 1) z d h1 h2) (fun d hd => hk d (List.mem_cons_of_mem _ hd))
    have r := hR 0 z d rfl rfl
    rcases hk d List.mem_cons_self with ⟨x, rfl⟩ | rfl
    · cases r
      cases x
      · refine ⟨?_, ?_⟩
        · simp [isB, inV, eqV]
        · simpa [isRefV, isU] using i2
      · refine ⟨?_, ?_⟩
        · simpa [isB, inV, eqV] using i1
        · simpa [isRefV, isU] using i2
    · cases r with
      | unk h =>
        refine ⟨?_, ?_⟩
        · simpa [isB] using i1
        · simp [isRefV, isU]
theorem scUe : FnScope ["self", "other"] ["self", "other"] (defScope sUEq) := ⟨rfl, rfl, rfl, by decide +kernel, rfl, by decide +kernel, by decide +kernel⟩
theorem ok_ueq {f : Addr} {fd : FuncData} (F : Fun K "__eq__" "Unknown.__eq__" sUEq f fd) (T : Txt K mg CU) : FnOk P w K mg base CX0 1 f fd ["self", "other"] (spIsC K CU) := by
  refine F.ok scUe (fun vs H Q E h => ?_) (fun cdv A outer s H vs Q E hr h => ?_)
  · obtain ⟨a, y, t, b, rfl, _⟩ := h
    rfl
  obtain ⟨a, y, t, b, rfl, ty, kt, k⟩ := h
  refine ⟨_, (pss_one (ps_ret (pe_callB call_isi (by rfl) T.isi (by decide +kernel) (pa_cons (pv 1) (pa_cons (pe_glob (v := .ref CU) rfl T.gU rfl) pa_nil))))), ?_⟩
  exact ⟨_, rfl, _, _, _, _, _, rfl, .own _, ty, kt, k H (fun _ _ z => z)⟩
theorem scSm : FnScope ["one", "other", "pairs", "answers", "mine", "its", "answer"] ["one", "other"] (defScope sSame) := ⟨rfl, rfl, rfl, by decide +kernel, rfl, by decide +kernel, by decide +kernel⟩
theorem same0 {k : Nat} {f : Addr} {fd : FuncData} : FnOk P w K mg base CX0 k f fd ["one", "other"] (spSame CU 0) := ⟨fun _ _ _ _ h => spSame_len h, fun _ _ _ _ _ _ _ _ _ _ _ _ _ ⟨_, _, _, _, _, _, _, z, _⟩ => absurd z (Nat.not_lt_zero _)⟩
theorem ok_same {f fS fP fU : Addr} {fd dS dP dU : FuncData} {n k : Nat} (F : Fun K "same" "same" sSame f fd) (T : Txt K mg CU) (BU : Bare K mg "Unknown" CU) (U : UCls K CU fU) (GU : FnOk P w K mg base CX0 1 fU dU ["self", "other"] (spIsC K CU)) (bU : Binds K dU ["self", "other"] [])
    (GS : FnOk P w K mg base CX0 3 fS dS ["value"] (spD CU fun d => .str (sort d))) (gS : mg "sort_of" = some (.ref fS)) (kS : PySem.W.keepIn K (.ref fS) = true) (bS : Binds K dS ["value"] [])
    (GP : FnOk P w K mg base CX0 4 fP dP ["one", "other"] (spParts CU)) (gP : mg "parts_of" = some (.ref fP)) (kP : PySem.W.keepIn K (.ref fP) = true) (bP : Binds K dP ["one", "other"] [])
    (gK : mg "same" = some (.ref f)) (bK : Binds K fd ["one", "other"] []) (hk : 4 ≤ k) (GK : FnOk P w K mg base CX0 k f fd ["one", "other"] (spSame CU n)) : FnOk P w K mg base CX0 (k + 1) f fd ["one", "other"] (spSame CU (n + 1)) := by
  have kK := F.kp
  refine F.ok scSm (fun vs H Q E h => spSame_len h) (fun cdv A outer s H vs Q E hr h => ?_)
  obtain ⟨v, u, a, b, rfl, ha, hb, na, nb, kk⟩ := h
  have hr3 : Room 3 _ := hr.mono (Nat.le_trans (by decide) hk)
  have hr4 : Room 4 _ := hr.mono hk
  have hr2 : Room (1 + 1) _ := hr.mono (Nat.le_trans (by decide) hk)
  refine ⟨_, (pss_cons (ps_if (PW.pt (pw_or (pt_val (pe_callB call_isi (by rfl) T.isi (by decide +kernel) (pa_cons (pv 0) (pa_cons (pe_glob (v := .ref CU) rfl T.gU rfl) pa_nil)))) (pw_or1 (pt_val (pe_callB call_isi (by rfl) T.isi (by decide +kernel) (pa_cons (pv 1) (pa_cons (pe_glob (v := .ref CU) rfl T.gU rfl) pa_nil))))))) (pss_one (ps_ret (pe_bare BU rfl))) pss_nil)
      (pss_cons (ps_if (pt_cmpR op_ne (pe_call GS hr3 rfl gS kS bS .nil pass0 (pa_cons (pv 0) pa_nil)) (pe_call GS hr3 rfl gS kS bS .nil pass0 (pa_cons (pv 1) pa_nil)) (nomark _)) (pss_one (ps_ret pe_bl)) pss_nil)
      (pss_cons (ps_set (i := 2) scSm.nd rfl (Or.inl rfl) (pe_call GP hr4 rfl gP kP bP .nil pass0 (pa_cons (pv 0) (pa_cons (pv 1) pa_nil))))
      (pss_cons (ps_if (pt_cmpR op_isN (pv 2) pe_non (nomark _)) (pss_one (ps_ret pe_bl)) pss_nil)
      (pss_cons (ps_setLc (i := 3) (own := [("mine", 4), ("its", 5)]) (g := gTup K 2 (gCons (gName 4) (gCons (gName 5) gNil))) (tt := tYes) rfl scSm.nd rfl rfl (sw_true rfl rfl rfl (by decide +kernel)) (pi_list (pv 2)) (blkOk_by (own := [("mine", 4), ("its", 5)]) (N := ["one", "other", "pairs", "answers", "mine", "its", "answer"]) (sc := (defScope sSame)) (by decide +kernel)) (fun _ _ _ _ _ => (pg_tup rfl (pgs_cons (pg_name (i := 4) scSm.nd rfl (Or.inl rfl)) (pgs_cons (pg_name (i := 5) scSm.nd rfl (Or.inl rfl)) pgs_nil)))) (fun _ _ _ _ _ => pts_nil) (fun _ _ _ _ _ => (pe_call GK hr rfl gK kK bK .nil pass0 (pa_cons (pv 4) (pa_cons (pv 5) pa_nil)))))
      (pss_cons (ps_if (pt_cmpR op_in_seq pe_bl (pe_lc (own := [("answer", 6)]) (g := gName 6) (tt := tB (tCB (rIsi K) (tCons (tVar 6) (tCons (tC (V.ty "bool")) tNil)))) rfl scSm.nd (pi_list (pv 3)) (blkOk_by (own := [("answer", 6)]) (N := ["one", "other", "pairs", "answers", "mine", "its", "answer"]) (sc := (defScope sSame)) (by decide +kernel)) (fun _ _ _ _ _ => pg_name (i := 6) scSm.nd rfl (Or.inl rfl)) (fun _ _ _ _ _ => pts_one (pt_val (pe_callB call_isi (by rfl) T.isi (by decide +kernel) (pa_cons (pv 6) (pa_cons (pe_bltn (v := .ty "bool") (by rfl) T.bool (by decide +kernel) rfl) pa_nil))))) (fun _ _ _ _ _ => (pv 6))) (by rfl)) (pss_one (ps_ret pe_bl)) pss_nil)
      (pss_one (ps_ret (pe_ifExp (pt_cmpR (op_inU U GU bU hr2) (pe_bare BU rfl) (pv 3) (by rfl)) (pe_bare BU rfl) pe_bl))))))))), ?_⟩
  have mkU : same (n + 1) a b = .unk → ∀ H1, Same H H1 → ∀ a1 dx, H1 a1 = none → H1 dx = none → dx ≠ a1 → Q (.ref a1) (upd (upd H1 dx (.own a1)) a1 (.ins CU dx [])) := fun e H1 m1 a1 dx h1 h2 h3 => by
    refine kk _ _ (m1.trans ((same_new h2).trans (same_new (by rw [upd_ne (Ne.symm h3)]; exact h1)))) ?_
    rw [e]
    exact .unk upd_same
  have eS : same (n + 1) a b = (if (isU a || isU b) = true then .unk else if sort a = sort b then (match kids a b with | none => .bl false | some ps => verdict (ps.map fun p => same n p.1 p.2)) else .bl false) := rfl
  refine ⟨_, rfl, _, _, _, _, _, rfl, .own _, Rep.ty T ha, T.kU a, _, rfl, ?_⟩
  cases hua : isU a with
  | true =>
    refine iteT (iteT (mkU ?_ H (fun _ _ z => z)))
    rw [eS, hua]
    rfl
  | false =>
  refine iteF ?_
  refine ⟨_, rfl, _, _, _, _, _, rfl, .own _, Rep.ty T hb, T.kU b, _, rfl, ?_⟩
  cases hub : isU b with
  | true =>
    refine iteT (mkU ?_ H (fun _ _ z => z))
    rw [eS, hua, hub]
    rfl
  | false =>
  refine iteF ?_
  rw [hua, hub] at eS
  have eS' : same (n + 1) a b = (if sort a = sort b then (match kids a b with | none => .bl false | some ps => verdict (ps.map fun p => same n p.1 p.2)) else .bl false) := eS
  have fls : same (n + 1) a b = .bl false → ∀ H1, Same H H1 → Q (.bl false) H1 := fun e H1 m1 => kk _ H1 m1 (by rw [e]; exact .bl false)
  refine ⟨_, rfl, v, a, rfl, ha, fun H1 m1 => ⟨_, rfl, u, b, rfl, hb.same m1, fun H2 m2 => ⟨rfl, _, rfl, ?_⟩⟩⟩
  have m12 := m1.trans m2
  by_cases hs : sort a = sort b
  case neg =>
    have hs' : ¬ V.str (sort a) = V.str (sort b) := fun z => hs (V.str.inj z)
    rw [decide_eq_false hs']
    rw [if_neg hs] at eS'
    exact iteT (fls eS' H2 m12)
  have hs' : V.str (sort a) = V.str (sort b) := by rw [hs]
  rw [decide_eq_true hs']
  rw [if_pos hs] at eS'
  refine iteF ?_
  refine ⟨_, rfl, _, rfl, v, u, a, b, rfl, ha.same m12, hb.same m12, hua, hub, hs, fun kn H3 m3 => ?_, fun ps kps p ps' H3 m3 hperm hPL => ?_⟩
  · rw [kn] at eS'
    exact ⟨_, rfl, rfl, _, rfl, iteT (fls eS' H3 (m12.trans m3))⟩
  rw [kps] at eS'
  have eS2 : same (n + 1) a b = verdict (ps'.map fun p => same n p.1 p.2) := eS'.trans (verdict_perm (hperm.symm.map _))
  have ko := kids_of ha.wf hb.wf kps
  refine ⟨_, rfl, rfl, _, rfl, iteF ?_⟩
  obtain ⟨ts, fp, ltp, hpr⟩ := hPL
  refine ⟨_, rfl, p, rfl, ⟨_, SqL.of fp⟩, fun D hD => ?_⟩
  have lps : ts.length ≤ 60 := by rw [ltp, hperm.length_eq]; exact kids_len ha kps
  refine lc_rel walk_list hD (by rw [List.length_map]; exact small1000 (by omega)) (fun i H' v => ∀ q, ps'[i]? = some q → Rep CU H' v (same n q.1 q.2))
    (fun i H H' v m h q hq => (h q hq).same m) (fun i H H' v l bu hl h q hq => (h q hq).but bu hl tr_lst) (fun H' m => SqL.of (m _ _ fp)) (fun i x H6 H7 hi m hy N hN => ?_) mono_pair (fun H4 zs m f hl hR => ?_)
  · obtain ⟨rfl, hx⟩ := hy
    rw [List.getElem?_map] at hx
    obtain ⟨t, ht, rfl⟩ := Option.map_eq_some_iff.mp hx
    have hit : i < ts.length := (List.getElem?_eq_some_iff.mp ht).1
    have hiq : i < ps'.length := by omega
    have hq : ps'[i]? = some ps'[i] := List.getElem?_eq_getElem hiq
    obtain ⟨x, y, ft, rx, ry⟩ := hpr i t _ ht hq
    obtain ⟨_, _, d1, d2⟩ := ko _ (hperm.mem_iff.mp (List.mem_of_getElem? hq))
    refine ⟨t, _, rfl, SqT.of (m _ _ ft), rfl, _, _, rfl, _, _, rfl, rfl, rfl, _, rfl, _, rfl, x, y, _, _, rfl, rx.same m, ry.same m, by omega, by omega, fun r H8 m8 hr8 => hN r H8 m8 fun q hq' => ?_⟩
    rw [hq] at hq'
    cases hq'
    exact hr8
  have m4 := (m12.trans m3).trans m
  have lz : zs.length = ps'.length := by rw [hl, List.length_map, ltp]
  have kinds : ∀ (i : Nat) (z : V), zs[i]? = some z → (∃ c, z = .bl c) ∨ ∃ a1 dx, z = .ref a1 ∧ H4 a1 = some (.ins CU dx []) := fun i z hz => by
    have hi : i < ps'.length := by rw [← lz]; exact (List.getElem?_eq_some_iff.mp hz).1
    have r := hR i z hz _ (List.getElem?_eq_getElem hi)
    rcases same_kind n ps'[i].1 ps'[i].2 with ⟨c, e⟩ | e
    · rw [e] at r
      cases r
      exact .inl ⟨c, rfl⟩
    · rw [e] at r
      cases r with
      | unk h => exact .inr ⟨_, _, rfl, h⟩
  refine ⟨_, rfl, D, rfl, ⟨_, SqL.of f⟩, fun D2 hD2 => ?_⟩
  refine lc_it walk_list (fun i H' => Same H4 H' ∧ H' D2 = some (.lst ((zs.take i).filter isB))) ⟨same_new hD2, upd_same⟩ (fun i H' _ q => SqL.of (q.1 _ _ f)) ?_ ?_
  · rintro i x H5 H6 hi ⟨m5, f5⟩ ⟨rfl, hx⟩
    have tk : zs.take (i + 1) = zs.take i ++ [x] := by rw [List.take_add_one, hx]; rfl
    rcases kinds i x hx with ⟨c, rfl⟩ | ⟨a1, dx, rfl, h1⟩
    · refine ⟨rfl, _, rfl, _, _, _, _, true, rfl, .ty _, .base (.bl c), kit_ty (by decide +kernel), _, rfl, iteT ⟨_, rfl, _, f5, ?_, fun b o e => ?_, ?_⟩⟩
      · have := List.length_filter_le isB (zs.take i)
        rw [List.length_take] at this
        exact small1000 (by omega)
      · rw [upd_ne (ne_of_none e hD2)]
        exact m5 _ _ e
      · rw [upd_same, tk, List.filter_append]
        rfl
    · refine ⟨rfl, _, rfl, _, _, _, _, false, rfl, .ty _, .base (.ins (m5 _ _ h1) T.cu T.c1 T.c2 T.c3 T.c4), T.kT "bool" (by decide), _, rfl, iteF ⟨m5, ?_⟩⟩
      rw [f5, tk, List.filter_append]
      simp [isB]
  rintro H5 ⟨m5, f5⟩
  rw [List.take_length] at f5
  obtain ⟨v1, v2⟩ := verdict_zs (CU := CU) (H := H4) (zs := zs) (ans := ps'.map fun p => same n p.1 p.2) (by rw [List.length_map]; exact lz) (fun i z d h1 h2 => by
    rw [List.getElem?_map] at h2
    obtain ⟨q, hq, rfl⟩ := Option.map_eq_some_iff.mp h2
    exact hR i z h1 q hq) (fun d hd => by
    obtain ⟨q, _, rfl⟩ := List.mem_map.mp hd
    exact same_kind n q.1 q.2)
  have eS2 : same (n + 1) a b = (if inV (.bl false) (zs.filter isB) = true then .bl false else if zs.any isRefV = true then .unk else .bl true) := by
    rw [v1, v2]
    exact eS2
  have m45 := m4.trans m5
  refine ⟨D2, _, rfl, .inl (SqL.of f5), rfl, ?_, _, rfl, ?_⟩
  · rw [List.all_eq_true]
    intro z hz
    have := (List.mem_filter.mp hz).2
    cases z <;> first | rfl | cases this
  cases hi : inV (.bl false) (zs.filter isB) with
  | true =>
    rw [hi] at eS2
    exact iteT (fls eS2 H5 m45)
  | false =>
    rw [hi] at eS2
    refine iteF ?_
    intro a1 dx1 h1 h2 h3
    have n1 : Same H5 (upd (upd H5 dx1 (.own a1)) a1 (.ins CU dx1 [])) := (same_new h2).trans (same_new (by rw [upd_ne (Ne.symm h3)]; exact h1))
    have e1 : (upd (upd H5 dx1 (.own a1)) a1 (.ins CU dx1 [])) a1 = some (.ins CU dx1 []) := upd_same
    generalize (upd (upd H5 dx1 (.own a1)) a1 (.ins CU dx1 [])) = H6 at n1 e1 ⊢
    refine ⟨_, rfl, a1, dx1, [], D, zs, rfl, e1, rfl, n1 _ _ (m5 _ _ f), fun z hz => ?_, fun H7 m7 => ⟨_, rfl, ?_⟩⟩
    · obtain ⟨i, hi', rfl⟩ := List.mem_iff_getElem.mp hz
      rcases kinds i _ (List.getElem?_eq_getElem hi') with h | ⟨a2, dx2, e2, h4⟩
      · exact .inl h
      · exact .inr ⟨a2, dx2, [], e2, ne_of_none (m5 _ _ h4) h1, n1 _ _ (m5 _ _ h4)⟩
    · have m7' := (m45.trans n1).trans m7
      cases hj : zs.any isRefV with
      | true =>
        rw [hj] at eS2
        exact iteT (mkU eS2 H7 m7')
      | false =>
        rw [hj] at eS2
        exact iteF (kk _ H7 m7' (by rw [eS2]; exact .bl true))
end
end K04

namespace K04
open PySem L2 XR VT
def agr : D → Bool
  | .bl x => x
  | _ => true
def spAgrees (CU : Addr) (n : Nat) : Sp := fun vs H Q _ => ∃ (v u : V) (a b : D), vs = [v, u] ∧ Rep CU H v a ∧ Rep CU H u b ∧ dep a < n ∧ dep b < n ∧ ∀ H', Same H H' → Q (.bl (agr (same n a b))) H'
section
variable {P : Program} {w : World} {K : PySem.W.Frag} {mg : Str → Option Value} {base : Heap} {CU : Addr}
theorem scAg : FnScope ["planned", "value"] ["planned", "value"] (defScope sAgrees) := ⟨rfl, rfl, rfl, by decide +kernel, rfl, by decide +kernel, by decide +kernel⟩
theorem ok_agrees {f fK : Addr} {fd dK : FuncData} {n k : Nat} (F : Fun K "agrees" "agrees" sAgrees f fd) (T : Txt K mg CU) (GK : FnOk P w K mg base CX0 k fK dK ["one", "other"] (spSame CU n)) (gK : mg "same" = some (.ref fK)) (kK : PySem.W.keepIn K (.ref fK) = true) (bK : Binds K dK ["one", "other"] []) :
    FnOk P w K mg base CX0 (k + 1) f fd ["planned", "value"] (spAgrees CU n) := by
  refine F.ok scAg (fun vs H Q E h => ?_) (fun cdv A outer s H vs Q E hr h => ?_)
  · obtain ⟨v, u, a, b, rfl, _⟩ := h
    rfl
  obtain ⟨v, u, a, b, rfl, ha, hb, na, nb, kk⟩ := h
  refine ⟨_, (pss_one (ps_ret (pe_or (pe_not (pe_callB call_isi (by rfl) T.isi (by decide +kernel) (pa_cons (pe_call GK hr rfl gK kK bK .nil pass0 (pa_cons (pv 0) (pa_cons (pv 1) pa_nil))) (pa_cons (pe_bltn (v := .ty "bool") (by rfl) T.bool (by decide +kernel) rfl) pa_nil)))) (pe_one (pe_call GK hr rfl gK kK bK .nil pass0 (pa_cons (pv 0) (pa_cons (pv 1) pa_nil))))))), ?_⟩
  refine ⟨_, rfl, _, rfl, v, u, a, b, rfl, ha, hb, na, nb, fun r H1 m1 hr1 => ?_⟩
  refine ⟨_, _, _, _, _, rfl, .ty _, Rep.ty T hr1, T.kit "bool" (by decide) _, _, rfl, _, rfl, ?_⟩
  rcases same_kind n a b with ⟨x, e⟩ | e
  · rw [e]
    refine iteF ⟨_, rfl, _, rfl, v, u, a, b, rfl, ha.same m1, hb.same m1, na, nb, fun r2 H2 m2 hr2 => ?_⟩
    rw [e] at hr2
    cases hr2
    have := kk H2 (m1.trans m2)
    rw [e] at this
    exact this
  · rw [e]
    have := kk H1 m1
    rw [e] at this
    exact iteT this
end
end K04

namespace K04
open PySem L2 XR VT
abbrev sLTag : Stmt := top 33
def posD : D → Bool
  | .int i => decide (1 ≤ i)
  | _ => false
def spLTag (CU : Addr) : Sp := fun vs H Q _ => ∃ (v : V) (l : List D), vs = [v] ∧ Rep CU H v (.tup l) ∧ ∀ H', Same H H' → Q (.bl (isTag l)) H'
section
variable {P : Program} {w : World} {K : PySem.W.Frag} {mg : Str → Option Value} {base : Heap} {CU : Addr}
theorem scLt : FnScope ["_law_value_here", "_law_name", "_law_number", "_law_letter"] ["_law_value_here"] (defScope sLTag) := ⟨rfl, rfl, rfl, by decide +kernel, rfl, by decide +kernel, by decide +kernel⟩
theorem ok_ltag {f : Addr} {fd : FuncData} (F : Fun K "_law_is_tag" "_law_is_tag" sLTag f fd) (T : Txt K mg CU) : FnOk P w K mg base CX0 1 f fd ["_law_value_here"] (spLTag CU) := by
  refine F.ok scLt (fun vs H Q E h => ?_) (fun cdv A outer s H vs Q E hr h => ?_)
  · obtain ⟨v, l, rfl, _⟩ := h
    rfl
  obtain ⟨v, l, rfl, hd, k⟩ := h
  refine ⟨_, (pss_cons (ps_if (PW.pt (pw_or (pt_cmpR op_ne (pe_callB call_len (by rfl) T.len (by decide +kernel) (pa_cons (pv 0) pa_nil)) pe_int (nomark _)) (pw_or (pt_not (pt_val (pe_callB call_isi (by rfl) T.isi (by decide +kernel) (pa_cons (pe_ix ix_tup (pv 0) pe_int (fun _ _ => rfl)) (pa_cons (pe_bltn (v := .ty "str") (by rfl) T.str (by decide +kernel) rfl) pa_nil))))) (pw_or1 (pt_cmpR op_ne (pe_ix ix_tup (pv 0) pe_int (fun _ _ => rfl)) pe_str (nomark _)))))) (pss_one (ps_ret pe_bl)) pss_nil)
      (pss_cons (ps_par (i := 1) (j := 2) (by rfl) scLt.nd rfl rfl (by decide) rfl rfl (pa_cons (pe_ix ix_tup (pv 0) pe_int (fun _ _ => rfl)) (pa_cons (pe_ix ix_tup (pv 0) pe_int (fun _ _ => rfl)) pa_nil)) (by rfl))
      (pss_cons (ps_if (PW.pt (pw_or (pt_not (pt_val (pe_callB call_isi (by rfl) T.isi (by decide +kernel) (pa_cons (pv 1) (pa_cons (pe_bltn (v := .ty "str") (by rfl) T.str (by decide +kernel) rfl) pa_nil))))) (pw_or (pt_not (pt_chain op_lt op_lt pe_int (pe_callB call_len (by rfl) T.len (by decide +kernel) (pa_cons (pv 1) pa_nil)) pe_int)) (pw_or (pt_not (pt_val (pe_callB call_isi (by rfl) T.isi (by decide +kernel) (pa_cons (pv 2) (pa_cons (pe_bltn (v := .ty "int") (by rfl) T.int (by decide +kernel) rfl) pa_nil))))) (pw_or1 (pt_val (pe_callB call_isi (by rfl) T.isi (by decide +kernel) (pa_cons (pv 2) (pa_cons (pe_bltn (v := .ty "bool") (by rfl) T.bool (by decide +kernel) rfl) pa_nil))))))))) (pss_one (ps_ret pe_bl)) pss_nil)
      (pss_one (ps_ret (pe_and (pe_cmpR op_gt (pv 2) pe_int (nomark _)) (pe_one (pe_callB (cr_all rfl) (by rfl) T.all (by decide +kernel) (pa_cons (pe_lc (own := [("_law_letter", 3)]) (g := gName 3) (tt := tYes) rfl scLt.nd (pi_str (pv 1)) (blkOk_by (own := [("_law_letter", 3)]) (N := ["_law_value_here", "_law_name", "_law_number", "_law_letter"]) (sc := (defScope sLTag)) (by decide +kernel)) (fun _ _ _ _ _ => pg_name (i := 3) scLt.nd rfl (Or.inl rfl)) (fun _ _ _ _ _ => pts_nil) (fun _ _ _ _ _ => (pe_cmpR op_in_sign (pv 3) pe_str (by rfl)))) pa_nil))))))))), ?_⟩
  cases hd with
  | @tup a xs _ h hl hz hs =>
  refine ⟨_, rfl, _, _, rfl, .inr ⟨_, SqT.of h, rfl⟩, rfl, _, rfl, ?_⟩
  have fin : ∀ b H', Same H H' → b = isTag l → Q (.bl b) H' := fun b H' m e => by rw [e]; exact k H' m
  by_cases h3 : l.length = 3
  case neg =>
    have h3' : ¬ V.int (xs.length : Int) = V.int 3 := fun z => h3 (by have := V.int.inj z; omega)
    rw [decide_eq_false h3']
    exact iteT (iteT (fin _ H (fun _ _ z => z) (isTag3 h3).symm))
  have h3' : V.int (xs.length : Int) = V.int 3 := by rw [hl, h3]; rfl
  rw [decide_eq_true h3']
  refine iteF ?_
  obtain ⟨d0, d1, d2, rfl⟩ := three h3
  obtain ⟨v0, v1, v2, rfl⟩ := three (hl.trans h3)
  have r0 := hs 0 v0 d0 rfl rfl
  have r1 := hs 1 v1 d1 rfl rfl
  have r2 := hs 2 v2 d2 rfl rfl
  have i0 : atI [v0, v1, v2] 0 = some v0 := atI_nat (j := 0) rfl
  have i1 : atI [v0, v1, v2] 1 = some v1 := atI_nat (j := 1) rfl
  have i2 : atI [v0, v1, v2] 2 = some v2 := atI_nat (j := 2) rfl
  refine ⟨_, rfl, a, _, 0, v0, rfl, rfl, SqT.of h, i0, _, _, _, _, _, rfl, .ty _, Rep.ty T r0, T.kit "str" (by decide) d0, _, rfl, ?_⟩
  cases r0 with
  | str x hx =>
    refine iteF ?_
    refine ⟨_, rfl, a, _, 0, _, rfl, rfl, SqT.of h, i0, rfl, _, rfl, ?_⟩
    by_cases hm : x = "#"
    case neg =>
      have hm' : ¬ V.str x = V.str "#" := fun z => hm (V.str.inj z)
      rw [decide_eq_false hm']
      refine iteT (fin _ H (fun _ _ z => z) ?_)
      cases d1 <;> cases d2 <;> simp [isTag, hm]
    subst hm
    refine iteF ?_
    refine ⟨_, rfl, a, _, 1, v1, rfl, rfl, SqT.of h, i1, _, rfl, a, _, 2, v2, rfl, rfl, SqT.of h, i2, v1, v2, rfl, ?_⟩
    have e0 : isTag [.str "#", d1, d2] = (nameD d1 && (intD d2 && posD d2)) := by
      cases d1 <;> cases d2 <;> simp [isTag, nameD, intD, posD]
    rw [e0] at fin
    refine ⟨_, rfl, _, _, _, _, _, rfl, .ty _, Rep.ty T r1, T.kit "str" (by decide) d1, _, rfl, ?_⟩
    cases r1 with
    | str y hy =>
      refine iteF ?_
      have hyl := hy.2
      refine ⟨_, rfl, _, _, rfl, ⟨(by rw [sizeLine_eq]; omega), rfl⟩, ?_⟩
      refine ⟨0, _, rfl, rfl, _, rfl, ?_⟩
      by_cases h1 : (0 : Int) < (y.length : Int)
      case neg =>
        rw [decide_eq_false h1]
        refine iteF ⟨_, rfl, iteT (iteT (fin _ H (fun _ _ z => z) ?_))⟩
        have : ¬ 1 ≤ y.length := by omega
        simp [nameD, isName, this]
      rw [decide_eq_true h1]
      refine iteT ⟨_, 13, rfl, rfl, _, rfl, ?_⟩
      by_cases h2 : (y.length : Int) < 13
      case neg =>
        rw [decide_eq_false h2]
        refine iteT (iteT (fin _ H (fun _ _ z => z) ?_))
        have : ¬ y.length ≤ 12 := by omega
        simp [nameD, isName, this]
      rw [decide_eq_true h2]
      refine iteF ?_
      refine ⟨_, rfl, _, _, _, _, _, rfl, .ty _, Rep.ty T r2, T.kit "int" (by decide) d2, _, rfl, ?_⟩
      cases r2 with
      | int i =>
        refine iteF ⟨_, rfl, _, _, _, _, _, rfl, .ty _, .base (.int i), T.kit "bool" (by decide) (.int i), _, rfl, iteF ?_⟩
        refine ⟨_, rfl, _, _, rfl, rfl, _, rfl, ?_⟩
        by_cases hp : (0 : Int) < i
        case neg =>
          rw [decide_eq_false hp]
          refine iteF (fin _ H (fun _ _ z => z) ?_)
          have : ¬ 1 ≤ i := by omega
          simp [posD, this]
        rw [decide_eq_true hp]
        refine iteT ?_
        refine ⟨_, rfl, y, rfl, fun D hD => ?_⟩
        refine lc_pure walk_str hD (y.cps.toList.map fun c => V.bl (decide (c ∈ letters))) (by rw [List.length_map]; rfl) (by show y.length < sizeLine; rw [sizeLine_eq]; omega) (fun _ _ => trivial) (fun i y2 H2 H3 z hz m hy2 N hN => ?_) mono_name (fun H' m f => ?_)
        · obtain ⟨rfl, c, hc, rfl⟩ := hy2
          have hc' : y.cps.toList[i]? = some c := by rw [Array.getElem?_toList]; exact hc
          rw [List.getElem?_map, hc'] at hz
          cases hz
          exact ⟨rfl, _, rfl, c, _, rfl, rfl, hN _ (fun _ _ z => z)⟩
        · rw [show y.cps.toList.map (fun c => V.bl (decide (c ∈ letters))) = (y.cps.toList.map fun c => decide (c ∈ letters)).map V.bl from by rw [List.map_map]; rfl] at f
          refine ⟨D, _, rfl, SqL.of f, fin _ H' m ?_⟩
          have h1' : 1 ≤ y.length := by omega
          have h2' : y.length ≤ 12 := by omega
          have h3' : 1 ≤ i := by omega
          rw [List.all_map]
          simp [nameD, isName, intD, posD, h1', h2', h3']
      | bl b => exact iteF ⟨_, rfl, _, _, _, _, _, rfl, .ty _, .base (.bl b), T.kit "bool" (by decide) (.bl b), _, rfl, iteT (fin _ H (fun _ _ z => z) (by simp [intD]))⟩
      | _ => exact iteT (iteT (fin _ H (fun _ _ z => z) (by simp [intD])))
    | _ => exact iteT (iteT (fin _ H (fun _ _ z => z) rfl))
  | _ => exact iteT (iteT (fin _ H (fun _ _ z => z) (by cases d1 <;> cases d2 <;> simp [isTag])))
end
end K04

namespace K04
open PySem L2 XR VT
abbrev sLSort : Stmt := top 34
section
variable {P : Program} {w : World} {K : PySem.W.Frag} {mg : Str → Option Value} {base : Heap} {CU : Addr}
theorem scLs : FnScope ["_law_value_here"] ["_law_value_here"] (defScope sLSort) := ⟨rfl, rfl, rfl, by decide +kernel, rfl, by decide +kernel, by decide +kernel⟩
theorem ok_lsort {f fT : Addr} {fd dT : FuncData} (F : Fun K "_law_sort" "_law_sort" sLSort f fd) (T : Txt K mg CU) (GT : FnOk P w K mg base CX0 1 fT dT ["_law_value_here"] (spLTag CU)) (gT : mg "_law_is_tag" = some (.ref fT)) (kT : PySem.W.keepIn K (.ref fT) = true) (bT : Binds K dT ["_law_value_here"] []) :
    FnOk P w K mg base CX0 2 f fd ["_law_value_here"] (spD CU fun d => .str (lsort d)) := by
  refine F.ok scLs (fun vs H Q E h => spD_len h) (fun cdv A outer s H vs Q E hr h => ?_)
  obtain ⟨v, d, rfl, hd, k⟩ := h
  refine ⟨_, (pss_cons (ps_if (pt_cmpR op_isN (pv 0) pe_non (nomark _)) (pss_one (ps_ret pe_str)) pss_nil)
      (pss_cons (ps_if (pt_val (pe_callB call_isi (by rfl) T.isi (by decide +kernel) (pa_cons (pv 0) (pa_cons (pe_bltn (v := .ty "bool") (by rfl) T.bool (by decide +kernel) rfl) pa_nil)))) (pss_one (ps_ret pe_str)) pss_nil)
      (pss_cons (ps_if (pt_val (pe_callB call_isi (by rfl) T.isi (by decide +kernel) (pa_cons (pv 0) (pa_cons (pe_bltn (v := .ty "int") (by rfl) T.int (by decide +kernel) rfl) pa_nil)))) (pss_one (ps_ret pe_str)) pss_nil)
      (pss_cons (ps_if (pt_val (pe_callB call_isi (by rfl) T.isi (by decide +kernel) (pa_cons (pv 0) (pa_cons (pe_bltn (v := .ty "str") (by rfl) T.str (by decide +kernel) rfl) pa_nil)))) (pss_one (ps_ret pe_str)) pss_nil)
      (pss_cons (ps_if (pt_val (pe_callB call_isi (by rfl) T.isi (by decide +kernel) (pa_cons (pv 0) (pa_cons (pe_glob (v := .ref CU) rfl T.gU rfl) pa_nil)))) (pss_one (ps_ret pe_str)) pss_nil)
      (pss_cons (ps_if (pt_val (pe_callB call_isi (by rfl) T.isi (by decide +kernel) (pa_cons (pv 0) (pa_cons (pe_bltn (v := .ty "dict") (by rfl) T.dict (by decide +kernel) rfl) pa_nil)))) (pss_one (ps_ret pe_str)) pss_nil)
      (pss_one (ps_ret (pe_ifExp (pt_val (pe_call GT hr rfl gT kT bT .nil pass0 (pa_cons (pv 0) pa_nil))) pe_str pe_str))))))))), ?_⟩
  have tv := Rep.ty T hd
  have k0 := k H (fun _ _ z => z)
  cases hd with
  | non => exact ⟨_, rfl, rfl, _, rfl, iteT k0⟩
  | bl b => exact ⟨_, rfl, rfl, _, rfl, iteF ⟨_, rfl, _, _, _, _, _, rfl, .ty _, tv, T.kit "bool" (by decide) _, _, rfl, iteT k0⟩⟩
  | int i => exact ⟨_, rfl, rfl, _, rfl, iteF ⟨_, rfl, _, _, _, _, _, rfl, .ty _, tv, T.kit "bool" (by decide) _, _, rfl, iteF ⟨_, rfl, _, _, _, _, _, rfl, .ty _, tv, T.kit "int" (by decide) _, _, rfl, iteT k0⟩⟩⟩
  | str x hx => exact ⟨_, rfl, rfl, _, rfl, iteF ⟨_, rfl, _, _, _, _, _, rfl, .ty _, tv, T.kit "bool" (by decide) _, _, rfl, iteF ⟨_, rfl, _, _, _, _, _, rfl, .ty _, tv, T.kit "int" (by decide) _, _, rfl, iteF ⟨_, rfl, _, _, _, _, _, rfl, .ty _, tv, T.kit "str" (by decide) _, _, rfl, iteT k0⟩⟩⟩⟩
  | unk h => exact ⟨_, rfl, rfl, _, rfl, iteF ⟨_, rfl, _, _, _, _, _, rfl, .ty _, tv, T.kit "bool" (by decide) _, _, rfl, iteF ⟨_, rfl, _, _, _, _, _, rfl, .ty _, tv, T.kit "int" (by decide) _, _, rfl, iteF ⟨_, rfl, _, _, _, _, _, rfl, .ty _, tv, T.kit "str" (by decide) _, _, rfl, iteF ⟨_, rfl, _, _, _, _, _, rfl, .own _, tv, T.kU _, _, rfl, iteT k0⟩⟩⟩⟩⟩
  | map h hv hk hz nd ko hs => exact ⟨_, rfl, rfl, _, rfl, iteF ⟨_, rfl, _, _, _, _, _, rfl, .ty _, tv, T.kit "bool" (by decide) _, _, rfl, iteF ⟨_, rfl, _, _, _, _, _, rfl, .ty _, tv, T.kit "int" (by decide) _, _, rfl, iteF ⟨_, rfl, _, _, _, _, _, rfl, .ty _, tv, T.kit "str" (by decide) _, _, rfl, iteF ⟨_, rfl, _, _, _, _, _, rfl, .own _, tv, T.kU _, _, rfl, iteF ⟨_, rfl, _, _, _, _, _, rfl, .ty _, tv, T.kit "dict" (by decide) _, _, rfl, iteT k0⟩⟩⟩⟩⟩⟩
  | @tup a xs l h hl hz hs =>
    refine ⟨_, rfl, rfl, _, rfl, iteF ⟨_, rfl, _, _, _, _, _, rfl, .ty _, tv, T.kit "bool" (by decide) _, _, rfl, iteF ⟨_, rfl, _, _, _, _, _, rfl, .ty _, tv, T.kit "int" (by decide) _, _, rfl, iteF ⟨_, rfl, _, _, _, _, _, rfl, .ty _, tv, T.kit "str" (by decide) _, _, rfl, iteF ⟨_, rfl, _, _, _, _, _, rfl, .own _, tv, T.kU _, _, rfl, iteF ⟨_, rfl, _, _, _, _, _, rfl, .ty _, tv, T.kit "dict" (by decide) _, _, rfl, iteF ⟨_, rfl, _, l, rfl, .tup h hl hz hs, fun H1 m1 => ⟨_, rfl, ?_⟩⟩⟩⟩⟩⟩⟩⟩
    have k1 : Q (.str (if isTag l then ("tag" : Str) else ("tuple" : Str))) H1 := k H1 m1
    cases e : isTag l with
    | true =>
      rw [if_pos e] at k1
      exact iteT k1
    | false =>
      rw [if_neg (by rw [e]; decide)] at k1
      exact iteF k1
end
end K04

namespace K04
open PySem L2 XR VT
abbrev sLPairs : Stmt := top 35
theorem lsort_eq {a : D} (h : isU a = false) : lsort a = sort a := by simp [lsort, h]
theorem nd_at {l : List Str} {i j : Nat} {k : Str} (nd : l.Nodup) (hi : l[i]? = some k) (hj : l[j]? = some k) : i = j := by
  obtain ⟨h1, e1⟩ := List.getElem?_eq_some_iff.mp hi
  obtain ⟨h2, e2⟩ := List.getElem?_eq_some_iff.mp hj
  rcases Nat.lt_trichotomy i j with h | h | h
  · exact absurd (e1.trans e2.symm) (List.pairwise_iff_getElem.mp nd i j h1 h2 h)
  · exact h
  · exact absurd (e2.trans e1.symm) (List.pairwise_iff_getElem.mp nd j i h2 h1 h)
section
variable {P : Program} {w : World} {K : PySem.W.Frag} {mg : Str → Option Value} {base : Heap} {CU : Addr}
theorem scLp : FnScope ["_law_one_here", "_law_other", "_law_sort_here", "_law_k", "_law_key"] ["_law_one_here", "_law_other"] (defScope sLPairs) := ⟨rfl, rfl, rfl, by decide +kernel, rfl, by decide +kernel, by decide +kernel⟩
theorem ok_lpairs {f fS : Addr} {fd dS : FuncData} (F : Fun K "_law_pairs" "_law_pairs" sLPairs f fd) (T : Txt K mg CU) (RG : mg "range" = none) (GS : FnOk P w K mg base CX0 2 fS dS ["_law_value_here"] (spD CU fun d => .str (lsort d))) (gS : mg "_law_sort" = some (.ref fS)) (kS : PySem.W.keepIn K (.ref fS) = true) (bS : Binds K dS ["_law_value_here"] []) :
    FnOk P w K mg base CX0 3 f fd ["_law_one_here", "_law_other"] (spParts CU) := by
  refine F.ok scLp (fun vs H Q E h => ?_) (fun cdv A outer s H vs Q E hr h => ?_)
  · obtain ⟨v, u, a, b, rfl, _⟩ := h
    rfl
  obtain ⟨v, u, a, b, rfl, ha, hb, hua, hub, hsab, kn, kp⟩ := h
  have hu := hu_of hr
  refine ⟨_, (pss_cons (ps_set (i := 2) scLp.nd rfl (Or.inl rfl) (pe_call GS hr rfl gS kS bS .nil pass0 (pa_cons (pv 0) pa_nil)))
      (pss_cons (ps_if (pt_cmpR op_eq (pv 2) pe_str (nomark _)) (pss_one (ps_ret (pe_ifExp (pt_cmpR op_eq (pe_callB call_len (by rfl) T.len (by decide +kernel) (pa_cons (pv 0) pa_nil)) (pe_callB call_len (by rfl) T.len (by decide +kernel) (pa_cons (pv 1) pa_nil)) (nomark _)) (pe_lc (own := [("_law_k", 3)]) (g := gName 3) (tt := tYes) (te := tTup (tCons (tOp (rIxT K) (tVar 0) (tVar 3)) (tCons (tOp (rIxT K) (tVar 1) (tVar 3)) tNil))) rfl scLp.nd (pi_range1 (by rfl) RG (pa_cons (pe_callB call_len (by rfl) T.len (by decide +kernel) (pa_cons (pv 0) pa_nil)) pa_nil)) (blkOk_by (own := [("_law_k", 3)]) (N := ["_law_one_here", "_law_other", "_law_sort_here", "_law_k", "_law_key"]) (sc := (defScope sLPairs)) (by decide +kernel)) (fun _ _ _ _ _ => pg_name (i := 3) scLp.nd rfl (Or.inl rfl)) (fun _ _ _ _ _ => pts_nil) (fun _ _ _ _ _ => (pe_tup (pa_cons (pe_ix ix_tup (pv 0) (pv 3) (fun _ _ => rfl)) (pa_cons (pe_ix ix_tup (pv 1) (pv 3) (fun _ _ => rfl)) pa_nil))))) pe_non))) pss_nil)
      (pss_cons (ps_if (pt_cmpR op_eq (pv 2) pe_str (nomark _)) (pss_one (ps_ret (pe_ifExp (pt_cmpR (op_eqD hr.units) (pe_callB (call_sortedD rfl) (by rfl) T.sorted (by decide +kernel) (pa_cons (pv 0) pa_nil)) (pe_callB (call_sortedD rfl) (by rfl) T.sorted (by decide +kernel) (pa_cons (pv 1) pa_nil)) (nomark _)) (pe_lock (pe_lc (own := [("_law_key", 4)]) (g := gName 4) (tt := tYes) rfl scLp.nd (pi_keys (pv 0)) (blkOk_by (own := [("_law_key", 4)]) (N := ["_law_one_here", "_law_other", "_law_sort_here", "_law_k", "_law_key"]) (sc := (defScope sLPairs)) (by decide +kernel)) (fun _ _ _ _ _ => pg_name (i := 4) scLp.nd rfl (Or.inl rfl)) (fun _ _ _ _ _ => pts_nil) (fun _ _ _ _ _ => (pe_tup (pa_cons (pe_dget hu (pv 0) (pv 4) (fun _ _ => rfl)) (pa_cons (pe_dget hu (pv 1) (pv 4) (fun _ _ => rfl)) pa_nil)))))) pe_non))) pss_nil)
      (pss_one (ps_ret (pe_ifExp (pt_cmpR (op_eqD hr.units) (pv 0) (pv 1) (nomark _)) (pe_lst pa_nil) pe_non)))))), ?_⟩
  refine ⟨_, rfl, v, a, rfl, ha, fun H1 m1 => ?_⟩
  have ha1 := ha.same m1
  have hb1 := hb.same m1
  refine ⟨V.str (sort a), by rw [← lsort_eq hua]; rfl, rfl, _, rfl, ?_⟩
  by_cases e1 : sort a = "tuple"
  · have e1' : V.str (sort a) = V.str "tuple" := by rw [e1]
    rw [decide_eq_true e1']
    refine iteT ?_
    obtain ⟨l, rfl, ht⟩ := sort_tuple e1
    obtain ⟨l', rfl, ht'⟩ := sort_tuple (hsab ▸ e1)
    have ke : kids (.tup l) (.tup l') = if l.length = l'.length then some (l.zip l') else none := by
      show (if isTag l then _ else _) = _
      rw [ht]
      rfl
    cases ha1 with
    | @tup p1 xs _ h1 hl1 hz1 hs1 =>
    cases hb1 with
    | @tup p2 ys _ h2 hl2 hz2 hs2 =>
    refine ⟨_, rfl, _, _, rfl, .inr ⟨_, SqT.of h1, rfl⟩, _, rfl, _, _, rfl, .inr ⟨_, SqT.of h2, rfl⟩, rfl, _, rfl, ?_⟩
    by_cases hl : l.length = l'.length
    · have hl' : V.int (xs.length : Int) = V.int (ys.length : Int) := by rw [hl1, hl2, hl]
      rw [decide_eq_true hl']
      rw [if_pos hl] at ke
      refine iteT ⟨_, rfl, _, _, rfl, .inr ⟨_, SqT.of h1, rfl⟩, (xs.length : Int), rfl, by omega, by omega, fun D hD => ?_⟩
      refine lc_rel walk_range hD (by rw [Int.toNat_natCast]; exact small1000 (by omega)) (fun i H' v => ∃ t x y, v = .ref t ∧ xs[i]? = some x ∧ ys[i]? = some y ∧ H' t = some (.tup [x, y]))
        (fun i H H' v m ⟨t, x, y, e, h1, h2, h3⟩ => ⟨t, x, y, e, h1, h2, m _ _ h3⟩)
        (fun i H H' v l bu hl ⟨t, x, y, e, h1, h2, h3⟩ => ⟨t, x, y, e, h1, h2, bu _ _ h3 (ne_of h3 hl (fun z => nomatch z))⟩)
        (fun H' m => trivial) (fun i x H6 H7 hi m hy N hN => ?_) mono_name (fun H' zs m f hlz hR => ?_)
      · obtain ⟨rfl, rfl⟩ := hy
        rw [Int.toNat_natCast] at hi
        have hi2 : i < ys.length := by omega
        have ex : xs[i]? = some xs[i] := List.getElem?_eq_getElem hi
        have ey : ys[i]? = some ys[i] := List.getElem?_eq_getElem hi2
        have ax : atI xs (0 + (i : Int)) = some xs[i] := by rw [Int.zero_add]; exact atI_nat ex
        have ay : atI ys (0 + (i : Int)) = some ys[i] := by rw [Int.zero_add]; exact atI_nat ey
        exact ⟨rfl, _, rfl, _, rfl, p1, xs, _, _, rfl, rfl, SqT.of (m _ _ h1), ax, _, rfl, _, rfl, p2, ys, _, _, rfl, rfl, SqT.of (m _ _ h2), ay, (by show 2 ≤ sizeLine; decide), fun t ht => hN _ _ (same_new ht) ⟨t, _, _, rfl, ex, ey, upd_same⟩⟩
      · obtain ⟨ts, rfl⟩ := refs_of fun i v e => let ⟨t, _, _, h, _⟩ := hR i v e; ⟨t, h⟩
        rw [Int.toNat_natCast, List.length_map] at hlz
        refine kp _ ke D _ H' (m1.trans m) (.refl _) ⟨ts, f, by rw [List.length_zip]; omega, fun j t q hj hq => ?_⟩
        obtain ⟨t', x, y, et, ex, ey, eo⟩ := hR j (.ref t) (by rw [List.getElem?_map, hj]; rfl)
        cases et
        obtain ⟨q1, q2⟩ := List.getElem?_zip_eq_some.mp hq
        exact ⟨x, y, eo, (hs1 j x q.1 ex q1).same m, (hs2 j y q.2 ey q2).same m⟩
    · have hl' : ¬ V.int (xs.length : Int) = V.int (ys.length : Int) := fun z => hl (by have := V.int.inj z; omega)
      rw [decide_eq_false hl']
      rw [if_neg hl] at ke
      exact iteF (kn ke H1 m1)
  have e1' : ¬ V.str (sort a) = V.str "tuple" := fun z => e1 (V.str.inj z)
  rw [decide_eq_false e1']
  refine iteF ?_
  refine ⟨V.str (sort a), by rw [← lsort_eq hua]; rfl, rfl, _, rfl, ?_⟩
  by_cases e2 : sort a = "map"
  · have e2' : V.str (sort a) = V.str "map" := by rw [e2]
    rw [decide_eq_true e2']
    refine iteT ?_
    obtain ⟨ks, ds, rfl⟩ := sort_map e2
    obtain ⟨ks', ds', rfl⟩ := sort_map (hsab ▸ e2)
    cases ha1 with
    | @map p1 vs1 _ _ h1 hv1 hk1 hz1 nd1 ko1 hs1 =>
    cases hb1 with
    | @map p2 vs2 _ _ h2 hv2 hk2 hz2 nd2 ko2 hs2 =>
    have ke : kids (.map ks ds) (.map ks' ds') = if ks.Perm ks' then some (ks.map (pairAt ks ds ks' ds')) else none := by
      show (if ks.Perm ks' then some ((ks.zip ds).map fun p => (p.2, get ks' ds' p.1)) else none) = _
      rw [zip_pairs nd1 hk1]
    refine ⟨_, rfl, p1, _, ks, rfl, .inl h1, mkv_keys (hk1.trans hv1.symm), by omega, fun ys q1 py sy hq1 => ?_⟩
    have n3 := same_new (o := .lst (ys.map V.str)) hq1
    have f3 := at_new (o := .lst (ys.map V.str)) hq1
    generalize (upd H1 q1 (.lst (ys.map V.str))) = H3 at n3 f3 ⊢
    refine ⟨_, rfl, p2, _, ks', rfl, .inl (n3 _ _ h2), mkv_keys (hk2.trans hv2.symm), by omega, fun zs q2 pz sz' hq2 => ?_⟩
    have n4 := same_new (o := .lst (zs.map V.str)) hq2
    have f4 := at_new (o := .lst (zs.map V.str)) hq2
    generalize (upd H3 q2 (.lst (zs.map V.str))) = H4 at n4 f4 ⊢
    refine ⟨_, _, .lst (SqL.of (n4 _ _ f3)) (dp_strs ys), .lst (SqL.of f4) (dp_strs zs), shaped_strs (fun y hy => ko1 y (py.mem_iff.mp hy)), shaped_strs (fun y hy => ko2 y (pz.mem_iff.mp hy)), _, rfl, ?_⟩
    have ev : PyData.eqv (.list (ys.map .str)) (.list (zs.map .str)) = decide (ys = zs) := by
      rw [PyData.eqv]
      exact eqv_strs ys zs
    rw [ev]
    have so := sorted_one py sy pz sz'
    have m4 := (m1.trans n3).trans n4
    by_cases hp : ks.Perm ks'
    case neg =>
      rw [decide_eq_false fun z => hp (so.mp z)]
      rw [if_neg hp] at ke
      exact iteF (kn ke H4 m4)
    rw [decide_eq_true (so.mpr hp)]
    rw [if_pos hp] at ke
    refine iteT ?_
    have h14 := (n3.trans n4) _ _ h1
    have h24 := (n3.trans n4) _ _ h2
    refine ⟨p1, _, h14, trivial, fun od => ?_⟩
    refine ⟨_, rfl, p1, od, rfl, .inl ⟨_, upd_same, fun D hD => ?_⟩⟩
    have lkv : (mkv ks vs1).length = ks.length := mkv_length (hk1.trans hv1.symm)
    refine lc_rel walk_keys hD (by rw [lkv]; exact small1000 (by omega)) (fun i H' v => ∃ t k x y, v = .ref t ∧ ks[i]? = some k ∧ (∀ (j : Nat) (d : VT.D), ks[j]? = some k → ds[j]? = some d → vs1[j]? = some x) ∧ (∀ (j : Nat) (d : VT.D), ks'[j]? = some k → ds'[j]? = some d → vs2[j]? = some y) ∧ H' t = some (.tup [x, y]))
      (fun i H H' v m ⟨t, k, x, y, e, h1, h2, h3, h4⟩ => ⟨t, k, x, y, e, h1, h2, h3, m _ _ h4⟩)
      (fun i H H' v l bu hl ⟨t, k, x, y, e, h1, h2, h3, h4⟩ => ⟨t, k, x, y, e, h1, h2, h3, bu _ _ h4 (ne_of h4 hl (fun z => nomatch z))⟩)
      (fun H' m => m _ _ upd_same) (fun i x H6 H7 hi m hy N hN => ?_) mono_name (fun H' zs' m f hl hR => ?_)
    · obtain ⟨rfl, ky, vy, hx, rfl⟩ := hy
      obtain ⟨k, kj, rfl, vj⟩ := mkv_get hx
      have hkm' := hp.mem_iff.mp (List.mem_of_getElem? kj)
      obtain ⟨j', hj', ej'⟩ := List.mem_iff_getElem.mp hkm'
      have kj' : ks'[j']? = some k := by rw [List.getElem?_eq_getElem hj', ej']
      have vj' : vs2[j']? = some vs2[j'] := List.getElem?_eq_getElem (by omega)
      have g2 : H7 p2 = some (HO.dK (mkv ks' vs2)) ∨ ∃ od, H7 p2 = some (HO.frz od (.dK (mkv ks' vs2))) := by
        by_cases hpp : p2 = p1
        · subst hpp
          have e := h1.symm.trans h2
          have e2 := HO.dK.inj (Option.some.inj e)
          rw [← e2]
          exact .inr ⟨od, m _ _ upd_same⟩
        · exact .inl (m _ _ (by rw [upd_ne hpp]; exact h24))
      refine ⟨rfl, _, rfl, _, rfl, p1, _, rfl, .inl ⟨_, Sum.inr k, .inr ⟨od, m _ _ upd_same⟩, rfl, (mkv_val nd1 kj vj).symm⟩, _, rfl, _, rfl, p2, _, rfl, .inl ⟨_, Sum.inr k, g2, rfl, (mkv_val nd2 kj' vj').symm⟩, (by show 2 ≤ sizeLine; decide), fun t ht => ?_⟩
      refine hN _ _ (same_new ht) ⟨t, k, _, _, rfl, kj, fun j d hj _ => ?_, fun j d hj _ => ?_, upd_same⟩
      · rw [nd_at nd1 hj kj]
        exact vj
      · rw [nd_at nd2 hj kj']
        exact vj'
    · obtain ⟨ts, rfl⟩ := refs_of fun i v e => let ⟨t, _, _, _, h, _⟩ := hR i v e; ⟨t, h⟩
      have fr := m _ _ (upd_same (H := H4) (a := p1) (o := .frz od (.dK (mkv ks vs1))))
      have nD : D ≠ p1 := fun z => by
        rw [z, fr] at f
        cases f
      have m3 := same_lock h14 m
      rw [List.length_map, lkv] at hl
      have mm := (n3.trans n4).trans m3
      refine ⟨fr, kp _ ke D _ _ (m4.trans m3) (.refl _) ⟨ts, by rw [upd_ne nD]; exact f, by rw [List.length_map]; exact hl, fun j t q hj hq => ?_⟩⟩
      rw [List.getElem?_map] at hq
      obtain ⟨k, hk, rfl⟩ := Option.map_eq_some_iff.mp hq
      obtain ⟨t', k', x, y, et, ek, ex, ey, eo⟩ := hR j (.ref t) (by rw [List.getElem?_map, hj]; rfl)
      cases et
      rw [hk] at ek
      cases ek
      have nt : t ≠ p1 := fun z => by
        rw [z, fr] at eo
        cases eo
      have hkm := List.mem_of_getElem? hk
      have hkm' := hp.mem_iff.mp hkm
      obtain ⟨j', hj', ej'⟩ := List.mem_iff_getElem.mp hkm'
      have hj1 : j < ks.length := (List.getElem?_eq_some_iff.mp hk).1
      have kj' : ks'[j']? = some k := by rw [List.getElem?_eq_getElem hj', ej']
      have dj : ds[j]? = some ds[j] := List.getElem?_eq_getElem (by omega)
      have dj' : ds'[j']? = some ds'[j'] := List.getElem?_eq_getElem (by omega)
      refine ⟨x, y, by rw [upd_ne nt]; exact eo, ?_, ?_⟩
      · show Rep CU _ x (get ks ds k)
        rw [get_at nd1 hk dj]
        exact (hs1 j _ _ (ex j _ hk dj) dj).same mm
      · show Rep CU _ y (get ks' ds' k)
        rw [get_at nd2 kj' dj']
        exact (hs2 j' _ _ (ey j' _ kj' dj') dj').same mm
  have e2' : ¬ V.str (sort a) = V.str "map" := fun z => e2 (V.str.inj z)
  rw [decide_eq_false e2']
  refine iteF ?_
  obtain ⟨da, db, d1, d2, s1, s2, ke⟩ := leaf_pair (K := K) ha1 hb1 hua hub hsab e1 e2
  refine ⟨_, rfl, _, rfl, da, db, d1, d2, s1, s2, _, rfl, ?_⟩
  cases eq : PyData.eqv da db with
  | true =>
    rw [if_pos eq] at ke
    refine iteT ⟨(by show 0 ≤ sizeLine; decide), fun p hp => ?_⟩
    exact kp _ ke p [] _ (m1.trans (same_new hp)) (.refl _) ⟨[], upd_same, rfl, fun j t q hj _ => nomatch hj⟩
  | false =>
    rw [if_neg (by rw [eq]; decide)] at ke
    exact iteF (kn ke H1 m1)
end
end K04

namespace K04
open PySem L2 XR VT
abbrev sLMay : Stmt := top 36
abbrev sLOpen : Stmt := top 37
abbrev sLSame : Stmt := top 38
abbrev sLAlike : Stmt := top 39
theorem lsort_u (a : D) : lsort a = "unknown" ↔ isU a = true := by
  cases a with
  | unk => exact ⟨fun _ => rfl, fun _ => rfl⟩
  | tup l =>
    refine ⟨fun z => ?_, fun z => nomatch z⟩
    have h' : (if isTag l then ("tag" : Str) else ("tuple" : Str)) = "unknown" := z
    split at h'
    · exact absurd h' (by decide +kernel)
    · exact absurd h' (by decide +kernel)
  | non => exact ⟨fun z => absurd (show ("none" : Str) = "unknown" from z) (by decide +kernel), fun z => nomatch z⟩
  | bl b => exact ⟨fun z => absurd (show ("bool" : Str) = "unknown" from z) (by decide +kernel), fun z => nomatch z⟩
  | int i => exact ⟨fun z => absurd (show ("integer" : Str) = "unknown" from z) (by decide +kernel), fun z => nomatch z⟩
  | str x => exact ⟨fun z => absurd (show ("text" : Str) = "unknown" from z) (by decide +kernel), fun z => nomatch z⟩
  | map ks ds => exact ⟨fun z => absurd (show ("map" : Str) = "unknown" from z) (by decide +kernel), fun z => nomatch z⟩
def spMay (CU : Addr) (n : Nat) : Sp := fun vs H Q _ => ∃ (v u : V) (a b : D), vs = [v, u] ∧ Rep CU H v a ∧ Rep CU H u b ∧ dep a < n ∧ dep b < n ∧ ∀ H', Same H H' → Q (.bl (may n a b)) H'
theorem spMay_len {CU : Addr} {n : Nat} {vs : List V} {H : Hp} {Q : VK} {E : XK} (h : spMay CU n vs H Q E) : vs.length = 2 := by
  obtain ⟨v, u, a, b, rfl, _⟩ := h
  rfl
section
variable {P : Program} {w : World} {K : PySem.W.Frag} {mg : Str → Option Value} {base : Heap} {CU : Addr}
theorem may0 {k : Nat} {f : Addr} {fd : FuncData} : FnOk P w K mg base CX0 k f fd ["_law_one_here", "_law_other"] (spMay CU 0) := ⟨fun _ _ _ _ h => spMay_len h, fun _ _ _ _ _ _ _ _ _ _ _ _ _ ⟨_, _, _, _, _, _, _, z, _⟩ => absurd z (Nat.not_lt_zero _)⟩
theorem scLm : FnScope ["_law_one_here", "_law_other", "_law_some", "_law_mine", "_law_its"] ["_law_one_here", "_law_other"] (defScope sLMay) := ⟨rfl, rfl, rfl, by decide +kernel, rfl, by decide +kernel, by decide +kernel⟩
theorem ok_lmay {f fS fP : Addr} {fd dS dP : FuncData} {n k : Nat} (F : Fun K "_law_may" "_law_may" sLMay f fd) (T : Txt K mg CU) (GS : FnOk P w K mg base CX0 2 fS dS ["_law_value_here"] (spD CU fun d => .str (lsort d))) (gS : mg "_law_sort" = some (.ref fS)) (kS : PySem.W.keepIn K (.ref fS) = true) (bS : Binds K dS ["_law_value_here"] [])
    (GP : FnOk P w K mg base CX0 3 fP dP ["_law_one_here", "_law_other"] (spParts CU)) (gP : mg "_law_pairs" = some (.ref fP)) (kP : PySem.W.keepIn K (.ref fP) = true) (bP : Binds K dP ["_law_one_here", "_law_other"] [])
    (gK : mg "_law_may" = some (.ref f)) (bK : Binds K fd ["_law_one_here", "_law_other"] []) (hk : 3 ≤ k) (GK : FnOk P w K mg base CX0 k f fd ["_law_one_here", "_law_other"] (spMay CU n)) : FnOk P w K mg base CX0 (k + 1) f fd ["_law_one_here", "_law_other"] (spMay CU (n + 1)) := by
  have kK := F.kp
  refine F.ok scLm (fun vs H Q E h => spMay_len h) (fun cdv A outer s H vs Q E hr h => ?_)
  obtain ⟨v, u, a, b, rfl, ha, hb, na, nb, kk⟩ := h
  have hr2 : Room 2 _ := hr.mono (Nat.le_trans (by decide) hk)
  have hr3 : Room 3 _ := hr.mono hk
  refine ⟨_, (pss_cons (ps_if (pt_cmpR op_in_seq pe_str (pe_tup (pa_cons (pe_call GS hr2 rfl gS kS bS .nil pass0 (pa_cons (pv 0) pa_nil)) (pa_cons (pe_call GS hr2 rfl gS kS bS .nil pass0 (pa_cons (pv 1) pa_nil)) pa_nil))) (by rfl)) (pss_one (ps_ret pe_bl)) pss_nil)
      (pss_cons (ps_if (pt_cmpR op_ne (pe_call GS hr2 rfl gS kS bS .nil pass0 (pa_cons (pv 0) pa_nil)) (pe_call GS hr2 rfl gS kS bS .nil pass0 (pa_cons (pv 1) pa_nil)) (nomark _)) (pss_one (ps_ret pe_bl)) pss_nil)
      (pss_cons (ps_set (i := 2) scLm.nd rfl (Or.inl rfl) (pe_call GP hr3 rfl gP kP bP .nil pass0 (pa_cons (pv 0) (pa_cons (pv 1) pa_nil))))
      (pss_one (ps_ret (pe_and (pe_cmpR op_notN (pv 2) pe_non (nomark _)) (pe_one (pe_callB (cr_all rfl) (by rfl) T.all (by decide +kernel) (pa_cons (pe_lc (own := [("_law_mine", 3), ("_law_its", 4)]) (g := gTup K 2 (gCons (gName 3) (gCons (gName 4) gNil))) (tt := tYes) rfl scLm.nd (pi_list (pv 2)) (blkOk_by (own := [("_law_mine", 3), ("_law_its", 4)]) (N := ["_law_one_here", "_law_other", "_law_some", "_law_mine", "_law_its"]) (sc := (defScope sLMay)) (by decide +kernel)) (fun _ _ _ _ _ => (pg_tup rfl (pgs_cons (pg_name (i := 3) scLm.nd rfl (Or.inl rfl)) (pgs_cons (pg_name (i := 4) scLm.nd rfl (Or.inl rfl)) pgs_nil)))) (fun _ _ _ _ _ => pts_nil) (fun _ _ _ _ _ => (pe_call GK hr rfl gK kK bK .nil pass0 (pa_cons (pv 3) (pa_cons (pv 4) pa_nil))))) pa_nil))))))))), ?_⟩
  have eM : may (n + 1) a b = (if (isU a || isU b) = true then true else if sort a = sort b then (match kids a b with | none => false | some ps => ps.all fun p => may n p.1 p.2) else false) := rfl
  refine ⟨_, rfl, v, a, rfl, ha, fun H1 m1 => ⟨_, rfl, u, b, rfl, hb.same m1, fun H2 m2 => ⟨(by show 2 ≤ sizeLine; decide), fun t ht => ⟨t, _, rfl, .inr (SqT.of upd_same), rfl, rfl, _, rfl, ?_⟩⟩⟩⟩
  have n3 := same_new (o := .tup [.str (lsort a), .str (lsort b)]) ht
  generalize (upd H2 t (.tup [.str (lsort a), .str (lsort b)])) = H3 at n3 ⊢
  have m3 := (m1.trans m2).trans n3
  have ei : inV (.str "unknown") [.str (lsort a), .str (lsort b)] = (isU a || isU b) := by
    rw [Bool.eq_iff_iff]
    simp [inV, eqV, lsort_u]
  have fin : ∀ c H', Same H H' → c = may (n + 1) a b → Q (.bl c) H' := fun c H' m e => by rw [e]; exact kk H' m
  show if (if false = true then !inV (.str "unknown") [.str (lsort a), .str (lsort b)] else inV (.str "unknown") [.str (lsort a), .str (lsort b)]) = true then _ else _
  rw [if_neg (by decide : ¬ false = true), ei]
  cases hu : (isU a || isU b) with
  | true =>
    rw [hu] at eM
    exact iteT (fin _ H3 m3 eM.symm)
  | false =>
  rw [hu] at eM
  have eM : may (n + 1) a b = (if sort a = sort b then (match kids a b with | none => false | some ps => ps.all fun p => may n p.1 p.2) else false) := eM
  refine iteF ?_
  obtain ⟨hua, hub⟩ := Bool.or_eq_false_iff.mp hu
  refine ⟨_, rfl, v, a, rfl, ha.same m3, fun H4 m4 => ⟨_, rfl, u, b, rfl, (hb.same m3).same m4, fun H5 m5 => ⟨rfl, _, rfl, ?_⟩⟩⟩
  have mm := (m3.trans m4).trans m5
  by_cases hs : sort a = sort b
  case neg =>
    have hs' : ¬ V.str (lsort a) = V.str (lsort b) := fun z => hs (by have := V.str.inj z; rwa [lsort_eq hua, lsort_eq hub] at this)
    rw [decide_eq_false hs']
    rw [if_neg hs] at eM
    exact iteT (fin _ H5 mm eM.symm)
  have hs' : V.str (lsort a) = V.str (lsort b) := by rw [lsort_eq hua, lsort_eq hub, hs]
  rw [decide_eq_true hs']
  rw [if_pos hs] at eM
  refine iteF ?_
  refine ⟨_, rfl, _, rfl, v, u, a, b, rfl, ha.same mm, hb.same mm, hua, hub, hs, fun kn H6 m6 => ?_, fun ps kps p ps' H6 m6 hperm hPL => ?_⟩
  · rw [kn] at eM
    exact ⟨_, rfl, rfl, _, rfl, iteF (fin _ H6 (mm.trans m6) eM.symm)⟩
  rw [kps] at eM
  have eM : may (n + 1) a b = ps'.all fun p => may n p.1 p.2 := eM.trans (all_perm hperm.symm)
  have ko := kids_of ha.wf hb.wf kps
  refine ⟨_, rfl, rfl, _, rfl, iteT ?_⟩
  obtain ⟨ts, fp, ltp, hpr⟩ := hPL
  refine ⟨_, rfl, p, rfl, ⟨_, SqL.of fp⟩, fun D hD => ?_⟩
  have lps : ts.length ≤ 60 := by rw [ltp, hperm.length_eq]; exact kids_len ha kps
  refine lc_pure walk_list hD (ps'.map fun q => V.bl (may n q.1 q.2)) (by rw [List.length_map, List.length_map, ltp]) (by rw [List.length_map]; exact small1000 (by omega)) (fun H' m => SqL.of (m _ _ fp)) (fun i x H7 H8 z hz m hy N hN => ?_) mono_pair (fun H' m f => ?_)
  · obtain ⟨rfl, hx⟩ := hy
    rw [List.getElem?_map] at hx hz
    obtain ⟨t, ht, rfl⟩ := Option.map_eq_some_iff.mp hx
    obtain ⟨q, hq, rfl⟩ := Option.map_eq_some_iff.mp hz
    obtain ⟨x, y, ft, rx, ry⟩ := hpr i t _ ht hq
    obtain ⟨_, _, d1, d2⟩ := ko _ (hperm.mem_iff.mp (List.mem_of_getElem? hq))
    exact ⟨t, _, rfl, SqT.of (m _ _ ft), rfl, _, _, rfl, _, _, rfl, rfl, rfl, _, rfl, _, rfl, x, y, _, _, rfl, rx.same m, ry.same m, by omega, by omega, fun H9 m9 => hN H9 m9⟩
  · rw [show ps'.map (fun q => V.bl (may n q.1 q.2)) = (ps'.map fun q => may n q.1 q.2).map V.bl from by rw [List.map_map]; rfl] at f
    refine ⟨D, _, rfl, SqL.of f, fin _ H' ((mm.trans m6).trans m) ?_⟩
    rw [eM, List.all_map]
    rfl
theorem scLo : FnScope ["_law_value_here", "_law_part"] ["_law_value_here"] (defScope sLOpen) := ⟨rfl, rfl, rfl, by decide +kernel, rfl, by decide +kernel, by decide +kernel⟩
theorem sum_cast (f : D → Nat) : ∀ l : List D, (l.map fun d => (f d : Int)).sum = ((l.map f).sum : Nat)
  | [] => rfl
  | d :: l => by
    have := sum_cast f l
    simp only [List.map_cons, List.sum_cons, this]
    omega
theorem sort_tm (d : D) (h : isU d = false) : (lsort d = "tuple" ∨ lsort d = "map") ↔ ((∃ l, d = .tup l ∧ isTag l = false) ∨ ∃ ks ds, d = .map ks ds) := by
  rw [lsort_eq h]
  constructor
  · rintro (z | z)
    · exact .inl (sort_tuple z)
    · exact .inr (sort_map z)
  · rintro (⟨l, rfl, e⟩ | ⟨ks, ds, rfl⟩)
    · refine .inl ?_
      show (if isTag l then ("tag" : Str) else ("tuple" : Str)) = "tuple"
      rw [e]
      rfl
    · exact .inr rfl
theorem ok_lopen {f fS : Addr} {fd dS : FuncData} {n k : Nat} (F : Fun K "_law_open" "_law_open" sLOpen f fd) (T : Txt K mg CU) (mS : mg "sum" = none) (GS : FnOk P w K mg base CX0 2 fS dS ["_law_value_here"] (spD CU fun d => .str (lsort d))) (gS : mg "_law_sort" = some (.ref fS)) (kS : PySem.W.keepIn K (.ref fS) = true) (bS : Binds K dS ["_law_value_here"] [])
    (gK : mg "_law_open" = some (.ref f)) (bK : Binds K fd ["_law_value_here"] []) (hk : 2 ≤ k) (GK : FnOk P w K mg base CX0 k f fd ["_law_value_here"] (spN CU n fun d => .int (opn n d))) : FnOk P w K mg base CX0 (k + 1) f fd ["_law_value_here"] (spN CU (n + 1) fun d => .int (opn (n + 1) d)) := by
  have kK := F.kp
  refine F.ok scLo (fun vs H Q E h => spN_len h) (fun cdv A outer s H vs Q E hr h => ?_)
  obtain ⟨v, d, rfl, hd, hn, kk⟩ := h
  have hr2 : Room 2 _ := hr.mono hk
  refine ⟨_, (pss_cons (ps_if (pt_cmpR op_in_seq (pe_call GS hr2 rfl gS kS bS .nil pass0 (pa_cons (pv 0) pa_nil)) (pe_tup (pa_cons pe_str (pa_cons pe_str pa_nil))) (by rfl)) (pss_one (ps_ret (pe_callB (cr_sum rfl) (by rfl) mS (by decide +kernel) (pa_cons (pe_lc (own := [("_law_part", 1)]) (g := gName 1) (tt := tYes) rfl scLo.nd (pi_list (pe_ifExp (pt_val (pe_callB call_isi (by rfl) T.isi (by decide +kernel) (pa_cons (pv 0) (pa_cons (pe_bltn (v := .ty "tuple") (by rfl) T.tuple (by decide +kernel) rfl) pa_nil)))) (pe_callTy call_list_of (by rfl) T.list (by decide +kernel) (pa_cons (pv 0) pa_nil)) (pe_listVals rfl (pv 0) (by rfl) T.list (by decide +kernel)))) (blkOk_by (own := [("_law_part", 1)]) (N := ["_law_value_here", "_law_part"]) (sc := (defScope sLOpen)) (by decide +kernel)) (fun _ _ _ _ _ => pg_name (i := 1) scLo.nd rfl (Or.inl rfl)) (fun _ _ _ _ _ => pts_nil) (fun _ _ _ _ _ => (pe_call GK hr rfl gK kK bK .nil pass0 (pa_cons (pv 1) pa_nil)))) pa_nil)))) pss_nil)
      (pss_one (ps_ret (pe_callTy call_int1 (by rfl) T.int (by decide +kernel) (pa_cons (pe_cmpR op_eq (pe_call GS hr2 rfl gS kS bS .nil pass0 (pa_cons (pv 0) pa_nil)) pe_str (nomark _)) pa_nil))))), ?_⟩
  refine ⟨_, rfl, v, d, rfl, hd, fun H1 m1 => ⟨(by show 2 ≤ sizeLine; decide), fun t ht => ⟨t, _, rfl, .inr (SqT.of upd_same), rfl, rfl, _, rfl, ?_⟩⟩⟩
  have n2 := same_new (o := .tup [.str "tuple", .str "map"]) ht
  generalize (upd H1 t (.tup [.str "tuple", .str "map"])) = H2 at n2 ⊢
  have m2 := m1.trans n2
  have hd2 := hd.same m2
  have ei : inV (.str (lsort d)) [.str "tuple", .str "map"] = decide (lsort d = "tuple" ∨ lsort d = "map") := by
    rw [Bool.eq_iff_iff]
    simp [inV, eqV]
    constructor
    · rintro (z | z)
      · exact .inl z.symm
      · exact .inr z.symm
    · rintro (z | z)
      · exact .inl z.symm
      · exact .inr z.symm
  show if (if false = true then !inV (.str (lsort d)) [.str "tuple", .str "map"] else inV (.str (lsort d)) [.str "tuple", .str "map"]) = true then _ else _
  rw [if_neg (by decide : ¬ false = true), ei]
  have fin : ∀ c H', Same H H' → c = (opn (n + 1) d : Int) → Q (.int c) H' := fun c H' m e => by rw [e]; exact kk H' m
  have key : ∀ (ds : List D) (vs : List V) (l : Addr) (H3 : Hp), Same H H3 → ds.length ≤ 60 → vs.length = ds.length → (∀ (i : Nat) (v : V) (d : D), vs[i]? = some v → ds[i]? = some d → Rep CU H3 v d) → depL ds < n → opn (n + 1) d = (ds.map (opn n)).sum → H3 l = some (.lst vs) →
      ∀ D, H3 D = none → ∃ W : Nat → Nat → Hp → Prop, (∃ m, W 0 m (upd H3 D (.lst []))) ∧ ∀ i m H, W i m H →
      ((Itl K l).stop i H ∧ ∃ a ns, [V.ref D] = [V.ref a] ∧ SqL K H a (List.map V.int ns) ∧ Q (.int ns.sum) H) ∨ ((Itl K l).go i H ∧ ∃ Nx : Hp → Prop, (∀ H', Nx H' → ∃ m', m' < m ∧ W (i + 1) m' H') ∧ ∀ x H', (Itl K l).yld i H x H' → gName 1 x (wipe [some v, none] [1]) H' fun σ2 H2 => wipe σ2 [1] = wipe [some v, none] [1] ∧ tYes σ2 H2 fun b H3 =>
        if b = true then tCall (spN CU n fun d => .int (opn n d)) [] E0 (tCons (tVar 1) tNil) σ2 H3 fun y H4 => ∃ acc, H4 D = some (.lst acc) ∧ acc.length < sizeLine ∧ Nx (upd H4 D (.lst (acc ++ [y]))) else Nx H3) := by
    intro ds vs l H3 m3 hz hv hs hdl eo hl D hD
    refine lc_pure walk_list hD (ds.map fun d => V.int (opn n d)) (by rw [List.length_map, hv]) (by rw [hv]; exact small1000 (by omega)) (fun H' m => SqL.of (m _ _ hl)) (fun i x H7 H8 z hz' m hy N hN => ?_) mono_name (fun H' m f => ?_)
    · obtain ⟨rfl, hx⟩ := hy
      rw [List.getElem?_map] at hz'
      obtain ⟨di, hdi, rfl⟩ := Option.map_eq_some_iff.mp hz'
      exact ⟨rfl, _, rfl, x, di, rfl, (hs i x di hx hdi).same m, Nat.lt_of_le_of_lt (dep_mem (List.mem_of_getElem? hdi)) hdl, fun H5 m5 => hN H5 m5⟩
    · rw [show ds.map (fun d => V.int (opn n d)) = (ds.map fun d => (opn n d : Int)).map V.int from by rw [List.map_map]; rfl] at f
      refine ⟨D, _, rfl, SqL.of f, fin _ H' (m3.trans m) ?_⟩
      rw [sum_cast, eo]
  have leaf : ¬ (lsort d = "tuple" ∨ lsort d = "map") → opn (n + 1) d = (if isU d then 1 else 0) := fun z => by
    cases d with
    | tup l =>
      cases e : isTag l with
      | true => simp [opn, e, isU]
      | false => exact absurd ((sort_tm _ rfl).mpr (.inl ⟨l, rfl, e⟩)) z
    | map ks ds => exact absurd ((sort_tm _ rfl).mpr (.inr ⟨ks, ds, rfl⟩)) z
    | _ => rfl
  by_cases hx : lsort d = "tuple" ∨ lsort d = "map"
  case neg =>
    rw [decide_eq_false hx]
    refine iteF ⟨_, rfl, v, d, rfl, hd2, fun H3 m3 => ⟨rfl, .inr ⟨_, rfl, fin _ H3 (m2.trans m3) ?_⟩⟩⟩
    rw [leaf hx]
    cases hu : isU d with
    | true =>
      rw [decide_eq_true (show V.str (lsort d) = V.str "unknown" from by rw [(lsort_u d).mpr hu])]
      rfl
    | false =>
      rw [decide_eq_false (show ¬ V.str (lsort d) = V.str "unknown" from fun z => by rw [(lsort_u d).mp (V.str.inj z)] at hu; cases hu)]
      rfl
  rw [decide_eq_true hx]
  refine iteT ?_
  have hu : isU d = false := by
    cases e : isU d with
    | false => rfl
    | true =>
      rw [(lsort_u d).mpr e] at hx
      rcases hx with z | z
      · exact absurd z (by decide +kernel)
      · exact absurd z (by decide +kernel)
  rcases (sort_tm d hu).mp hx with ⟨l, rfl, ht⟩ | ⟨ks, ds, rfl⟩
  · have tv := Rep.ty T hd2
    cases hd2 with
    | @tup p xs _ h hl hz hs =>
    refine ⟨_, rfl, _, _, _, _, _, rfl, .ty _, tv, T.kit "tuple" (by decide) _, _, rfl, iteT ⟨_, rfl, p, xs, rfl, .inr (SqT.of h), fun q hq => ?_⟩⟩
    have n3 := same_new (o := .lst xs) hq
    have f3 := at_new (o := .lst xs) hq
    generalize (upd H2 q (.lst xs)) = H3 at n3 f3 ⊢
    refine ⟨q, rfl, ⟨_, SqL.of f3⟩, ?_⟩
    exact key l xs q H3 (m2.trans n3) hz hl (fun i v d h1 h2 => (hs i v d h1 h2).same n3) (by rw [dep] at hn; omega) (by show (if isTag l then 0 else _) = _; rw [ht]; rfl) f3
  · have tv := Rep.ty T hd2
    cases hd2 with
    | @map p vs _ _ h hv hk' hz nd ko hs =>
    refine ⟨_, rfl, _, _, _, _, _, rfl, .ty _, tv, T.kit "tuple" (by decide) _, _, rfl, iteF ⟨_, rfl, p, _, rfl, h, fun q hq => ?_⟩⟩
    have e : (mkv ks vs).map Prod.snd = vs := by
      unfold mkv
      rw [List.map_map]
      exact List.map_snd_zip (by omega)
    rw [e]
    have n3 := same_new (o := .lst vs) hq
    have f3 := at_new (o := .lst vs) hq
    generalize (upd H2 q (.lst vs)) = H3 at n3 f3 ⊢
    refine ⟨q, rfl, ⟨_, SqL.of f3⟩, ?_⟩
    exact key ds vs q H3 (m2.trans n3) hz hv (fun i v d h1 h2 => (hs i v d h1 h2).same n3) (by rw [dep] at hn; omega) rfl f3
def spLSame (CU : Addr) (n : Nat) : Sp := fun vs H Q _ => ∃ (v u : V) (a b : D), vs = [v, u] ∧ Rep CU H v a ∧ Rep CU H u b ∧ dep a < n ∧ dep b < n ∧ ∀ (r : V) (H' : Hp), Same H H' → Rep CU H' r (res (may n a b) (opn n a + opn n b)) → Q r H'
theorem scLe : FnScope ["_law_one_here", "_law_other"] ["_law_one_here", "_law_other"] (defScope sLSame) := ⟨rfl, rfl, rfl, by decide +kernel, rfl, by decide +kernel, by decide +kernel⟩
theorem ok_lsame {f fM fO : Addr} {fd dM dO : FuncData} {n k : Nat} (F : Fun K "_law_same" "_law_same" sLSame f fd) (T : Txt K mg CU) (BU : Bare K mg "Unknown" CU)
    (GM : FnOk P w K mg base CX0 k fM dM ["_law_one_here", "_law_other"] (spMay CU n)) (gM : mg "_law_may" = some (.ref fM)) (kM : PySem.W.keepIn K (.ref fM) = true) (bM : Binds K dM ["_law_one_here", "_law_other"] [])
    (GO : FnOk P w K mg base CX0 k fO dO ["_law_value_here"] (spN CU n fun d => .int (opn n d))) (gO : mg "_law_open" = some (.ref fO)) (kO : PySem.W.keepIn K (.ref fO) = true) (bO : Binds K dO ["_law_value_here"] []) :
    FnOk P w K mg base CX0 (k + 1) f fd ["_law_one_here", "_law_other"] (spLSame CU n) := by
  refine F.ok scLe (fun vs H Q E h => ?_) (fun cdv A outer s H vs Q E hr h => ?_)
  · obtain ⟨v, u, a, b, rfl, _⟩ := h
    rfl
  obtain ⟨v, u, a, b, rfl, ha, hb, na, nb, kk⟩ := h
  have hrM := hr
  have hrO := hr
  refine ⟨_, (pss_cons (ps_if (pt_not (pt_val (pe_call GM hrM rfl gM kM bM .nil pass0 (pa_cons (pv 0) (pa_cons (pv 1) pa_nil))))) (pss_one (ps_ret pe_bl)) pss_nil)
      (pss_one (ps_ret (pe_ifExp (pt_cmpR op_eq (pe_op op_add (pe_call GO hrO rfl gO kO bO .nil pass0 (pa_cons (pv 0) pa_nil)) (pe_call GO hrO rfl gO kO bO .nil pass0 (pa_cons (pv 1) pa_nil))) pe_int (nomark _)) pe_bl (pe_bare BU rfl))))), ?_⟩
  refine ⟨_, rfl, _, rfl, v, u, a, b, rfl, ha, hb, na, nb, fun H1 m1 => ⟨_, rfl, ?_⟩⟩
  have e0 : res (may n a b) (opn n a + opn n b) = if may n a b = true then (if opn n a + opn n b = 0 then .bl true else .unk) else .bl false := rfl
  cases hm : may n a b with
  | false =>
    rw [hm] at e0
    exact iteT (kk _ H1 m1 (by rw [hm]; exact .bl false))
  | true =>
  rw [hm] at e0
  refine iteF ?_
  refine ⟨_, rfl, v, a, rfl, ha.same m1, na, fun H2 m2 => ⟨_, rfl, u, b, rfl, (hb.same m1).same m2, nb, fun H3 m3 => ⟨_, _, rfl, rfl, rfl, _, rfl, ?_⟩⟩⟩
  have mm := (m1.trans m2).trans m3
  by_cases hz : opn n a + opn n b = 0
  · have z : V.int ((opn n a : Int) + (opn n b : Int)) = V.int 0 := congrArg V.int (by omega)
    rw [decide_eq_true z]
    refine iteT (kk _ H3 mm ?_)
    rw [hm]
    show Rep CU H3 _ (if opn n a + opn n b = 0 then .bl true else .unk)
    rw [if_pos hz]
    exact .bl true
  · have z : ¬ V.int ((opn n a : Int) + (opn n b : Int)) = V.int 0 := fun z => hz (by have := V.int.inj z; omega)
    rw [decide_eq_false z]
    refine iteF fun a1 dx h1 h2 h3 => kk _ _ (mm.trans ((same_new h2).trans (same_new (by rw [upd_ne (Ne.symm h3)]; exact h1)))) ?_
    rw [hm]
    show Rep CU _ _ (if opn n a + opn n b = 0 then .bl true else .unk)
    rw [if_neg hz]
    exact .unk upd_same
end
end K04

namespace K04
open PySem L2 XR VT
abbrev sWell : Stmt := top 29
abbrev sDraw : Stmt := top 30
abbrev sOne : Stmt := top 31
abbrev sLVal : Stmt := top 32
theorem But.new {w p : Addr} {H : Hp} {o : HO} (h : H p = none) : But w H (L2.upd H p o) := fun b u e n => by rw [upd_ne (ne_of_none e h)]; exact e
structure Well (H : Hp) (w : Addr) (a b c : Int) : Prop where
  at_ : H w = some (.lst [.int a, .int b, .int c])
  b0 : 0 ≤ b
  b1 : b < 2147483647
  c0 : 0 ≤ c
  c1 : c ≤ 1000000000000000
def spWell : Sp := fun vs H Q _ => ∃ z : Int, vs = [.int z] ∧ ∀ (p : Addr) (a b : Int) (H' : Hp), Same H H' → H p = none → Well H' p a b 0 → Q (.ref p) H'
def spDraw : Sp := fun vs H Q _ => ∃ (w : Addr) (a b c m : Int), vs = [.ref w, .int m] ∧ Well H w a b c ∧ c < 1000000000000000 ∧ 0 < m ∧ m < 1000000 ∧
  ∀ (d a' c' : Int) (H' : Hp), 0 ≤ d → d < m → c' ≤ c + 1 → Well H' w a' b c' → But w H H' → Q (.int d) H'
def spOne (K : PySem.W.Frag) : Sp := fun vs H Q _ => ∃ (w l : Addr) (a b c : Int) (xs : List V), vs = [.ref w, .ref l] ∧ Well H w a b c ∧ c < 1000000000000000 ∧ H l = some (.lst xs) ∧ l ≠ w ∧ 0 < xs.length ∧ xs.length < 1000 ∧
  ∀ (v : V) (a' c' : Int) (H' : Hp), v ∈ xs → c' ≤ c + 1 → Well H' w a' b c' → But w H H' → Q v H'
structure Txt0 (mg : Str → Option Value) : Prop where
  int : mg "int" = none
  len : mg "len" = none
section
variable {P : Program} {w : World} {K : PySem.W.Frag} {mg : Str → Option Value} {base : Heap} {CU : Addr}
theorem scW : FnScope ["_law_cell"] ["_law_cell"] (defScope sWell) := ⟨rfl, rfl, rfl, by decide +kernel, rfl, by decide +kernel, by decide +kernel⟩
theorem ok_well {f : Addr} {fd : FuncData} (F : Fun K "_law_well" "_law_well" sWell f fd) (T : Txt0 mg) : FnOk P w K mg base CX0 1 f fd ["_law_cell"] spWell := by
  refine F.ok scW (fun vs H Q E h => ?_) (fun cdv A outer s H vs Q E hr h => ?_)
  · obtain ⟨z, rfl, _⟩ := h
    rfl
  · obtain ⟨z, rfl, k⟩ := h
    refine ⟨_, pss_one (ps_ret (pe_lst (pa_cons (pe_op op_mul (pv 0) (pe_callTy call_int1 (by rfl) T.int (by decide +kernel) (pa_cons (pe_cmpR op_ge (pv 0) (pe_op op_pow pe_int pe_int) (nomark _)) pa_nil)))
      (pa_cons (pe_op op_mod (pe_callTy call_int1 (by rfl) T.int (by decide +kernel) (pa_cons (pv 0) pa_nil)) pe_int) (pa_cons pe_int pa_nil))))), ?_⟩
    refine ⟨_, rfl, _, rfl, _, _, rfl, rfl, ⟨by decide, by decide, by decide⟩, _, _, rfl, rfl, .inr ⟨_, rfl, ?_⟩⟩
    refine ⟨_, _, rfl, rfl, .inr ?_, ?_⟩
    · split <;> exact ⟨by decide, by decide⟩
    refine ⟨_, rfl, .inl ⟨_, rfl, _, _, rfl, rfl, (by show (0 : Int) < 2147483647; decide), (by show 3 ≤ sizeLine; decide), fun p hp => ?_⟩⟩
    refine k p _ _ _ (same_new hp) hp ⟨upd_same, ?_, ?_, Int.le_refl _, by decide⟩
    · exact Int.emod_nonneg _ (by decide)
    · exact Int.emod_lt_of_pos _ (by decide)
theorem scD : FnScope ["_law_well_here", "_law_below", "_law_digit", "_law_prime", "_law_number"] ["_law_well_here", "_law_below"] (defScope sDraw) := ⟨rfl, rfl, rfl, by decide +kernel, rfl, by decide +kernel, by decide +kernel⟩
theorem ok_draw {f : Addr} {fd : FuncData} (F : Fun K "_law_draw" "_law_draw" sDraw f fd) (T : Txt0 mg) : FnOk P w K mg base CX0 1 f fd ["_law_well_here", "_law_below"] spDraw := by
  refine F.ok scD (fun vs H Q E h => ?_) (fun cdv A outer s H vs Q E hr h => ?_)
  · obtain ⟨w, a, b, c, m, rfl, _⟩ := h
    rfl
  · obtain ⟨w, a, b, c, m, rfl, W, hc, m0, m1, k⟩ := h
    refine ⟨_, pss_cons (ps_if (pt_cmpR op_gt (pe_ix ix_list (pv 0) pe_int (fun _ _ => rfl)) pe_int (nomark _))
        (pss_cons (ps_set (i := 2) scD.nd rfl (Or.inl rfl) (pe_op op_mod (pe_callTy call_int1 (by rfl) T.int (by decide +kernel) (pa_cons (pe_ix ix_list (pv 0) pe_int (fun _ _ => rfl)) pa_nil)) (pv 1)))
        (pss_cons (ps_asg (pe_op op_fdiv (pe_ix ix_list (pv 0) pe_int (fun _ _ => rfl)) (pv 1)) (pg_sub (pv 0) pe_int set_list))
        (pss_one (ps_ret (pv 2))))) pss_nil)
      (pss_cons (ps_asg (pe_op op_add (pe_ix ix_list (pv 0) pe_int (fun _ _ => rfl)) pe_int) (pg_sub (pv 0) pe_int set_list))
      (pss_cons (ps_set (i := 3) scD.nd rfl (Or.inl rfl) (pe_ix ix_list (pe_lst (pa_cons pe_int (pa_cons pe_int (pa_cons pe_int (pa_cons pe_int (pa_cons pe_int (pa_cons pe_int (pa_cons pe_int pa_nil))))))))
        (pe_op op_mod (pe_callTy call_int1 (by rfl) T.int (by decide +kernel) (pa_cons (pe_ix ix_list (pv 0) pe_int (fun _ _ => rfl)) pa_nil)) pe_int) (fun _ _ => rfl)))
      (pss_cons (ps_set (i := 4) scD.nd rfl (Or.inl rfl) (pe_op op_mod (pe_callTy call_int1 (by rfl) T.int (by decide +kernel) (pa_cons (pe_op op_pow (pe_op op_add (pe_op op_add (pe_ix ix_list (pv 0) pe_int (fun _ _ => rfl)) (pe_op op_mul pe_int (pe_ix ix_list (pv 0) pe_int (fun _ _ => rfl)))) pe_int) pe_int) pa_nil)) (pv 3)))
      (pss_cons (ps_set (i := 4) scD.nd rfl (Or.inl rfl) (pe_op op_mod (pe_callTy call_int1 (by rfl) T.int (by decide +kernel) (pa_cons (pe_op op_mul (pe_op op_add (pv 4) (pe_ix ix_list (pv 0) pe_int (fun _ _ => rfl))) (pe_op op_add (pe_op op_fdiv (pv 4) pe_int) pe_int)) pa_nil)) (pv 3)))
      (pss_one (ps_ret (pe_op op_mod (pe_callTy call_int1 (by rfl) T.int (by decide +kernel) (pa_cons (pe_op op_fdiv (pv 4) pe_int) pa_nil)) (pv 1)))))))), ?_⟩
    refine ⟨_, rfl, w, _, _, _, rfl, rfl, SqL.of W.at_, rfl, _, _, rfl, rfl, _, rfl, ?_⟩
    refine ite2 (fun ca => ?_) (fun ca => ?_)
    · refine ⟨_, rfl, w, _, _, _, rfl, rfl, SqL.of W.at_, rfl, .inl ⟨_, rfl, _, rfl, _, _, rfl, rfl, m0, ?_⟩⟩
      refine ⟨_, rfl, w, _, _, _, rfl, rfl, SqL.of W.at_, rfl, _, rfl, _, _, rfl, rfl, ⟨m0, by omega⟩, _, rfl, w, _, _, _, rfl, rfl, W.at_, rfl, ?_⟩
      exact ⟨_, rfl, k _ _ c _ (Int.emod_nonneg _ (by omega)) (Int.emod_lt_of_pos _ m0) (by omega) ⟨upd_same, W.b0, W.b1, W.c0, W.c1⟩ But.upd⟩
    · refine ⟨_, rfl, w, _, _, _, rfl, rfl, SqL.of W.at_, rfl, _, _, rfl, rfl, _, rfl, w, _, _, _, rfl, rfl, W.at_, rfl, ?_⟩
      have W1 : Well (upd H w (.lst [.int a, .int b, .int (c + 1)])) w a b (c + 1) := ⟨upd_same, W.b0, W.b1, by have := W.c0; omega, by omega⟩
      have B1 : But w H (upd H w (.lst [.int a, .int b, .int (c + 1)])) := But.upd
      refine ⟨(by show 7 ≤ sizeLine; decide), fun p hp => ?_⟩
      have wp : w ≠ p := ne_of_none W1.at_ hp
      have W2 : Well (upd (upd H w (.lst [.int a, .int b, .int (c + 1)])) p (.lst [.int 2147483647, .int 2147483629, .int 2147483587, .int 2147483579, .int 2147483563, .int 2147483549, .int 2147483543])) w a b (c + 1) := ⟨by rw [upd_ne wp]; exact W1.at_, W1.b0, W1.b1, W1.c0, W1.c1⟩
      have B2 := B1.trans (K04.But.new (w := w) (o := .lst [.int 2147483647, .int 2147483629, .int 2147483587, .int 2147483579, .int 2147483563, .int 2147483549, .int 2147483543]) hp)
      have hx : ∃ q : Int, (atI [V.int 2147483647, .int 2147483629, .int 2147483587, .int 2147483579, .int 2147483563, .int 2147483549, .int 2147483543] ((c + 1) % 7)) = some (.int q) ∧ 0 < q ∧ q ≤ 2147483647 := by
        have h0 : 0 ≤ (c + 1) % 7 := Int.emod_nonneg _ (by decide)
        have h1 : (c + 1) % 7 < 7 := Int.emod_lt_of_pos _ (by decide)
        rcases (by omega : (c + 1) % 7 = 0 ∨ (c + 1) % 7 = 1 ∨ (c + 1) % 7 = 2 ∨ (c + 1) % 7 = 3 ∨ (c + 1) % 7 = 4 ∨ (c + 1) % 7 = 5 ∨ (c + 1) % 7 = 6) with e | e | e | e | e | e | e <;> rw [e] <;> exact ⟨_, rfl, by decide, by decide⟩
      obtain ⟨q, eq, q0, q1⟩ := hx
      refine ⟨_, rfl, w, _, _, _, rfl, rfl, SqL.of W2.at_, rfl, .inl ⟨_, rfl, _, _, rfl, rfl, (by show (0 : Int) < 7; decide), p, _, _, _, rfl, rfl, SqL.of upd_same, eq, ?_⟩⟩
      refine ⟨_, rfl, w, _, _, _, rfl, rfl, SqL.of W2.at_, rfl, _, rfl, w, _, _, _, rfl, rfl, SqL.of W2.at_, rfl, _, _, rfl, rfl, .inl ⟨by decide, by decide⟩, _, _, rfl, rfl, _, _, rfl, rfl, _, _, rfl, rfl, ⟨by decide, by decide, ?_⟩, ?_⟩
      · have := W.b0; have := W.b1; have := W.c0; have := W.c1
        omega
      refine .inl ⟨_, rfl, _, rfl, _, _, rfl, rfl, q0, ?_⟩
      have n0 := Int.emod_nonneg ((b + 7919 * (c + 1) + 1) ^ Int.toNat 5) (by omega : q ≠ 0)
      have n1 := Int.emod_lt_of_pos ((b + 7919 * (c + 1) + 1) ^ Int.toNat 5) q0
      refine ⟨_, rfl, _, rfl, w, _, _, _, rfl, rfl, SqL.of W2.at_, rfl, _, _, rfl, rfl, _, rfl, _, _, rfl, rfl, ⟨by decide, by decide⟩, _, _, rfl, rfl, _, _, rfl, rfl, .inl ⟨?_, ?_⟩, ?_⟩
      · have := W1.c0; omega
      · have := W1.c1; omega
      refine .inl ⟨_, rfl, _, rfl, _, _, rfl, rfl, q0, ?_⟩
      refine ⟨_, rfl, _, _, rfl, rfl, ⟨by decide, by decide⟩, .inl ⟨_, rfl, _, rfl, _, _, rfl, rfl, m0, ?_⟩⟩
      exact k _ _ _ _ (Int.emod_nonneg _ (by omega)) (Int.emod_lt_of_pos _ m0) (Int.le_refl _) W2 B2
theorem scO : FnScope ["_law_well_here", "_law_some"] ["_law_well_here", "_law_some"] (defScope sOne) := ⟨rfl, rfl, rfl, by decide +kernel, rfl, by decide +kernel, by decide +kernel⟩
theorem ok_one {f fD : Addr} {fd fdD : FuncData} (F : Fun K "_law_one" "_law_one" sOne f fd) (T : Txt0 mg) (FD : Fun K "_law_draw" "_law_draw" sDraw fD fdD) (gD : mg "_law_draw" = some (.ref fD)) (bD : Binds K fdD ["_law_well_here", "_law_below"] []) :
    FnOk P w K mg base CX0 2 f fd ["_law_well_here", "_law_some"] (spOne K) := by
  have GD : FnOk P w K mg base CX0 1 fD fdD ["_law_well_here", "_law_below"] spDraw := ok_draw FD T
  refine F.ok scO (fun vs H Q E h => ?_) (fun cdv A outer s H vs Q E hr h => ?_)
  · obtain ⟨w, l, a, b, c, xs, rfl, _⟩ := h
    rfl
  · obtain ⟨w, l, a, b, c, xs, rfl, W, hc, hl, nlw, l0, l1, k⟩ := h
    refine ⟨_, pss_one (ps_ret (pe_ix ix_list (pv 1) (pe_call GD hr rfl gD FD.kp bD .nil pass0 (pa_cons (pv 0) (pa_cons (pe_callB call_len (by rfl) T.len PySem.boot_len (pa_cons (pv 1) pa_nil)) pa_nil))) (fun _ _ => rfl))), ?_⟩
    refine ⟨_, rfl, _, rfl, _, rfl, _, _, rfl, .inl ⟨_, SqL.of hl, rfl⟩, w, a, b, c, _, rfl, W, hc, by omega, by omega, fun d a' c' H' d0 d1 hc' W' B => ?_⟩
    have hl' : H' l = some (.lst xs) := B _ _ hl nlw
    have hd : d.toNat < xs.length := by omega
    refine ⟨l, xs, d, xs[d.toNat], rfl, rfl, SqL.of hl', ?_, ?_⟩
    · have z := atI_nat (xs := xs) (j := d.toNat) (v := xs[d.toNat]) (by simp [hd])
      rwa [Int.toNat_of_nonneg d0] at z
    · exact k _ a' c' H' (List.getElem_mem hd) hc' W' B

/-- items of a list of trees -/
def Its (CU : Addr) (H : Hp) (xs : List V) (ds : List D) : Prop := xs.length = ds.length ∧ ∀ (i : Nat) (v : V) (d : D), xs[i]? = some v → ds[i]? = some d → Rep CU H v d
theorem Its.mono {H H' : Hp} {xs : List V} {ds : List D} (m : ∀ v d, Rep CU H v d → Rep CU H' v d) (h : Its CU H xs ds) : Its CU H' xs ds := ⟨h.1, fun i v d h1 h2 => m _ _ (h.2 i v d h1 h2)⟩
theorem Its.snoc {H : Hp} {xs : List V} {ds : List D} {v : V} {d : D} (h : Its CU H xs ds) (r : Rep CU H v d) : Its CU H (xs ++ [v]) (ds ++ [d]) := by
  refine ⟨by rw [List.length_append, List.length_append, h.1]; rfl, fun i v' d' h1 h2 => ?_⟩
  by_cases hi : i < xs.length
  · rw [List.getElem?_append_left hi] at h1
    rw [List.getElem?_append_left (by rw [← h.1]; exact hi)] at h2
    exact h.2 i v' d' h1 h2
  · have hl := (List.getElem?_eq_some_iff.mp h1).1
    rw [List.length_append] at hl
    have hl2 : i < xs.length + 1 := hl
    have e : i = xs.length := by omega
    subst e
    rw [List.getElem?_append_right (Nat.le_refl _), Nat.sub_self] at h1
    rw [h.1, List.getElem?_append_right (Nat.le_refl _), Nat.sub_self] at h2
    cases h1
    cases h2
    exact r
theorem Well.same {H H' : Hp} {p : Addr} {a b c : Int} (W : Well H p a b c) (m : Same H H') : Well H' p a b c := ⟨m _ _ W.at_, W.b0, W.b1, W.c0, W.c1⟩
theorem Well.rep {H H' : Hp} {p : Addr} {a b c : Int} {v : V} {d : D} (W : Well H p a b c) (m : But p H H') (h : Rep CU H v d) : Rep CU H' v d := h.but m W.at_ tr_lst
def spVal (CU : Addr) : Nat → Sp
  | 0 => fun vs _ _ _ => vs.length = 3 ∧ False
  | j + 1 => fun vs H Q _ => ∃ (w : Addr) (a b c dim : Int), vs = [.ref w, .int (j : Nat), .int dim] ∧ Well H w a b c ∧ c + 4 ^ (j + 1) < 1000000000000000 ∧
      ∀ (r : V) (d : D) (a' c' : Int) (H' : Hp), c' ≤ c + 4 ^ (j + 1) → Well H' w a' b c' → But w H H' → Rep CU H' r d → dep d ≤ j + 1 → Q r H'
theorem spVal_len {j : Nat} {vs : List V} {H : Hp} {Q : VK} {E : XK} (h : spVal CU j vs H Q E) : vs.length = 3 := by
  cases j with
  | zero => exact h.1
  | succ j =>
    obtain ⟨_, _, _, _, _, rfl, _⟩ := h
    rfl
theorem val0 {k : Nat} {f : Addr} {fd : FuncData} : FnOk P w K mg base CX0 k f fd ["_law_well_here", "_law_deep", "_law_dim"] (spVal CU 0) := ⟨fun _ _ _ _ h => h.1, fun _ _ _ _ _ _ _ _ _ _ _ _ _ h => h.2.elim⟩
theorem merge_nd : ∀ (ks : List Str) (vs : List V) (acc : List (Key × V)), ks.length = vs.length → ks.Nodup → (∀ k ∈ ks, ∀ p ∈ acc, p.1 ≠ Sum.inr k) → mergeK acc (mkv ks vs) = acc ++ mkv ks vs
  | [], [], acc, _, _, _ => by simp [mergeK, mkv]
  | k :: ks, v :: vs, acc, h, nd, ha => by
    have nd' := List.nodup_cons.mp nd
    have e : putK acc (Sum.inr k) v = acc ++ [(Sum.inr k, v)] := by
      unfold putK
      rw [if_neg]
      intro z
      obtain ⟨p, hp, e⟩ := List.any_eq_true.mp z
      exact ha k List.mem_cons_self p hp (of_decide_eq_true e)
    have ih := merge_nd ks vs (acc ++ [(Sum.inr k, v)]) (Nat.succ.inj h) nd'.2 (fun k' hk' p hp => by
      rcases List.mem_append.mp hp with hp | hp
      · exact ha k' (List.mem_cons_of_mem _ hk') p hp
      · rw [List.mem_singleton.mp hp]
        intro z
        cases z
        exact nd'.1 hk')
    show mergeK (putK acc (Sum.inr k) v) (mkv ks vs) = acc ++ ((Sum.inr k, v) :: mkv ks vs)
    rw [e, ih, List.append_assoc]
    rfl
theorem scLv : FnScope ["_law_well_here", "_law_deep", "_law_dim", "_law_way", "_law_some", "_law_k", "_law_value_here"] ["_law_well_here", "_law_deep", "_law_dim"] (defScope sLVal) := ⟨rfl, rfl, rfl, by decide +kernel, rfl, by decide +kernel, by decide +kernel⟩
end
end K04

namespace K04
open PySem L2 XR VT
section
variable {P : Program} {w : World} {K : PySem.W.Frag} {mg : Str → Option Value} {base : Heap} {CU : Addr}
def LV : Nat → Nat
  | 0 => 120
  | i + 1 => 3 * LV i + 60
/-- a drawn value -/
structure VG (j : Nat) (dim : Int) (d : D) : Prop where
  bd : BD 20 d
  dp : dep d ≤ j + 1
  le : ln d ≤ LV j
  nu : dim ≤ 0 → nou d = true
  gd : Gd d
  kn : dim ≤ 0 → Kn d
def VL (d : D) : Prop := BD 20 d ∧ dep d ≤ 1 ∧ ln d ≤ 120 ∧ nou d = true ∧ Gd d ∧ Kn d
theorem LV_ge : ∀ j, 120 ≤ LV j
  | 0 => Nat.le_refl _
  | j + 1 => by
    have := LV_ge j
    show 120 ≤ 3 * LV j + 60
    omega
theorem VL.vg {d : D} (h : VL d) (j : Nat) (dim : Int) : VG j dim d := ⟨h.1, by have := h.2.1; omega, Nat.le_trans h.2.2.1 (LV_ge j), fun _ => h.2.2.2.1, h.2.2.2.2.1, fun _ => h.2.2.2.2.2⟩
theorem vl_non : VL .non := ⟨.non, Nat.zero_le _, by decide, rfl, .non, .non⟩
theorem vl_bl (b : Bool) : VL (.bl b) := ⟨.bl b, Nat.zero_le _, (by show 5 ≤ 120; decide), rfl, .bl b, .bl b⟩
theorem vl_int {i : Int} (h1 : -100 ≤ i) (h2 : i ≤ 100) : VL (.int i) := ⟨.int i (Nat.lt_of_le_of_lt (by omega : i.natAbs ≤ 100) (by decide)), Nat.zero_le _, (by show 13 ≤ 120; decide), rfl, .int i, .int i⟩
theorem vl_str {x : Str} (h1 : PyData.strOk x = true) (h2 : x.length ≤ 10) (h3 : 35 ∉ x.cps.toList := by decide +kernel) : VL (.str x) := ⟨.str x h1 (by omega), Nat.zero_le _, (by show 10 * x.length + 2 ≤ 120; omega), rfl, .str x h3, .str x⟩
theorem vl_unit : VL (.tup []) := ⟨.tup (fun d h => nomatch h) (Nat.zero_le _), (by decide), by decide, rfl, .tup (fun d h => nomatch h), .tup (fun d h => nomatch h)⟩
theorem gd3 {m n : Str} {i : Int} (h1 : 35 ∉ m.cps.toList) (h2 : 35 ∉ n.cps.toList) : Gd (.tup [.str m, .str n, .int i]) := by
  refine .tup fun d hd => ?_
  simp only [List.mem_cons, List.not_mem_nil, or_false] at hd
  rcases hd with rfl | rfl | rfl
  · exact .str _ h1
  · exact .str _ h2
  · exact .int _
theorem kn3 {m n : Str} {i : Int} : Kn (.tup [.str m, .str n, .int i]) := by
  refine .tup fun d hd => ?_
  simp only [List.mem_cons, List.not_mem_nil, or_false] at hd
  rcases hd with rfl | rfl | rfl
  · exact .str _
  · exact .str _
  · exact .int _
theorem vl_tag {m n : Str} {i : Int} (hi : i.natAbs < 100) (h1 : PyData.strOk m = true) (h2 : m.length ≤ 4) (h3 : PyData.strOk n = true) (h4 : n.length ≤ 4) (g : Gd (.tup [.str m, .str n, .int i]) := by first | exact .tag (by decide +kernel) | exact gd3 (by decide +kernel) (by decide +kernel)) : VL (.tup [.str m, .str n, .int i]) := by
  refine ⟨.tup (fun d hd => ?_) (by show 3 ≤ 60; decide), Nat.le_refl _, ?_, rfl, g, kn3⟩
  · simp only [List.mem_cons, List.not_mem_nil, or_false] at hd
    rcases hd with rfl | rfl | rfl
    · exact .str _ h1 (by omega)
    · exact .str _ h3 (by omega)
    · exact .int _ (Nat.lt_trans hi (by decide))
  · show (10 * m.length + 2) + 2 + ((10 * n.length + 2) + 2 + (13 + 2 + 0)) + 4 ≤ 120
    omega
theorem lnL_le {B : Nat} : ∀ {l : List D}, (∀ d ∈ l, ln d ≤ B) → lnL l ≤ l.length * (B + 2)
  | [], _ => Nat.zero_le _
  | d :: l, h => by
    have h1 := h d List.mem_cons_self
    have h2 := lnL_le (l := l) fun x hx => h x (List.mem_cons_of_mem _ hx)
    show ln d + 2 + lnL l ≤ (l.length + 1) * (B + 2)
    rw [Nat.add_mul]
    omega
theorem nouL_of : ∀ {l : List D}, (∀ d ∈ l, nou d = true) → nouL l = true
  | [], _ => rfl
  | d :: l, h => by
    show (nou d && nouL l) = true
    rw [h d List.mem_cons_self, nouL_of fun x hx => h x (List.mem_cons_of_mem _ hx)]
    rfl
theorem vg_tup {j : Nat} {dim : Int} {ds : List D} (h : ∀ d ∈ ds, VG j dim d) (hl : ds.length ≤ 3) : VG (j + 1) dim (.tup ds) := by
  refine ⟨.tup (fun d hd => (h d hd).bd) (by omega), ?_, ?_, fun z => nouL_of fun d hd => (h d hd).nu z, .tup fun d hd => (h d hd).gd, fun z => .tup fun d hd => (h d hd).kn z⟩
  · rw [dep]
    have := depL_le fun d hd => (h d hd).dp
    omega
  · have h1 := lnL_le fun d hd => (h d hd).le
    have h2 : ds.length * (LV j + 2) ≤ 3 * (LV j + 2) := Nat.mul_le_mul_right _ hl
    show lnL ds + 4 ≤ 3 * LV j + 60
    omega
theorem vg_map {j : Nat} {dim : Int} {ks : List Str} {ds : List D} (h : ∀ d ∈ ds, VG j dim d) (hl : ds.length ≤ 3) (hk : lnK ks ≤ 48) (nd : ks.Nodup) (hkl : ks.length = ds.length) : VG (j + 1) dim (.map ks ds) := by
  refine ⟨.map (fun d hd => (h d hd).bd) (by omega), ?_, ?_, fun z => nouL_of fun d hd => (h d hd).nu z, .map nd hkl fun d hd => (h d hd).gd, fun z => .map fun d hd => (h d hd).kn z⟩
  · rw [dep]
    have := depL_le fun d hd => (h d hd).dp
    omega
  · have h1 := lnL_le fun d hd => (h d hd).le
    have h2 : ds.length * (LV j + 2) ≤ 3 * (LV j + 2) := Nat.mul_le_mul_right _ hl
    show lnK ks + lnL ds + 4 ≤ 3 * LV j + 60
    omega
def spV (CU : Addr) : Nat → Sp
  | 0 => fun vs _ _ _ => vs.length = 3 ∧ False
  | j + 1 => fun vs H Q _ => ∃ (w : Addr) (a b c dim : Int), vs = [.ref w, .int (j : Nat), .int dim] ∧ Well H w a b c ∧ c + 4 ^ (j + 1) < 1000000000000000 ∧
      ∀ (r : V) (d : D) (a' c' : Int) (H' : Hp), c' ≤ c + 4 ^ (j + 1) → Well H' w a' b c' → But w H H' → Rep CU (keepH (fun b => H b = none) H') r d → VG j dim d → Q r H'
theorem spV_len {j : Nat} {vs : List V} {H : Hp} {Q : VK} {E : XK} (h : spV CU j vs H Q E) : vs.length = 3 := by
  cases j with
  | zero => exact h.1
  | succ j =>
    obtain ⟨_, _, _, _, _, rfl, _⟩ := h
    rfl
theorem v0 {k : Nat} {f : Addr} {fd : FuncData} : FnOk P w K mg base CX0 k f fd ["_law_well_here", "_law_deep", "_law_dim"] (spV CU 0) := ⟨fun _ _ _ _ h => h.1, fun _ _ _ _ _ _ _ _ _ _ _ _ _ h => h.2.elim⟩
theorem but_none {H H' : Hp} {w b : Addr} {o : HO} (B : But w H H') (W : H' w = some o) (h : H' b = none) : H b = none := by
  cases e : H b with
  | none => rfl
  | some u =>
    rw [B _ _ e (fun z => by rw [z, W] at h; cases h)] at h
    cases h
theorem pow4 : ∀ j : Nat, (4 : Int) ≤ 4 ^ (j + 1)
  | 0 => by decide
  | j + 1 => by
    have := pow4 j
    rw [Int.pow_succ]
    omega
theorem rep_unit {H : Hp} {t : Addr} (h : H t = some (.tup [])) : Rep CU H (.ref t) (.tup []) := .tup h rfl (Nat.zero_le _) fun i v d hv _ => nomatch hv
theorem rep_tag {H : Hp} {t : Addr} {m n : Str} {i : Int} (h : H t = some (.tup [.str m, .str n, .int i])) (hm : TxOk m) (hn : TxOk n) : Rep CU H (.ref t) (.tup [.str m, .str n, .int i]) := by
  refine .tup h rfl (by show 3 ≤ 60; decide) fun j v d hv hd => ?_
  match j, hv, hd with
  | 0, hv, hd => cases hv; cases hd; exact .str _ hm
  | 1, hv, hd => cases hv; cases hd; exact .str _ hn
  | 2, hv, hd => cases hv; cases hd; exact .int _
theorem paired_of {α β : Type} {F : α → β → Prop} : ∀ {l : List α} {m : List β}, l.length = m.length → (∀ (i : Nat) x y, l[i]? = some x → m[i]? = some y → F x y) → PySem.Paired F l m
  | [], [], _, _ => .nil
  | x :: l, y :: m, h, hF => .cons (hF 0 x y rfl rfl) (paired_of (Nat.succ.inj h) fun i x y h1 h2 => hF (i + 1) x y h1 h2)
theorem rep_its {H : Hp} {t : Addr} {xs : List V} {ds : List D} (h : H t = some (.tup xs)) (hi : Its CU H xs ds) (hz : ds.length ≤ 60) : Rep CU H (.ref t) (.tup ds) := .tup h hi.1 hz hi.2
def abc : List Str := ["a", "b", "c"]
theorem abc_ln (n : Nat) : lnK (abc.take n) ≤ 48 := by
  match n with
  | 0 => decide
  | 1 => decide +kernel
  | 2 => decide +kernel
  | n + 3 =>
    have : abc.take (n + 3) = abc := List.take_of_length_le (by show 3 ≤ n + 3; omega)
    rw [this]
    decide +kernel
theorem ok_val {f fD fO : Addr} {fd dD dO : FuncData} {j k : Nat} (F : Fun K "_law_value" "_law_value" sLVal f fd) (T : Txt K mg CU) (BU : Bare K mg "Unknown" CU) (mR : mg "range" = none) (mE : mg "enumerate" = none)
    (GD : FnOk P w K mg base CX0 1 fD dD ["_law_well_here", "_law_below"] spDraw) (gD : mg "_law_draw" = some (.ref fD)) (kD : PySem.W.keepIn K (.ref fD) = true) (bD : Binds K dD ["_law_well_here", "_law_below"] [])
    (GO : FnOk P w K mg base CX0 2 fO dO ["_law_well_here", "_law_some"] (spOne K)) (gO : mg "_law_one" = some (.ref fO)) (kO : PySem.W.keepIn K (.ref fO) = true) (bO : Binds K dO ["_law_well_here", "_law_some"] [])
    (gK : mg "_law_value" = some (.ref f)) (bK : Binds K fd ["_law_well_here", "_law_deep", "_law_dim"] []) (hk : 2 ≤ k) (GK : FnOk P w K mg base CX0 k f fd ["_law_well_here", "_law_deep", "_law_dim"] (spV CU j)) :
    FnOk P w K mg base CX0 (k + 1) f fd ["_law_well_here", "_law_deep", "_law_dim"] (spV CU (j + 1)) := by
  have kK := F.kp
  refine F.ok scLv (fun vs H Q E h => spV_len h) (fun cdv A outer s H vs Q E hr h => ?_)
  obtain ⟨w, a, b, c, dim, rfl, W, hc, kk⟩ := h
  have hr1 : Room 1 _ := hr.mono (Nat.le_trans (by decide) hk)
  have hr2 : Room 2 _ := hr.mono hk
  have q4 := pow4 j
  have fin : ∀ (r : V) (d : D) (a' c' : Int) (H' : Hp), c' ≤ c + 4 → Well H' w a' b c' → But w H H' → Rep CU (keepH (fun b => H b = none) H') r d → VL d → Q r H' := fun r d a' c' H' h1 h2 h3 h4 h5 => kk r d a' c' H' (by omega) h2 h3 h4 (h5.vg _ _)
  refine ⟨_, (pss_cons (ps_if (pt_cmpR op_lt (pe_call GD hr1 rfl gD kD bD .nil pass0 (pa_cons (pv 0) (pa_cons pe_int pa_nil))) (pv 2) (nomark _)) (pss_one (ps_ret (pe_bare BU rfl))) pss_nil)
      (pss_cons (ps_set (i := 3) scLv.nd rfl (Or.inl rfl) (pe_call GD hr1 rfl gD kD bD .nil pass0 (pa_cons (pv 0) (pa_cons (pe_ifExp (pt_cmpR op_gt (pv 1) pe_int (nomark _)) pe_int pe_int) pa_nil))))
      (pss_cons (ps_if (pt_cmpR op_eq (pv 3) pe_int (nomark _)) (pss_one (ps_ret (pe_call GO hr2 rfl gO kO bO .nil pass0 (pa_cons (pv 0) (pa_cons (pe_lst (pa_cons pe_non (pa_cons (pe_cmpR op_eq pe_int pe_int (nomark _)) (pa_cons (pe_cmpR op_eq pe_int pe_int (nomark _)) (pa_cons pe_non pa_nil))))) pa_nil))))) pss_nil)
      (pss_cons (ps_if (pt_cmpR op_eq (pv 3) pe_int (nomark _)) (pss_one (ps_ret (pe_op op_sub (pe_call GD hr1 rfl gD kD bD .nil pass0 (pa_cons (pv 0) (pa_cons pe_int pa_nil))) pe_int))) pss_nil)
      (pss_cons (ps_if (pt_cmpR op_lt (pv 3) pe_int (nomark _)) (pss_one (ps_ret (pe_call GO hr2 rfl gO kO bO .nil pass0 (pa_cons (pv 0) (pa_cons (pe_lst (pa_cons pe_str (pa_cons pe_str (pa_cons pe_str (pa_cons pe_str (pa_cons pe_str (pa_cons pe_str pa_nil))))))) pa_nil))))) pss_nil)
      (pss_cons (ps_if (pt_cmpR op_lt (pv 3) pe_int (nomark _)) (pss_one (ps_ret (pe_call GO hr2 rfl gO kO bO .nil pass0 (pa_cons (pv 0) (pa_cons (pe_lst (pa_cons (pe_tup (pa_cons pe_str (pa_cons pe_str (pa_cons pe_int pa_nil)))) (pa_cons (pe_tup (pa_cons pe_str (pa_cons pe_str (pa_cons pe_int pa_nil)))) (pa_cons (pe_tup (pa_cons pe_str (pa_cons pe_str (pa_cons pe_int pa_nil)))) (pa_cons (pe_tup (pa_cons pe_str (pa_cons pe_str (pa_cons pe_int pa_nil)))) (pa_cons (pe_tup pa_nil) pa_nil)))))) pa_nil))))) pss_nil)
      (pss_cons (ps_setLc (i := 4) (own := [("_law_k", 5)]) (g := gName 5) (tt := tYes) rfl scLv.nd rfl rfl (sw_true rfl rfl rfl (by decide +kernel)) (pi_range1 (by rfl) mR (pa_cons (pe_call GD hr1 rfl gD kD bD .nil pass0 (pa_cons (pv 0) (pa_cons pe_int pa_nil))) pa_nil)) (blkOk_by (own := [("_law_k", 5)]) (N := ["_law_well_here", "_law_deep", "_law_dim", "_law_way", "_law_some", "_law_k", "_law_value_here"]) (sc := (defScope sLVal)) (by decide +kernel)) (fun _ _ _ _ _ => pg_name (i := 5) scLv.nd rfl (Or.inl rfl)) (fun _ _ _ _ _ => pts_nil) (fun _ _ _ _ _ => (pe_call GK hr rfl gK kK bK .nil pass0 (pa_cons (pv 0) (pa_cons (pe_op op_sub (pv 1) pe_int) (pa_cons (pv 2) pa_nil))))))
      (pss_cons (ps_if (pt_cmpR op_eq (pv 3) pe_int (nomark _)) (pss_one (ps_ret (pe_callTy call_tuple_of (by rfl) T.tuple (by decide +kernel) (pa_cons (pv 4) pa_nil)))) pss_nil)
      (pss_one (ps_ret (pe_callTy (call_dictP rfl) (by rfl) T.dict (by decide +kernel) (pa_cons (pe_lc (own := [("_law_k", 5), ("_law_value_here", 6)]) (g := gTup K 2 (gCons (gName 5) (gCons (gName 6) gNil))) (tt := tYes) (te := tTup (tCons (tOp (rIxL K) (tLst (tCons (tC (.str "a")) (tCons (tC (.str "b")) (tCons (tC (.str "c")) tNil)))) (tVar 5)) (tCons (tVar 6) tNil))) rfl scLv.nd (pi_enum (by rfl) mE (pa_cons (pv 4) pa_nil)) (blkOk_by (own := [("_law_k", 5), ("_law_value_here", 6)]) (N := ["_law_well_here", "_law_deep", "_law_dim", "_law_way", "_law_some", "_law_k", "_law_value_here"]) (sc := (defScope sLVal)) (by decide +kernel)) (fun _ _ _ _ _ => (pg_tup rfl (pgs_cons (pg_name (i := 5) scLv.nd rfl (Or.inl rfl)) (pgs_cons (pg_name (i := 6) scLv.nd rfl (Or.inl rfl)) pgs_nil)))) (fun _ _ _ _ _ => pts_nil) (fun _ _ _ _ _ => (pe_tup (pa_cons (pe_ix ix_list (pe_lst (pa_cons pe_str (pa_cons pe_str (pa_cons pe_str pa_nil)))) (pv 5) (fun _ _ => rfl)) (pa_cons (pv 6) pa_nil))))) pa_nil)))))))))))), ?_⟩
  refine ⟨_, rfl, w, a, b, c, 10, rfl, W, by omega, by decide, by decide, fun x1 a1 c1 H1 x10 x19 hc1 W1 B1 => ⟨_, rfl, _, _, rfl, rfl, _, rfl, ite2 (fun h0 => ?_) (fun h0 => ?_)⟩⟩
  · intro p dx h1 h2 h3
    have n1 : Same H1 (upd (upd H1 dx (.own p)) p (.ins CU dx [])) := (same_new h2).trans (same_new (by rw [upd_ne (Ne.symm h3)]; exact h1))
    have dp : 0 < dim := by
      have z := of_decide_eq_true h0
      omega
    exact kk _ .unk a1 c1 _ (by omega) (W1.same n1) (B1.trans (But.of n1)) (.unk (by rw [keep_at (but_none B1 W1.at_ h1)]; exact upd_same)) ⟨.unk, Nat.zero_le _, Nat.le_trans (by decide : 4 ≤ 120) (LV_ge _), fun z => absurd z (by omega), .unk, fun z => absurd z (by omega)⟩
  cases j with
  | zero =>
    refine ⟨_, rfl, _, rfl, _, _, rfl, rfl, _, rfl, iteF ?_⟩
    refine ⟨w, a1, b, c1, 6, rfl, W1, by omega, by decide, by decide, fun x2 a2 c2 H2 x20 x29 hc2 W2 B2' => ?_⟩
    have B2 := B1.trans B2'
    refine ⟨_, rfl, rfl, _, rfl, ?_⟩
    refine ite2 (fun w0 => ?_) (fun w0 => ?_)
    · refine ⟨_, rfl, rfl, rfl, (by show 4 ≤ sizeLine; decide), fun l hl => ?_⟩
      have nl : l ≠ w := fun z => by rw [z, W2.at_] at hl; cases hl
      refine ⟨w, l, a2, b, c2, _, rfl, W2.same (same_new hl), by omega, upd_same, nl, (by decide), (by decide), fun v a3 c3 H3 hv hc3 W3 B3 => ?_⟩
      have bb := B2.trans ((But.of (same_new hl)).trans B3)
      simp only [List.mem_cons, List.not_mem_nil, or_false] at hv
      rcases hv with rfl | rfl | rfl | rfl
      · exact fin _ .non a3 c3 H3 (by omega) W3 bb .non vl_non
      · exact fin _ (.bl _) a3 c3 H3 (by omega) W3 bb (.bl _) (vl_bl _)
      · exact fin _ (.bl _) a3 c3 H3 (by omega) W3 bb (.bl _) (vl_bl _)
      · exact fin _ .non a3 c3 H3 (by omega) W3 bb .non vl_non
    refine ⟨_, rfl, rfl, _, rfl, ?_⟩
    refine ite2 (fun w1 => ?_) (fun w1 => ?_)
    · exact ⟨_, rfl, w, a2, b, c2, 4, rfl, W2, by omega, by decide, by decide, fun x3 a3 c3 H3 x3a x3b hc3 W3 B3 => ⟨_, _, rfl, rfl, fin _ (.int _) a3 c3 H3 (by omega) W3 (B2.trans B3) (.int _) (vl_int (by omega) (by omega))⟩⟩
    refine ⟨_, rfl, _, _, rfl, rfl, _, rfl, ?_⟩
    refine ite2 (fun w3 => ?_) (fun w3 => ?_)
    · refine ⟨_, rfl, (by show 6 ≤ sizeLine; decide), fun l hl => ?_⟩
      have nl : l ≠ w := fun z => by rw [z, W2.at_] at hl; cases hl
      refine ⟨w, l, a2, b, c2, _, rfl, W2.same (same_new hl), by omega, upd_same, nl, (by decide), (by decide), fun v a3 c3 H3 hv hc3 W3 B3 => ?_⟩
      have bb := B2.trans ((But.of (same_new hl)).trans B3)
      simp only [List.mem_cons, List.not_mem_nil, or_false] at hv
      rcases hv with rfl | rfl | rfl | rfl | rfl | rfl <;> exact fin _ (.str _) a3 c3 H3 (by omega) W3 bb (.str _ ⟨by decide +kernel, by decide +kernel⟩) (vl_str (by decide +kernel) (by decide +kernel))
    refine ⟨_, rfl, _, _, rfl, rfl, _, rfl, ?_⟩
    refine ite2 (fun w5 => ?_) (fun w5 => ?_)
    · refine ⟨_, rfl, (by show 3 ≤ sizeLine; decide), fun t1 ht1 => ?_⟩
      have n1 := same_new (o := .tup [.str "#", .str "net", .int 1]) ht1
      have e1 := at_new (o := .tup [.str "#", .str "net", .int 1]) ht1
      generalize (upd H2 t1 (.tup [.str "#", .str "net", .int 1])) = G1 at n1 e1 ⊢
      refine ⟨(by show 3 ≤ sizeLine; decide), fun t2 ht2 => ?_⟩
      have n2 := same_new (o := .tup [.str "#", .str "net", .int 2]) ht2
      have e2 := at_new (o := .tup [.str "#", .str "net", .int 2]) ht2
      generalize (upd G1 t2 (.tup [.str "#", .str "net", .int 2])) = G2 at n2 e2 ⊢
      refine ⟨(by show 3 ≤ sizeLine; decide), fun t3 ht3 => ?_⟩
      have n3 := same_new (o := .tup [.str "#", .str "disk", .int 1]) ht3
      have e3 := at_new (o := .tup [.str "#", .str "disk", .int 1]) ht3
      generalize (upd G2 t3 (.tup [.str "#", .str "disk", .int 1])) = G3 at n3 e3 ⊢
      refine ⟨(by show 3 ≤ sizeLine; decide), fun t4 ht4 => ?_⟩
      have n4 := same_new (o := .tup [.str "id", .str "Net", .int 1]) ht4
      have e4 := at_new (o := .tup [.str "id", .str "Net", .int 1]) ht4
      generalize (upd G3 t4 (.tup [.str "id", .str "Net", .int 1])) = G4 at n4 e4 ⊢
      refine ⟨(by show 0 ≤ sizeLine; decide), fun t5 ht5 => ?_⟩
      have n5 := same_new (o := .tup []) ht5
      have e5 := at_new (o := .tup []) ht5
      generalize (upd G4 t5 (.tup [])) = G5 at n5 e5 ⊢
      refine ⟨(by show 5 ≤ sizeLine; decide), fun l hl => ?_⟩
      have n6 := same_new (o := .lst [.ref t1, .ref t2, .ref t3, .ref t4, .ref t5]) hl
      have e6 := at_new (o := .lst [.ref t1, .ref t2, .ref t3, .ref t4, .ref t5]) hl
      generalize (upd G5 l (.lst [.ref t1, .ref t2, .ref t3, .ref t4, .ref t5])) = G6 at n6 e6 ⊢
      have nt := ((((n1.trans n2).trans n3).trans n4).trans n5).trans n6
      have W9 := W2.same nt
      have nl : l ≠ w := fun z => by rw [z, (W2.same ((((n1.trans n2).trans n3).trans n4).trans n5)).at_] at hl; cases hl
      have k6 := n6
      have k5 := n5.trans k6
      have k4 := n4.trans k5
      have k3 := n3.trans k4
      have k2 := n2.trans k3
      refine ⟨w, l, a2, b, c2, _, rfl, W9, by omega, e6, nl, (by show 0 < 5; decide), (by show 5 < 1000; decide), fun v a3 c3 H3 hv hc3 W3 B3 => ?_⟩
      have bb := B2.trans ((But.of nt).trans B3)
      have kp : ∀ (t : Addr) (ys : List V), H t = none → G6 t = some (.tup ys) → keepH (fun b => H b = none) H3 t = some (.tup ys) := fun t ys hn e => by rw [keep_at hn]; exact B3 _ _ e (ne_of e W9.at_ (fun z => nomatch z))
      simp only [List.mem_cons, List.not_mem_nil, or_false] at hv
      rcases hv with rfl | rfl | rfl | rfl | rfl
      · exact fin _ _ a3 c3 H3 (by omega) W3 bb (rep_tag (kp _ _ (but_none B2 W2.at_ ht1) (k2 _ _ e1)) ⟨by decide +kernel, by decide +kernel⟩ ⟨by decide +kernel, by decide +kernel⟩) (vl_tag (by decide) (by decide +kernel) (by decide +kernel) (by decide +kernel) (by decide +kernel))
      · exact fin _ _ a3 c3 H3 (by omega) W3 bb (rep_tag (kp _ _ (but_none B2 W2.at_ (same_none n1 ht2)) (k3 _ _ e2)) ⟨by decide +kernel, by decide +kernel⟩ ⟨by decide +kernel, by decide +kernel⟩) (vl_tag (by decide) (by decide +kernel) (by decide +kernel) (by decide +kernel) (by decide +kernel))
      · exact fin _ _ a3 c3 H3 (by omega) W3 bb (rep_tag (kp _ _ (but_none B2 W2.at_ (same_none (n1.trans n2) ht3)) (k4 _ _ e3)) ⟨by decide +kernel, by decide +kernel⟩ ⟨by decide +kernel, by decide +kernel⟩) (vl_tag (by decide) (by decide +kernel) (by decide +kernel) (by decide +kernel) (by decide +kernel))
      · exact fin _ _ a3 c3 H3 (by omega) W3 bb (rep_tag (kp _ _ (but_none B2 W2.at_ (same_none ((n1.trans n2).trans n3) ht4)) (k5 _ _ e4)) ⟨by decide +kernel, by decide +kernel⟩ ⟨by decide +kernel, by decide +kernel⟩) (vl_tag (by decide) (by decide +kernel) (by decide +kernel) (by decide +kernel) (by decide +kernel))
      · exact fin _ _ a3 c3 H3 (by omega) W3 bb (rep_unit (kp _ _ (but_none B2 W2.at_ (same_none (((n1.trans n2).trans n3).trans n4) ht5)) (k6 _ _ e5))) vl_unit

    exact absurd (decide_eq_true (show x2 < 6 from x29)) w5
  | succ i =>
    refine ⟨_, rfl, _, rfl, _, _, rfl, rfl, _, rfl, ?_⟩
    have hd : (0 : Int) < ((i + 1 : Nat) : Int) := by omega
    rw [decide_eq_true hd]
    refine iteT ?_
    refine ⟨w, a1, b, c1, 8, rfl, W1, by omega, by decide, by decide, fun x2 a2 c2 H2 x20 x29 hc2 W2 B2' => ?_⟩
    have B2 := B1.trans B2'
    refine ⟨_, rfl, rfl, _, rfl, ?_⟩
    refine ite2 (fun w0 => ?_) (fun w0 => ?_)
    · refine ⟨_, rfl, rfl, rfl, (by show 4 ≤ sizeLine; decide), fun l hl => ?_⟩
      have nl : l ≠ w := fun z => by rw [z, W2.at_] at hl; cases hl
      refine ⟨w, l, a2, b, c2, _, rfl, W2.same (same_new hl), by omega, upd_same, nl, (by decide), (by decide), fun v a3 c3 H3 hv hc3 W3 B3 => ?_⟩
      have bb := B2.trans ((But.of (same_new hl)).trans B3)
      simp only [List.mem_cons, List.not_mem_nil, or_false] at hv
      rcases hv with rfl | rfl | rfl | rfl
      · exact fin _ .non a3 c3 H3 (by omega) W3 bb .non vl_non
      · exact fin _ (.bl _) a3 c3 H3 (by omega) W3 bb (.bl _) (vl_bl _)
      · exact fin _ (.bl _) a3 c3 H3 (by omega) W3 bb (.bl _) (vl_bl _)
      · exact fin _ .non a3 c3 H3 (by omega) W3 bb .non vl_non
    refine ⟨_, rfl, rfl, _, rfl, ?_⟩
    refine ite2 (fun w1 => ?_) (fun w1 => ?_)
    · exact ⟨_, rfl, w, a2, b, c2, 4, rfl, W2, by omega, by decide, by decide, fun x3 a3 c3 H3 x3a x3b hc3 W3 B3 => ⟨_, _, rfl, rfl, fin _ (.int _) a3 c3 H3 (by omega) W3 (B2.trans B3) (.int _) (vl_int (by omega) (by omega))⟩⟩
    refine ⟨_, rfl, _, _, rfl, rfl, _, rfl, ?_⟩
    refine ite2 (fun w3 => ?_) (fun w3 => ?_)
    · refine ⟨_, rfl, (by show 6 ≤ sizeLine; decide), fun l hl => ?_⟩
      have nl : l ≠ w := fun z => by rw [z, W2.at_] at hl; cases hl
      refine ⟨w, l, a2, b, c2, _, rfl, W2.same (same_new hl), by omega, upd_same, nl, (by decide), (by decide), fun v a3 c3 H3 hv hc3 W3 B3 => ?_⟩
      have bb := B2.trans ((But.of (same_new hl)).trans B3)
      simp only [List.mem_cons, List.not_mem_nil, or_false] at hv
      rcases hv with rfl | rfl | rfl | rfl | rfl | rfl <;> exact fin _ (.str _) a3 c3 H3 (by omega) W3 bb (.str _ ⟨by decide +kernel, by decide +kernel⟩) (vl_str (by decide +kernel) (by decide +kernel))
    refine ⟨_, rfl, _, _, rfl, rfl, _, rfl, ?_⟩
    refine ite2 (fun w5 => ?_) (fun w5 => ?_)
    · refine ⟨_, rfl, (by show 3 ≤ sizeLine; decide), fun t1 ht1 => ?_⟩
      have n1 := same_new (o := .tup [.str "#", .str "net", .int 1]) ht1
      have e1 := at_new (o := .tup [.str "#", .str "net", .int 1]) ht1
      generalize (upd H2 t1 (.tup [.str "#", .str "net", .int 1])) = G1 at n1 e1 ⊢
      refine ⟨(by show 3 ≤ sizeLine; decide), fun t2 ht2 => ?_⟩
      have n2 := same_new (o := .tup [.str "#", .str "net", .int 2]) ht2
      have e2 := at_new (o := .tup [.str "#", .str "net", .int 2]) ht2
      generalize (upd G1 t2 (.tup [.str "#", .str "net", .int 2])) = G2 at n2 e2 ⊢
      refine ⟨(by show 3 ≤ sizeLine; decide), fun t3 ht3 => ?_⟩
      have n3 := same_new (o := .tup [.str "#", .str "disk", .int 1]) ht3
      have e3 := at_new (o := .tup [.str "#", .str "disk", .int 1]) ht3
      generalize (upd G2 t3 (.tup [.str "#", .str "disk", .int 1])) = G3 at n3 e3 ⊢
      refine ⟨(by show 3 ≤ sizeLine; decide), fun t4 ht4 => ?_⟩
      have n4 := same_new (o := .tup [.str "id", .str "Net", .int 1]) ht4
      have e4 := at_new (o := .tup [.str "id", .str "Net", .int 1]) ht4
      generalize (upd G3 t4 (.tup [.str "id", .str "Net", .int 1])) = G4 at n4 e4 ⊢
      refine ⟨(by show 0 ≤ sizeLine; decide), fun t5 ht5 => ?_⟩
      have n5 := same_new (o := .tup []) ht5
      have e5 := at_new (o := .tup []) ht5
      generalize (upd G4 t5 (.tup [])) = G5 at n5 e5 ⊢
      refine ⟨(by show 5 ≤ sizeLine; decide), fun l hl => ?_⟩
      have n6 := same_new (o := .lst [.ref t1, .ref t2, .ref t3, .ref t4, .ref t5]) hl
      have e6 := at_new (o := .lst [.ref t1, .ref t2, .ref t3, .ref t4, .ref t5]) hl
      generalize (upd G5 l (.lst [.ref t1, .ref t2, .ref t3, .ref t4, .ref t5])) = G6 at n6 e6 ⊢
      have nt := ((((n1.trans n2).trans n3).trans n4).trans n5).trans n6
      have W9 := W2.same nt
      have nl : l ≠ w := fun z => by rw [z, (W2.same ((((n1.trans n2).trans n3).trans n4).trans n5)).at_] at hl; cases hl
      have k6 := n6
      have k5 := n5.trans k6
      have k4 := n4.trans k5
      have k3 := n3.trans k4
      have k2 := n2.trans k3
      refine ⟨w, l, a2, b, c2, _, rfl, W9, by omega, e6, nl, (by show 0 < 5; decide), (by show 5 < 1000; decide), fun v a3 c3 H3 hv hc3 W3 B3 => ?_⟩
      have bb := B2.trans ((But.of nt).trans B3)
      have kp : ∀ (t : Addr) (ys : List V), H t = none → G6 t = some (.tup ys) → keepH (fun b => H b = none) H3 t = some (.tup ys) := fun t ys hn e => by rw [keep_at hn]; exact B3 _ _ e (ne_of e W9.at_ (fun z => nomatch z))
      simp only [List.mem_cons, List.not_mem_nil, or_false] at hv
      rcases hv with rfl | rfl | rfl | rfl | rfl
      · exact fin _ _ a3 c3 H3 (by omega) W3 bb (rep_tag (kp _ _ (but_none B2 W2.at_ ht1) (k2 _ _ e1)) ⟨by decide +kernel, by decide +kernel⟩ ⟨by decide +kernel, by decide +kernel⟩) (vl_tag (by decide) (by decide +kernel) (by decide +kernel) (by decide +kernel) (by decide +kernel))
      · exact fin _ _ a3 c3 H3 (by omega) W3 bb (rep_tag (kp _ _ (but_none B2 W2.at_ (same_none n1 ht2)) (k3 _ _ e2)) ⟨by decide +kernel, by decide +kernel⟩ ⟨by decide +kernel, by decide +kernel⟩) (vl_tag (by decide) (by decide +kernel) (by decide +kernel) (by decide +kernel) (by decide +kernel))
      · exact fin _ _ a3 c3 H3 (by omega) W3 bb (rep_tag (kp _ _ (but_none B2 W2.at_ (same_none (n1.trans n2) ht3)) (k4 _ _ e3)) ⟨by decide +kernel, by decide +kernel⟩ ⟨by decide +kernel, by decide +kernel⟩) (vl_tag (by decide) (by decide +kernel) (by decide +kernel) (by decide +kernel) (by decide +kernel))
      · exact fin _ _ a3 c3 H3 (by omega) W3 bb (rep_tag (kp _ _ (but_none B2 W2.at_ (same_none ((n1.trans n2).trans n3) ht4)) (k5 _ _ e4)) ⟨by decide +kernel, by decide +kernel⟩ ⟨by decide +kernel, by decide +kernel⟩) (vl_tag (by decide) (by decide +kernel) (by decide +kernel) (by decide +kernel) (by decide +kernel))
      · exact fin _ _ a3 c3 H3 (by omega) W3 bb (rep_unit (kp _ _ (but_none B2 W2.at_ (same_none (((n1.trans n2).trans n3).trans n4) ht5)) (k6 _ _ e5))) vl_unit

    have p4 := pow4 i
    have e4 : (4 : Int) ^ (i + 1 + 1) = 4 ^ (i + 1) * 4 := Int.pow_succ _ _
    rw [e4] at hc kk
    generalize hP : (4 : Int) ^ (i + 1) = P4 at p4 hc kk
    refine ⟨_, rfl, w, a2, b, c2, 4, rfl, W2, by omega, by decide, by decide, fun x3 a3 c3 H3 x30 x31 hc3 W3 B3' => ⟨x3, rfl, by omega, by omega, fun D hD => ?_⟩⟩
    have B3 := B2.trans B3'
    have nDw : D ≠ w := Ne.symm (ne_of_none W3.at_ hD)
    have hm3 : (x3.toNat : Int) * P4 ≤ 3 * P4 := Int.mul_le_mul_of_nonneg_right (by omega) (by omega)
    refine lc_it walk_range (fun i' H' => But w H3 H' ∧ ∃ a' c', Well H' w a' b c' ∧ c' ≤ c3 + (i' : Int) * P4 ∧ ∃ acc ds, H' D = some (.lst acc) ∧ acc.length = i' ∧ Its CU (keepH (fun b => H b = none) H') acc ds ∧ ∀ d ∈ ds, VG i dim d) ?_ (fun _ _ _ _ => trivial) ?_ ?_
    · exact ⟨But.of (same_new hD), a3, c3, W3.same (same_new hD), by omega, [], [], upd_same, rfl, ⟨rfl, fun i v d h _ => nomatch h⟩, fun d h => nomatch h⟩
    · rintro i' x Ha Hb hi ⟨Bu, a', c', Wl, hcl, acc, ds, hD', hla, hI, hdp⟩ ⟨rfl, rfl⟩
      have hi3 : (i' : Int) * P4 ≤ 2 * P4 := Int.mul_le_mul_of_nonneg_right (by omega) (by omega)
      refine ⟨rfl, yes_i ⟨_, rfl, _, rfl, _, _, rfl, rfl, _, rfl, w, a', b, c', dim, ?_, Wl, by rw [hP]; omega, fun r d a'' c'' H'' hc'' W'' B'' R'' hd'' => ?_⟩⟩
      · show [V.ref w, V.int (((i + 1 : Nat) : Int) - 1), V.int dim] = [V.ref w, V.int i, V.int dim]
        rw [show (((i + 1 : Nat) : Int) - 1) = (i : Int) from by omega]
      rw [hP] at hc''
      have hDD := B'' _ _ hD' nDw
      refine ⟨acc, hDD, small1000 (by omega), fun q o e nq => ?_, a'', c'', ⟨by rw [upd_ne (Ne.symm nDw)]; exact W''.at_, W''.b0, W''.b1, W''.c0, W''.c1⟩, ?_, acc ++ [r], ds ++ [d], upd_same, by rw [List.length_append, hla]; rfl, ?_, fun d' hd' => ?_⟩
      · rw [upd_ne (ne_of_none e hD)]
        exact B'' _ _ (Bu _ _ e nq) nq
      · rw [show ((i' + 1 : Nat) : Int) = (i' : Int) + 1 from by omega, Int.add_mul]
        omega
      · exact (((hI.mono fun v d h => h.keepL B'' Wl.at_).snoc (R''.within fun b o q _ => but_none (B3.trans Bu) Wl.at_ q)).mono fun v d h => h.keepL But.upd hDD)
      · rcases List.mem_append.mp hd' with h | h
        · exact hdp d' h
        · rw [List.mem_singleton.mp h]
          exact hd''
    rintro H4 ⟨Bu, a4, c4, W4, hc4, acc, ds, hD4, hla, hI, hdp⟩
    have B4 := B3.trans Bu
    have hln : acc.length ≤ 3 := by omega
    have lds : ds.length ≤ 3 := by rw [← hI.1]; exact hln
    refine ⟨_, rfl, rfl, _, rfl, ?_⟩
    refine ite2 (fun w6 => ?_) (fun w6 => ?_)
    · refine ⟨_, rfl, D, acc, rfl, .inl ⟨SqL.of hD4, fun l hl => ?_⟩⟩
      exact kk _ (.tup ds) a4 c4 _ (by omega) (W4.same (same_new hl)) (B4.trans (But.of (same_new hl))) (rep_its (by rw [keep_at (but_none B4 W4.at_ hl)]; exact upd_same) (hI.mono fun v d h => h.keepS (same_new hl)) (by rw [← hI.1]; omega)) (vg_tup hdp lds)
    refine ⟨_, rfl, D, acc, rfl, SqL.of hD4, fun D2 hD2 => ?_⟩
    refine lc_rel walk_enum hD2 (small1000 (by omega)) (fun i H' v => ∃ t k x, v = .ref t ∧ abc[i]? = some k ∧ acc[i]? = some x ∧ H' t = some (.tup [.str k, x]))
      (fun i H H' v m ⟨t, k, x, e, h1, h2, h3⟩ => ⟨t, k, x, e, h1, h2, m _ _ h3⟩)
      (fun i H H' v l bu hl ⟨t, k, x, e, h1, h2, h3⟩ => ⟨t, k, x, e, h1, h2, bu _ _ h3 (ne_of h3 hl (fun z => nomatch z))⟩)
      (fun H' m => SqL.of (m _ _ hD4)) (fun i' x H6 H7 hi m hy N hN => ?_) mono_pair (fun H5 zs m f hlz hR => ?_)
    · obtain ⟨t, x1, y1, rfl, ht, rfl, ex, ey⟩ := hy
      cases ex
      have hi' : i' < abc.length := by show i' < 3; omega
      have ek : abc[i']? = some abc[i'] := List.getElem?_eq_getElem hi'
      have ak : atI [V.str "a", .str "b", .str "c"] (i' : Int) = some (.str abc[i']) := by
        refine atI_nat ?_
        show (abc.map V.str)[i']? = _
        rw [List.getElem?_map, ek]
        rfl
      refine ⟨t, _, rfl, SqT.of upd_same, rfl, _, _, rfl, _, _, rfl, rfl, rfl, (by show 3 ≤ sizeLine; decide), fun l hl => ⟨_, rfl, l, _, _, _, rfl, rfl, SqL.of upd_same, ak, _, rfl, (by show 2 ≤ sizeLine; decide), fun t2 ht2 => ?_⟩⟩
      exact hN _ _ (((same_new ht).trans (same_new hl)).trans (same_new ht2)) ⟨t2, _, _, rfl, ek, ey, upd_same⟩
    · obtain ⟨ts, rfl⟩ := refs_of fun i v e => let ⟨t, _, _, h, _⟩ := hR i v e; ⟨t, h⟩
      rw [List.length_map] at hlz
      have lk : (abc.take acc.length).length = acc.length := by
        rw [List.length_take]
        exact Nat.min_eq_left hln
      have ndk : (abc.take acc.length).Nodup := List.Nodup.sublist (List.take_sublist _ _) (by decide +kernel)
      refine ⟨D2, ts, mkv (abc.take acc.length) acc, rfl, SqL.of f, paired_of (by rw [mkv_length lk, lk]; exact hlz) (fun q t kv ht hkv => ?_), fun p hp => ?_⟩
      · obtain ⟨t', k, x, et, ek, ex, eo⟩ := hR q (.ref t) (by rw [List.getElem?_map, ht]; rfl)
        cases et
        obtain ⟨k0, v0⟩ := kv
        obtain ⟨k', ek', rfl, ev'⟩ := mkv_get hkv
        rw [ex] at ev'
        cases ev'
        have hq : q < acc.length := (List.getElem?_eq_some_iff.mp ex).1
        rw [List.getElem?_take_of_lt hq, ek] at ek'
        cases ek'
        exact SqT.of eo
      · have em := merge_nd (abc.take acc.length) acc [] lk ndk (fun _ _ p hp => nomatch hp)
        rw [List.nil_append] at em
        rw [em]
        have n5 := m.trans (same_new (o := .dK (mkv (abc.take acc.length) acc)) hp)
        refine kk _ (.map (abc.take acc.length) ds) a4 c4 _ (by omega) (W4.same n5) (B4.trans (But.of n5)) (.map (by rw [keep_at (but_none B4 W4.at_ (same_none m hp))]; exact upd_same) hI.1 (lk.trans hI.1) (by rw [← hI.1]; omega) ndk (fun k hk => ?_) (fun i v d h1 h2 => (hI.2 i v d h1 h2).keepS n5)) (vg_map hdp lds (abc_ln _) ndk (lk.trans hI.1))
        have : ∀ k ∈ abc, TxOk k := by
          intro k hk
          simp only [abc, List.mem_cons, List.not_mem_nil, or_false] at hk
          rcases hk with rfl | rfl | rfl <;> exact ⟨by decide +kernel, by decide +kernel⟩
        exact this k (List.mem_of_mem_take hk)
end
end K04

namespace K04
open PySem L2 XR VT
abbrev sCop : Stmt := top 16
def spCop (CU : Addr) (n : Nat) : Sp := fun vs H Q _ => ∃ (v : V) (d : D), vs = [v] ∧ Rep CU H v d ∧ dep d < n ∧ ∀ (r : V) (H' : Hp), Same H H' → (∀ P, Rep CU (keepH P H) v d → (∀ b, H b = none → P b) → Rep CU (keepH P H') r d) → Q r H'
theorem spCop_len {CU : Addr} {n : Nat} {vs : List V} {H : Hp} {Q : VK} {E : XK} (h : spCop CU n vs H Q E) : vs.length = 1 := by
  obtain ⟨v, d, rfl, _⟩ := h
  rfl
section
variable {P : Program} {w : World} {K : PySem.W.Frag} {mg : Str → Option Value} {base : Heap} {CU : Addr}
theorem cop0 {k : Nat} {f : Addr} {fd : FuncData} : FnOk P w K mg base CX0 k f fd ["value"] (spCop CU 0) := ⟨fun _ _ _ _ h => spCop_len h, fun _ _ _ _ _ _ _ _ _ _ _ _ _ ⟨_, _, _, _, z, _⟩ => absurd z (Nat.not_lt_zero _)⟩
theorem scCo : FnScope ["value", "item", "key"] ["value"] (defScope sCop) := ⟨rfl, rfl, rfl, by decide +kernel, rfl, by decide +kernel, by decide +kernel⟩
theorem ok_cop {f : Addr} {fd : FuncData} {n k : Nat} (F : Fun K "copied" "copied" sCop f fd) (T : Txt K mg CU) (gK : mg "copied" = some (.ref f)) (bK : Binds K fd ["value"] []) (GK : FnOk P w K mg base CX0 k f fd ["value"] (spCop CU n)) : FnOk P w K mg base CX0 (k + 1) f fd ["value"] (spCop CU (n + 1)) := by
  have kK := F.kp
  refine F.ok scCo (fun vs H Q E h => spCop_len h) (fun cdv A outer s H vs Q E hr h => ?_)
  obtain ⟨v, d, rfl, hd, hn, kk⟩ := h
  have hu := hu_of hr
  refine ⟨_, (pss_cons (ps_if (pt_val (pe_callB call_isi (by rfl) T.isi (by decide +kernel) (pa_cons (pv 0) (pa_cons (pe_bltn (v := .ty "tuple") (by rfl) T.tuple (by decide +kernel) rfl) pa_nil)))) (pss_one (ps_ret (pe_callTy call_tuple_of (by rfl) T.tuple (by decide +kernel) (pa_cons (pe_lc (own := [("item", 1)]) (g := gName 1) (tt := tYes) rfl scCo.nd (pi_tup (pv 0)) (blkOk_by (own := [("item", 1)]) (N := ["value", "item", "key"]) (sc := (defScope sCop)) (by decide +kernel)) (fun _ _ _ _ _ => pg_name (i := 1) scCo.nd rfl (Or.inl rfl)) (fun _ _ _ _ _ => pts_nil) (fun _ _ _ _ _ => (pe_call GK hr rfl gK kK bK .nil pass0 (pa_cons (pv 1) pa_nil)))) pa_nil)))) pss_nil)
      (pss_cons (ps_if (pt_val (pe_callB call_isi (by rfl) T.isi (by decide +kernel) (pa_cons (pv 0) (pa_cons (pe_bltn (v := .ty "dict") (by rfl) T.dict (by decide +kernel) rfl) pa_nil)))) (pss_one (ps_ret (pe_lock (pe_dc (own := [("key", 2)]) (g := gName 2) (tt := tYes) rfl scCo.nd (pi_keys (pv 0)) (blkOk_by (own := [("key", 2)]) (N := ["value", "item", "key"]) (sc := (defScope sCop)) (by decide +kernel)) (fun _ _ _ _ _ => pg_name (i := 2) scCo.nd rfl (Or.inl rfl)) (fun _ _ _ _ _ => pts_nil) (fun _ _ _ _ _ => (pv 2)) (fun _ _ _ _ _ => (pe_call GK hr rfl gK kK bK .nil pass0 (pa_cons (pe_dget hu (pv 0) (pv 2) (fun _ _ => rfl)) pa_nil))))))) pss_nil)
      (pss_one (ps_ret (pv 0))))), ?_⟩
  have tv := Rep.ty T hd
  refine ⟨_, rfl, _, _, _, _, _, rfl, .ty _, tv, T.kit "tuple" (by decide) _, _, rfl, ?_⟩
  cases hd with
  | @tup a xs ds h hl hz hs =>
    have hdl : depL ds < n := by rw [dep] at hn; omega
    refine iteT ⟨_, rfl, a, rfl, ⟨_, SqT.of h⟩, fun D hD => ?_⟩
    refine lc_relX walk_tup hD (by rw [hl]; exact small1000 (by omega)) (fun i H' v => ∀ di, ds[i]? = some di → ∀ P, Rep CU (keepH P H) (.ref a) (.tup ds) → (∀ b, H b = none → P b) → Rep CU (keepH P H') v di)
      (fun i H H' v m h di e P r p => (h di e P r p).keepS m) (fun i H H' v l bu e0 h di e P r p => (h di e P r p).keepL bu e0) (fun H' m => SqT.of (m _ _ h)) (fun i x H6 H7 hi m pr hy N hN => ?_) mono_name (fun H' zs m f hlz hR => ?_)
    · obtain ⟨rfl, hx⟩ := hy
      have dj : ds[i]? = some ds[i] := List.getElem?_eq_getElem (by omega)
      refine ⟨rfl, _, rfl, x, ds[i], rfl, (hs i x _ hx dj).same m, Nat.lt_of_le_of_lt (dep_mem (List.mem_of_getElem? dj)) hdl, fun r H8 m8 hr8 => hN r H8 m8 fun di edi P rP nP => ?_⟩
      rw [dj] at edi
      cases edi
      have hP : P a := by
        cases rP with
        | tup h' => exact (keep_some h').1
      obtain ⟨_, _, kids⟩ := rP.tupKid (by rw [keep_at hP]; exact h)
      exact hr8 P ((kids i x _ hx dj).keepS m) fun b hb => nP b (same_none m hb)
    · refine ⟨D, zs, rfl, .inl ⟨SqL.of f, fun p hp => ?_⟩⟩
      have n2 := same_new (o := .tup zs) hp
      have f2 := at_new (o := .tup zs) hp
      generalize (upd H' p (.tup zs)) = H2 at n2 f2 ⊢
      refine kk _ _ (m.trans n2) fun P rP nP => ?_
      refine .tup (by rw [keep_at (nP p (same_none m hp))]; exact f2) (by omega) hz fun i v di hv hdi => ?_
      exact (hR i v hv di hdi P rP nP).keepS n2
  | @map a vs ks ds h hv hk hz nd ko hs =>
    refine iteF ⟨_, rfl, _, _, _, _, _, rfl, .ty _, tv, T.kit "dict" (by decide) _, _, rfl, iteT ?_⟩
    have hdl : depL ds < n := by rw [dep] at hn; omega
    have hrep : Rep CU H (.ref a) (.map ks ds) := .map h hv hk hz nd ko hs
    refine ⟨a, _, h, trivial, fun od => ?_⟩
    refine ⟨_, rfl, a, od, rfl, .inl ⟨_, upd_same, fun D hD => ?_⟩⟩
    have lkv : (mkv ks vs).length = ks.length := mkv_length (hk.trans hv.symm)
    have nDa : D ≠ a := fun z => by
      rw [z, upd_same] at hD
      cases hD
    have hD0 : H D = none := by rw [upd_ne nDa] at hD; exact hD
    refine dc_rel walk_keys hD ks lkv.symm nd (by rw [lkv]; exact small1000 (by omega)) (fun i H' v => ∀ di, ds[i]? = some di → ∀ P, Rep CU (keepH P H) (.ref a) (.map ks ds) → (∀ b, H b = none → P b) → Rep CU (keepH (fun b => P b ∧ b ≠ D) H') v di)
      (fun i H H' v m h di e P r p => (h di e P r p).keepS m) (fun i H H' v bu h di e P r p => (h di e P r p).same (keep_but bu)) (fun H' m => m _ _ upd_same) (fun i x k0 H6 H7 hki m fD pr hy N hN => ?_) mono_name (fun H' ys m f hly hR => ?_)
    · obtain ⟨rfl, ky, vy, hx, rfl⟩ := hy
      obtain ⟨k1, hk1, rfl, hv1⟩ := mkv_get hx
      rw [hki] at hk1
      cases hk1
      have hil : i < ks.length := (List.getElem?_eq_some_iff.mp hki).1
      have dj : ds[i]? = some ds[i] := List.getElem?_eq_getElem (by omega)
      have hm := List.mem_of_getElem? dj
      have hr1 : Rep CU (upd H a (.frz od (.dK (mkv ks vs)))) vy ds[i] := Rep.off hrep (hs i vy _ hv1 dj) (by rw [sz]; have := sz_mem hm; omega)
      refine ⟨rfl, _, rfl, _, rfl, _, rfl, a, vy, rfl, .inl ⟨_, Sum.inr k0, .inr ⟨od, m _ _ upd_same⟩, rfl, (mkv_val nd hki hv1).symm⟩, vy, ds[i], rfl, hr1.same m, Nat.lt_of_le_of_lt (dep_mem hm) hdl, fun r H8 m8 hr8 => hN r H8 m8 fun di edi P rP nP => ?_⟩
      rw [dj] at edi
      cases edi
      have hP : P a := by
        cases rP with
        | map h' => exact (keep_some h').1
      obtain ⟨vs', evs, lvs, _, _, _, _, kids⟩ := rP.mapKid (by rw [keep_at hP]; exact h)
      obtain ⟨_, e2⟩ := mkv_inj (hk.trans hv.symm) (hk.trans lvs.symm) evs
      subst e2
      have c1 := Rep.off (o := .frz od (.dK (mkv ks vs))) rP (kids i vy _ hv1 dj) (by rw [sz]; have := sz_mem hm; omega)
      rw [← keep_upd hP] at c1
      refine hr8 _ (c1.notNew hD m) fun b hb => ⟨nP b ?_, fun z => fD (z ▸ hb)⟩
      have hb2 := same_none m hb
      by_cases hba : b = a
      · rw [hba, upd_same] at hb2
        cases hb2
      · rw [upd_ne hba] at hb2
        exact hb2
    · have fr := m _ _ (upd_same (H := H) (a := a) (o := .frz od (.dK (mkv ks vs))))
      have m3 := same_lock h m
      refine ⟨fr, kk _ _ m3 fun P rP nP => ?_⟩
      refine .map (by rw [keep_at (nP D hD0), upd_ne nDa]; exact f) (by rw [hly, lkv, hk]) hk hz nd ko fun i v di hv' hdi => ?_
      exact keep_unlock fr ((hR i v hv' di hdi P rP nP).within fun b o p _ => p.1)
  | _ => exact iteF ⟨_, rfl, _, _, _, _, _, rfl, .ty _, tv, T.kit "dict" (by decide) _, _, rfl, iteF ⟨_, rfl, kk _ H (fun _ _ z => z) fun P rP _ => rP⟩⟩
end
end K04

namespace K04
open PySem L2 XR VT
abbrev sPick : Stmt := top 23
/-- a Misfit with e leaves -/
def Mis (CM : Addr) (e : V) (H : Hp) (E : XK) : Prop := ∀ (dx : Addr) (H' : Hp), Same H H' → H' dx = some (.xd [("expression", e)]) → E (.ref CM) (some dx) H'
theorem Mis.raise {CM : Addr} {e : V} {H H1 : Hp} {E : XK} (h : Mis CM e H E) (m : Same H H1) : RaiseK CM "expression" e H1 (fun cls d H' => E cls d H') := raiseK fun d H' _ m2 f => h d H' (m.trans m2) f
def spPick (CU CM : Addr) : Sp := fun vs H Q E => ∃ (e v k : V) (dv dk : D), vs = [e, v, k] ∧ Rep CU H v dv ∧ Rep CU H k dk ∧
  (∀ (d : D) (r : V) (H' : Hp), pck dv dk = some d → Same H H' → (∀ P, Rep CU (keepH P H) v dv → Rep CU (keepH P H) k dk → Rep CU (keepH P H) r d) → Q r H') ∧ (pck dv dk = none → Mis CM e H E)
section
variable {P : Program} {w : World} {K : PySem.W.Frag} {mg : Str → Option Value} {base : Heap} {CU : Addr}
variable {CM CP : Addr}
theorem kit2 (T : Txt K mg CU) (t : String) (ht : t ∈ tys) (d : D) : PySem.W.kitAny K (tyD CU d) [.type t, .ref CU] = some (isD t d || isU d) := by
  refine kitAny_cons (T.kit t ht d) (fun e => ?_) (fun e => by rw [e]; rfl)
  refine kitAny_cons (T.kU d) (fun e2 => ?_) (fun e2 => by rw [e2]; simp)
  rw [kitAny_nil, e, e2]
  rfl
theorem scPi : FnScope ["expression", "value", "key", "is_list"] ["expression", "value", "key"] (defScope sPick) := ⟨rfl, rfl, rfl, by decide +kernel, rfl, by decide +kernel, by decide +kernel⟩
theorem ok_pick {f fT fI fM : Addr} {fd dT dI dM : FuncData} (F : Fun K "picked" "picked" sPick f fd) (T : Txt K mg CU) (NM : New1 P w K mg base CP "Misfit" "expression" CM fM dM)
    (GT : FnOk P w K mg base CX0 2 fT dT ["thing"] (spD CU fun d => .bl (tagD d))) (gT : mg "is_tag" = some (.ref fT)) (kT : PySem.W.keepIn K (.ref fT) = true) (bT : Binds K dT ["thing"] [])
    (GI : FnOk P w K mg base CX0 1 fI dI ["thing"] (spD CU fun d => .bl (intD d))) (gI : mg "is_integer" = some (.ref fI)) (kI : PySem.W.keepIn K (.ref fI) = true) (bI : Binds K dI ["thing"] []) :
    FnOk P w K mg base (L2.CX P w) 3 f fd ["expression", "value", "key"] (spPick CU CM) := by
  refine F.okX scPi (fun vs H Q E h => ?_) (fun cdv A outer s H vs Q E hr h => ?_)
  · obtain ⟨e, v, k, dv, dk, rfl, _⟩ := h
    rfl
  obtain ⟨e, v, k, dv, dk, rfl, hv, hk, kok, kno⟩ := h
  have hr2 : Room 2 _ := hr
  have hrM : Room 2 _ := hr
  have hr1 : Room 1 _ := hr.mono (by decide)
  have hu := hu_of hr
  refine ⟨_, (pss_cons (ps_set (i := 3) scPi.nd rfl (Or.inl rfl) (pe_and (pe_callB call_isi (by rfl) T.isi (by decide +kernel) (pa_cons (pv 1) (pa_cons (pe_bltn (v := .ty "tuple") (by rfl) T.tuple (by decide +kernel) rfl) pa_nil))) (pe_one (pe_not (pe_call GT hr2 rfl gT kT bT .nil pass0 (pa_cons (pv 1) pa_nil))))))
      (pss_cons (ps_if (PW.pt (pw_and (pt_not (pt_val (pv 3))) (pw_and1 (pt_not (pt_val (pe_callB call_isiT (by rfl) T.isi (by decide +kernel) (pa_cons (pv 1) (pa_cons (pe_tup (pa_cons (pe_bltn (v := .ty "dict") (by rfl) T.dict (by decide +kernel) rfl) (pa_cons (pe_glob (v := .ref CU) rfl T.gU rfl) pa_nil))) pa_nil)))))))) (pss_one (ps_raiseI NM rfl hrM (takes_of rfl rfl rfl rfl) rfl (pv 0))) pss_nil)
      (pss_cons (ps_if (PW.pt (pw_and (pt_not (pt_val (pe_callB call_isiT (by rfl) T.isi (by decide +kernel) (pa_cons (pv 2) (pa_cons (pe_tup (pa_cons (pe_bltn (v := .ty "str") (by rfl) T.str (by decide +kernel) rfl) (pa_cons (pe_glob (v := .ref CU) rfl T.gU rfl) pa_nil))) pa_nil))))) (pw_and1 (PW.pt (pw_or (pt_not (pt_val (pe_call GI hr1 rfl gI kI bI .nil pass0 (pa_cons (pv 2) pa_nil)))) (pw_or1 (pt_cmpR op_lt (pv 2) pe_int (nomark _)))))))) (pss_one (ps_raiseI NM rfl hrM (takes_of rfl rfl rfl rfl) rfl (pv 0))) pss_nil)
      (pss_cons (ps_if (pt_val (pe_callB call_isi (by rfl) T.isi (by decide +kernel) (pa_cons (pv 1) (pa_cons (pe_glob (v := .ref CU) rfl T.gU rfl) pa_nil)))) (pss_one (ps_ret (pv 1))) pss_nil)
      (pss_cons (ps_if (pt_val (pe_callB call_isi (by rfl) T.isi (by decide +kernel) (pa_cons (pv 2) (pa_cons (pe_glob (v := .ref CU) rfl T.gU rfl) pa_nil)))) (pss_one (ps_ret (pv 2))) pss_nil)
      (pss_cons (ps_if (pt_val (pe_callB call_isi (by rfl) T.isi (by decide +kernel) (pa_cons (pv 1) (pa_cons (pe_bltn (v := .ty "dict") (by rfl) T.dict (by decide +kernel) rfl) pa_nil)))) (pss_cons (ps_if (PW.pt (pw_or (pt_not (pt_val (pe_callB call_isi (by rfl) T.isi (by decide +kernel) (pa_cons (pv 2) (pa_cons (pe_bltn (v := .ty "str") (by rfl) T.str (by decide +kernel) rfl) pa_nil))))) (pw_or1 (pt_cmp (pc_dnotin hu (pv 2) (pv 1)))))) (pss_one (ps_raiseI NM rfl hrM (takes_of rfl rfl rfl rfl) rfl (pv 0))) pss_nil)
        (pss_one (ps_ret (pe_dget hu (pv 1) (pv 2) (fun _ _ => rfl))))) pss_nil)
      (pss_cons (ps_if (PW.pt (pw_or (pt_not (pt_val (pe_call GI hr1 rfl gI kI bI .nil pass0 (pa_cons (pv 2) pa_nil)))) (pw_or1 (pt_not (pt_chain op_le op_lt pe_int (pv 2) (pe_callB call_len (by rfl) T.len (by decide +kernel) (pa_cons (pv 1) pa_nil))))))) (pss_one (ps_raiseI NM rfl hrM (takes_of rfl rfl rfl rfl) rfl (pv 0))) pss_nil)
      (pss_one (ps_ret (pe_ix ix_tup (pv 1) (pv 2) (fun _ _ => rfl))))))))))), ?_⟩
  have hty := Rep.ty T hv
  refine ⟨_, rfl, _, _, _, _, _, rfl, .ty _, hty, T.kit "tuple" (by decide) dv, _, rfl, ?_⟩
  have hv' := hv
  cases hv' with
  | non =>
    refine iteF ⟨_, rfl, _, rfl, ?_⟩
    have m0 : Same H H := fun _ _ z => z
    refine iteT ⟨_, rfl, (by show 2 ≤ sizeLine; decide), fun tp htp => ?_⟩
    have n1 := same_new (o := .tup [.ty "dict", .ref CU]) htp
    have f1 := at_new (o := .tup [.ty "dict", .ref CU]) htp
    generalize (upd H tp (.tup [.ty "dict", .ref CU])) = H1 at n1 f1 ⊢
    have m1 := m0.trans n1
    refine ⟨_, tp, _, _, _, _, rfl, f1, .cons (.ty _) (.cons (.own _) .nil), Rep.ty T (hv.same m1), kit2 T "dict" (by decide) _, _, rfl, iteT ⟨_, rfl, (kno rfl).raise m1⟩⟩
  | bl b0 =>
    refine iteF ⟨_, rfl, _, rfl, ?_⟩
    have m0 : Same H H := fun _ _ z => z
    refine iteT ⟨_, rfl, (by show 2 ≤ sizeLine; decide), fun tp htp => ?_⟩
    have n1 := same_new (o := .tup [.ty "dict", .ref CU]) htp
    have f1 := at_new (o := .tup [.ty "dict", .ref CU]) htp
    generalize (upd H tp (.tup [.ty "dict", .ref CU])) = H1 at n1 f1 ⊢
    have m1 := m0.trans n1
    refine ⟨_, tp, _, _, _, _, rfl, f1, .cons (.ty _) (.cons (.own _) .nil), Rep.ty T (hv.same m1), kit2 T "dict" (by decide) _, _, rfl, iteT ⟨_, rfl, (kno rfl).raise m1⟩⟩
  | int i0 =>
    refine iteF ⟨_, rfl, _, rfl, ?_⟩
    have m0 : Same H H := fun _ _ z => z
    refine iteT ⟨_, rfl, (by show 2 ≤ sizeLine; decide), fun tp htp => ?_⟩
    have n1 := same_new (o := .tup [.ty "dict", .ref CU]) htp
    have f1 := at_new (o := .tup [.ty "dict", .ref CU]) htp
    generalize (upd H tp (.tup [.ty "dict", .ref CU])) = H1 at n1 f1 ⊢
    have m1 := m0.trans n1
    refine ⟨_, tp, _, _, _, _, rfl, f1, .cons (.ty _) (.cons (.own _) .nil), Rep.ty T (hv.same m1), kit2 T "dict" (by decide) _, _, rfl, iteT ⟨_, rfl, (kno rfl).raise m1⟩⟩
  | str x0 hx0 =>
    refine iteF ⟨_, rfl, _, rfl, ?_⟩
    have m0 : Same H H := fun _ _ z => z
    refine iteT ⟨_, rfl, (by show 2 ≤ sizeLine; decide), fun tp htp => ?_⟩
    have n1 := same_new (o := .tup [.ty "dict", .ref CU]) htp
    have f1 := at_new (o := .tup [.ty "dict", .ref CU]) htp
    generalize (upd H tp (.tup [.ty "dict", .ref CU])) = H1 at n1 f1 ⊢
    have m1 := m0.trans n1
    refine ⟨_, tp, _, _, _, _, rfl, f1, .cons (.ty _) (.cons (.own _) .nil), Rep.ty T (hv.same m1), kit2 T "dict" (by decide) _, _, rfl, iteT ⟨_, rfl, (kno rfl).raise m1⟩⟩
  | unk hvu =>
    refine iteF ⟨_, rfl, _, rfl, ?_⟩
    have m0 : Same H H := fun _ _ z => z
    refine iteT ⟨_, rfl, (by show 2 ≤ sizeLine; decide), fun tp htp => ?_⟩
    have n1 := same_new (o := .tup [.ty "dict", .ref CU]) htp
    have f1 := at_new (o := .tup [.ty "dict", .ref CU]) htp
    generalize (upd H tp (.tup [.ty "dict", .ref CU])) = H1 at n1 f1 ⊢
    have m1 := m0.trans n1
    refine ⟨_, tp, _, _, _, _, rfl, f1, .cons (.ty _) (.cons (.own _) .nil), Rep.ty T (hv.same m1), kit2 T "dict" (by decide) _, _, rfl, iteF ?_⟩
    refine ⟨_, rfl, (by show 2 ≤ sizeLine; decide), fun tp2 htp2 => ?_⟩
    have n2 := same_new (o := .tup [.ty "str", .ref CU]) htp2
    have f2 := at_new (o := .tup [.ty "str", .ref CU]) htp2
    generalize (upd H1 tp2 (.tup [.ty "str", .ref CU])) = H2 at n2 f2 ⊢
    have m2 := m1.trans n2
    have tv2 := Rep.ty T (hv.same m2)
    have tk2 := Rep.ty T (hk.same m2)
    refine ⟨_, tp2, _, _, _, _, rfl, f2, .cons (.ty _) (.cons (.own _) .nil), tk2, kit2 T "str" (by decide) dk, _, rfl, ?_⟩
    cases hk with
    | str y hy =>
      refine iteF (iteF ?_)
      exact ⟨_, rfl, _, _, _, _, _, rfl, .own _, Rep.ty T (hv.same m2), T.kU _, _, rfl, iteT ⟨_, rfl, kok .unk _ H2 rfl m2 (fun P r1 _ => r1)⟩⟩
    | unk hku =>
      refine iteF (iteF ?_)
      exact ⟨_, rfl, _, _, _, _, _, rfl, .own _, Rep.ty T (hv.same m2), T.kU _, _, rfl, iteT ⟨_, rfl, kok .unk _ H2 rfl m2 (fun P r1 _ => r1)⟩⟩
    | int i =>
      refine iteT ⟨_, rfl, _, _, rfl, (.int i), fun H3 m3 => ⟨_, rfl, iteF ⟨_, rfl, _, _, rfl, rfl, _, rfl, ?_⟩⟩⟩
      have m3' := m2.trans m3
      by_cases neg : i < 0
      · rw [decide_eq_true neg]
        exact iteT ⟨_, rfl, (kno (by show (if 0 ≤ i then some D.unk else none) = _; rw [if_neg (by omega)])).raise m3'⟩
      rw [decide_eq_false neg]
      refine iteF ?_
      exact ⟨_, rfl, _, _, _, _, _, rfl, .own _, Rep.ty T (hv.same m3'), T.kU _, _, rfl, iteT ⟨_, rfl, kok .unk _ H3 (by show (if 0 ≤ i then some D.unk else none) = _; rw [if_pos (by omega)]) m3' (fun P r1 _ => r1)⟩⟩
    | non =>
      refine iteT ⟨_, rfl, _, _, rfl, ((.non : Rep CU H _ _)).same m2, fun H3 m3 => ⟨_, rfl, iteT (iteT ⟨_, rfl, (kno rfl).raise (m2.trans m3)⟩)⟩⟩
    | bl bb =>
      refine iteT ⟨_, rfl, _, _, rfl, ((.bl bb : Rep CU H _ _)).same m2, fun H3 m3 => ⟨_, rfl, iteT (iteT ⟨_, rfl, (kno rfl).raise (m2.trans m3)⟩)⟩⟩
    | @tup pk xk lk hk1 hk2 hk3 hk4 =>
      refine iteT ⟨_, rfl, _, _, rfl, ((.tup hk1 hk2 hk3 hk4 : Rep CU H _ _)).same m2, fun H3 m3 => ⟨_, rfl, iteT (iteT ⟨_, rfl, (kno rfl).raise (m2.trans m3)⟩)⟩⟩
    | @map pk vk kk1 dsk hk1 hk2 hk3 hk4 hk5 hk6 hk7 =>
      refine iteT ⟨_, rfl, _, _, rfl, ((.map hk1 hk2 hk3 hk4 hk5 hk6 hk7 : Rep CU H _ _)).same m2, fun H3 m3 => ⟨_, rfl, iteT (iteT ⟨_, rfl, (kno rfl).raise (m2.trans m3)⟩)⟩⟩
  | @map a vs ks ds h hv0 hk0 hz0 nd ko hs =>
    refine iteF ⟨_, rfl, _, rfl, ?_⟩
    have m0 : Same H H := fun _ _ z => z
    refine iteT ⟨_, rfl, (by show 2 ≤ sizeLine; decide), fun tp htp => ?_⟩
    have n1 := same_new (o := .tup [.ty "dict", .ref CU]) htp
    have f1 := at_new (o := .tup [.ty "dict", .ref CU]) htp
    generalize (upd H tp (.tup [.ty "dict", .ref CU])) = H1 at n1 f1 ⊢
    have m1 := m0.trans n1
    refine ⟨_, tp, _, _, _, _, rfl, f1, .cons (.ty _) (.cons (.own _) .nil), Rep.ty T (hv.same m1), kit2 T "dict" (by decide) _, _, rfl, iteF ?_⟩
    refine ⟨_, rfl, (by show 2 ≤ sizeLine; decide), fun tp2 htp2 => ?_⟩
    have n2 := same_new (o := .tup [.ty "str", .ref CU]) htp2
    have f2 := at_new (o := .tup [.ty "str", .ref CU]) htp2
    generalize (upd H1 tp2 (.tup [.ty "str", .ref CU])) = H2 at n2 f2 ⊢
    have m2 := m1.trans n2
    have tv2 := Rep.ty T (hv.same m2)
    have tk2 := Rep.ty T (hk.same m2)
    refine ⟨_, tp2, _, _, _, _, rfl, f2, .cons (.ty _) (.cons (.own _) .nil), tk2, kit2 T "str" (by decide) dk, _, rfl, ?_⟩
    cases hk with
    | str y hy =>
      refine iteF (iteF ?_)
      refine ⟨_, rfl, _, _, _, _, _, rfl, .own _, Rep.ty T (hv.same m2), T.kU _, _, rfl, iteF ⟨_, rfl, _, _, _, _, _, rfl, .own _, .base (.str y), T.kU (.str y), _, rfl, iteF ⟨_, rfl, _, _, _, _, _, rfl, .ty _, Rep.ty T (hv.same m2), T.kit "dict" (by decide) _, _, rfl, iteT ⟨_, rfl, _, _, _, _, _, rfl, .ty _, .base (.str y), T.kit "str" (by decide) (.str y), _, rfl, iteF ?_⟩⟩⟩⟩
      have gm := m2 _ _ h
      by_cases hy2 : y ∈ ks
      · obtain ⟨j, hj, ej⟩ := List.mem_iff_getElem.mp hy2
        have kj : ks[j]? = some y := by rw [List.getElem?_eq_getElem hj, ej]
        have vj : vs[j]? = some vs[j] := List.getElem?_eq_getElem (by omega)
        have dj : ds[j]? = some ds[j] := List.getElem?_eq_getElem (by omega)
        have dg : DGet H2 a (.str y) (some vs[j]) := .inl ⟨_, Sum.inr y, .inl gm, rfl, (mkv_val nd kj vj).symm⟩
        refine ⟨_, rfl, _, rfl, a, _, rfl, dg, _, rfl, iteF ⟨_, rfl, _, rfl, a, _, rfl, dg, kok ds[j] _ H2 ?_ m2 fun P r1 _ => ?_⟩⟩
        · show (if y ∈ ks then some (get ks ds y) else none) = _
          rw [if_pos hy2, get_at nd kj dj]
        · have hP : P a := by
            cases r1 with
            | map h' => exact (keep_some h').1
          obtain ⟨vs', evs, lvs, _, _, _, _, kids⟩ := r1.mapKid (by rw [keep_at hP]; exact h)
          obtain ⟨_, e2⟩ := mkv_inj (hk0.trans hv0.symm) (hk0.trans lvs.symm) evs
          subst e2
          exact kids j _ _ vj dj
      · have dg : DGet H2 a (.str y) none := .inl ⟨_, Sum.inr y, .inl gm, rfl, (mkv_none hy2).symm⟩
        exact ⟨_, rfl, _, rfl, a, _, rfl, dg, _, rfl, iteT ⟨_, rfl, (kno (by show (if y ∈ ks then some (get ks ds y) else none) = _; rw [if_neg hy2])).raise m2⟩⟩
    | unk hku =>
      refine iteF (iteF ?_)
      exact ⟨_, rfl, _, _, _, _, _, rfl, .own _, Rep.ty T (hv.same m2), T.kU _, _, rfl, iteF ⟨_, rfl, _, _, _, _, _, rfl, .own _, Rep.ty T ((.unk hku : Rep CU H _ .unk).same m2), T.kU .unk, _, rfl, iteT ⟨_, rfl, kok .unk _ H2 rfl m2 (fun P _ r2 => r2)⟩⟩⟩
    | int i =>
      refine iteT ⟨_, rfl, _, _, rfl, (.int i), fun H3 m3 => ⟨_, rfl, iteF ⟨_, rfl, _, _, rfl, rfl, _, rfl, ?_⟩⟩⟩
      have m3' := m2.trans m3
      by_cases neg : i < 0
      · rw [decide_eq_true neg]
        exact iteT ⟨_, rfl, (kno rfl).raise m3'⟩
      rw [decide_eq_false neg]
      refine iteF ?_
      exact ⟨_, rfl, _, _, _, _, _, rfl, .own _, Rep.ty T (hv.same m3'), T.kU _, _, rfl, iteF ⟨_, rfl, _, _, _, _, _, rfl, .own _, .base (.int i), T.kU (.int i), _, rfl, iteF ⟨_, rfl, _, _, _, _, _, rfl, .ty _, Rep.ty T (hv.same m3'), T.kit "dict" (by decide) _, _, rfl, iteT ⟨_, rfl, _, _, _, _, _, rfl, .ty _, .base (.int i), T.kit "str" (by decide) (.int i), _, rfl, iteT (iteT ⟨_, rfl, (kno rfl).raise m3'⟩)⟩⟩⟩⟩
    | non =>
      refine iteT ⟨_, rfl, _, _, rfl, ((.non : Rep CU H _ _)).same m2, fun H3 m3 => ⟨_, rfl, iteT (iteT ⟨_, rfl, (kno rfl).raise (m2.trans m3)⟩)⟩⟩
    | bl bb =>
      refine iteT ⟨_, rfl, _, _, rfl, ((.bl bb : Rep CU H _ _)).same m2, fun H3 m3 => ⟨_, rfl, iteT (iteT ⟨_, rfl, (kno rfl).raise (m2.trans m3)⟩)⟩⟩
    | @tup pk xk lk hk1 hk2 hk3 hk4 =>
      refine iteT ⟨_, rfl, _, _, rfl, ((.tup hk1 hk2 hk3 hk4 : Rep CU H _ _)).same m2, fun H3 m3 => ⟨_, rfl, iteT (iteT ⟨_, rfl, (kno rfl).raise (m2.trans m3)⟩)⟩⟩
    | @map pk vk kk1 dsk hk1 hk2 hk3 hk4 hk5 hk6 hk7 =>
      refine iteT ⟨_, rfl, _, _, rfl, ((.map hk1 hk2 hk3 hk4 hk5 hk6 hk7 : Rep CU H _ _)).same m2, fun H3 m3 => ⟨_, rfl, iteT (iteT ⟨_, rfl, (kno rfl).raise (m2.trans m3)⟩)⟩⟩
  | @tup a xs l h hl hz hs =>
    refine iteT ⟨_, rfl, _, .tup l, rfl, .tup h hl hz hs, fun H0 m0 => ⟨_, rfl, _, rfl, _, rfl, ?_⟩⟩
    cases ht : tagD (.tup l) with
    | true =>
      have ht' : isTag l = true := ht
      refine iteT ⟨_, rfl, (by show 2 ≤ sizeLine; decide), fun tp htp => ?_⟩
      have n1 := same_new (o := .tup [.ty "dict", .ref CU]) htp
      have f1 := at_new (o := .tup [.ty "dict", .ref CU]) htp
      generalize (upd H0 tp (.tup [.ty "dict", .ref CU])) = H1 at n1 f1 ⊢
      have m1 := m0.trans n1
      refine ⟨_, tp, _, _, _, _, rfl, f1, .cons (.ty _) (.cons (.own _) .nil), Rep.ty T (hv.same m1), kit2 T "dict" (by decide) _, _, rfl, iteT ⟨_, rfl, (kno (by show (if isTag l then none else _) = _; rw [if_pos ht'])).raise m1⟩⟩

    | false =>
    have ht' : isTag l = false := ht
    refine iteF (iteF ?_)
    have m1 := m0
    refine ⟨_, rfl, (by show 2 ≤ sizeLine; decide), fun tp2 htp2 => ?_⟩
    have n2 := same_new (o := .tup [.ty "str", .ref CU]) htp2
    have f2 := at_new (o := .tup [.ty "str", .ref CU]) htp2
    generalize (upd H0 tp2 (.tup [.ty "str", .ref CU])) = H2 at n2 f2 ⊢
    have m2 := m1.trans n2
    have tv2 := Rep.ty T (hv.same m2)
    have tk2 := Rep.ty T (hk.same m2)
    refine ⟨_, tp2, _, _, _, _, rfl, f2, .cons (.ty _) (.cons (.own _) .nil), tk2, kit2 T "str" (by decide) dk, _, rfl, ?_⟩
    cases hk with
    | str y hy =>
      refine iteF (iteF ?_)
      exact ⟨_, rfl, _, _, _, _, _, rfl, .own _, Rep.ty T (hv.same m2), T.kU _, _, rfl, iteF ⟨_, rfl, _, _, _, _, _, rfl, .own _, .base (.str y), T.kU (.str y), _, rfl, iteF ⟨_, rfl, _, _, _, _, _, rfl, .ty _, Rep.ty T (hv.same m2), T.kit "dict" (by decide) _, _, rfl, iteF ⟨_, rfl, _, _, rfl, (.str y hy), fun H4 m4 => ⟨_, rfl, iteT (iteT ⟨_, rfl, (kno (by show (if isTag l then none else _) = _; rw [if_neg (by rw [ht']; decide)])).raise (m2.trans m4)⟩)⟩⟩⟩⟩⟩
    | unk hku =>
      refine iteF (iteF ?_)
      exact ⟨_, rfl, _, _, _, _, _, rfl, .own _, Rep.ty T (hv.same m2), T.kU _, _, rfl, iteF ⟨_, rfl, _, _, _, _, _, rfl, .own _, Rep.ty T ((.unk hku : Rep CU H _ .unk).same m2), T.kU .unk, _, rfl, iteT ⟨_, rfl, kok .unk _ H2 (by show (if isTag l then none else _) = _; rw [if_neg (by rw [ht']; decide)]) m2 (fun P _ r2 => r2)⟩⟩⟩
    | int i =>
      refine iteT ⟨_, rfl, _, _, rfl, (.int i), fun H3 m3 => ⟨_, rfl, iteF ⟨_, rfl, _, _, rfl, rfl, _, rfl, ?_⟩⟩⟩
      have m3' := m2.trans m3
      by_cases neg : i < 0
      · rw [decide_eq_true neg]
        exact iteT ⟨_, rfl, (kno (by show (if isTag l then none else (if 0 ≤ i then l[i.toNat]? else none)) = _; rw [if_neg (by rw [ht']; decide), if_neg (by omega)])).raise m3'⟩
      rw [decide_eq_false neg]
      refine iteF ?_
      refine ⟨_, rfl, _, _, _, _, _, rfl, .own _, Rep.ty T (hv.same m3'), T.kU _, _, rfl, iteF ⟨_, rfl, _, _, _, _, _, rfl, .own _, .base (.int i), T.kU (.int i), _, rfl, iteF ⟨_, rfl, _, _, _, _, _, rfl, .ty _, Rep.ty T (hv.same m3'), T.kit "dict" (by decide) _, _, rfl, iteF ⟨_, rfl, _, _, rfl, (.int i), fun H4 m4 => ⟨_, rfl, iteF ?_⟩⟩⟩⟩⟩
      have m4' := m3'.trans m4
      have g4 := m4' _ _ h
      have nn : (0 : Int) ≤ i := by omega
      have e0 : pck (.tup l) (.int i) = l[i.toNat]? := by
        show (if isTag l then none else (if 0 ≤ i then l[i.toNat]? else none)) = _
        rw [if_neg (by rw [ht']; decide), if_pos nn]
      refine ⟨_, rfl, 0, i, rfl, rfl, _, rfl, ?_⟩
      rw [decide_eq_true nn]
      refine iteT ⟨_, rfl, _, _, rfl, .inr ⟨_, SqT.of g4, rfl⟩, i, _, rfl, rfl, _, rfl, ?_⟩
      by_cases lt : i < (xs.length : Int)
      · rw [decide_eq_true lt]
        have lt' : i.toNat < xs.length := by omega
        have vj : xs[i.toNat]? = some xs[i.toNat] := List.getElem?_eq_getElem lt'
        have dj : l[i.toNat]? = some l[i.toNat] := List.getElem?_eq_getElem (by omega)
        have ai : atI xs i = some xs[i.toNat] := by
          have q := atI_nat vj
          rwa [Int.toNat_of_nonneg nn] at q
        refine iteF ⟨_, rfl, _, rfl, a, xs, i, _, rfl, rfl, SqT.of g4, ai, kok l[i.toNat] _ H4 (e0.trans dj) m4' fun P r1 _ => ?_⟩
        have hP : P a := by
          cases r1 with
          | tup h' => exact (keep_some h').1
        obtain ⟨_, _, kids⟩ := r1.tupKid (by rw [keep_at hP]; exact h)
        exact kids _ _ _ vj dj
      · rw [decide_eq_false lt]
        exact iteT ⟨_, rfl, (kno (e0.trans (List.getElem?_eq_none (by omega)))).raise m4'⟩
    | non =>
      refine iteT ⟨_, rfl, _, _, rfl, ((.non : Rep CU H _ _)).same m2, fun H3 m3 => ⟨_, rfl, iteT (iteT ⟨_, rfl, (kno (by show (if isTag l then none else _) = _; rw [if_neg (by rw [ht']; decide)])).raise (m2.trans m3)⟩)⟩⟩
    | bl bb =>
      refine iteT ⟨_, rfl, _, _, rfl, ((.bl bb : Rep CU H _ _)).same m2, fun H3 m3 => ⟨_, rfl, iteT (iteT ⟨_, rfl, (kno (by show (if isTag l then none else _) = _; rw [if_neg (by rw [ht']; decide)])).raise (m2.trans m3)⟩)⟩⟩
    | @tup pk xk lk hk1 hk2 hk3 hk4 =>
      refine iteT ⟨_, rfl, _, _, rfl, ((.tup hk1 hk2 hk3 hk4 : Rep CU H _ _)).same m2, fun H3 m3 => ⟨_, rfl, iteT (iteT ⟨_, rfl, (kno (by show (if isTag l then none else _) = _; rw [if_neg (by rw [ht']; decide)])).raise (m2.trans m3)⟩)⟩⟩
    | @map pk vk kk1 dsk hk1 hk2 hk3 hk4 hk5 hk6 hk7 =>
      refine iteT ⟨_, rfl, _, _, rfl, ((.map hk1 hk2 hk3 hk4 hk5 hk6 hk7 : Rep CU H _ _)).same m2, fun H3 m3 => ⟨_, rfl, iteT (iteT ⟨_, rfl, (kno (by show (if isTag l then none else _) = _; rw [if_neg (by rw [ht']; decide)])).raise (m2.trans m3)⟩)⟩⟩
end
end K04

namespace K04
open PySem L2 XR VT
abbrev sIsSame : Stmt := top 14
abbrev sFound : Stmt := top 21
abbrev sSize : Stmt := top 25
abbrev sInner : Stmt := top 18
abbrev sJoin : Stmt := top 24
abbrev sMI : Stmt := inClass (top 2) 0
section
variable {X : Cx}
theorem op_isT : OpR X (compareOp .Is) (fun x y H Q => y = .bl true ∧ ((∃ b, x = .bl b ∧ Q (.bl b) H) ∨ ∃ a, x = .ref a ∧ Q (.bl false) H)) := by
  intro pins s σ H x y v u Q I rx ry h
  obtain ⟨rfl, h⟩ := h
  obtain rfl : u = Value.bool true := ry
  rcases h with ⟨b, rfl, q⟩ | ⟨a, rfl, q⟩
  · obtain rfl : v = Value.bool b := rx
    cases b <;> exact wpAny_pure ⟨.bl _, H, I, rfl, q⟩
  · obtain rfl : v = Value.ref a := rx
    exact wpAny_pure ⟨.bl false, H, I, rfl, q⟩
theorem call_lenX : CallR X (.builtin "len") (fun xs H Q => (∃ x n, xs = [x] ∧ LenV X.K x H n ∧ Q (.int n) H) ∨ ∃ d kvs, xs = [.ref d] ∧ H d = some (.dK kvs) ∧ Q (.int kvs.length) H) := by
  intro pins s σ H xs us Q I r h
  rcases h with h | h
  · exact call_len pins s σ H xs us Q I r h
  · exact call_lenD pins s σ H xs us Q I r h
end
/-- the names -/
def mkt (nm : Nm) (vs : List V) : List (List L2.Key × V) := (nm.zip vs).map fun p => (p.1.1.map Sum.inr, p.2)
def NRep (CU : Addr) (H : Hp) (p : Addr) (nm : Nm) : Prop := ∃ vs : List V, H p = some (.dT (mkt nm vs)) ∧ vs.length = nm.length ∧ nm.length ≤ 60 ∧ ∀ (i : Nat) (v : V) (q : List Str × D), vs[i]? = some v → nm[i]? = some q → Rep CU H v q.2
theorem inr_inj : ∀ {a b : List Str}, (a.map (Sum.inr : Str → L2.Key)) = b.map Sum.inr → a = b
  | [], [], _ => rfl
  | x :: a, y :: b, h => by
    have e := List.cons.inj h
    rw [Sum.inr.inj e.1, inr_inj e.2]
theorem mkt_look {CU : Addr} {H : Hp} {k : List Str} : ∀ {nm : Nm} {vs : List V}, vs.length = nm.length → (∀ (i : Nat) (v : V) (q : List Str × D), vs[i]? = some v → nm[i]? = some q → Rep CU H v q.2) →
    (∃ d v, look nm k = some d ∧ valV (mkt nm vs) (k.map Sum.inr) = some v ∧ Rep CU H v d) ∨ (look nm k = none ∧ valV (mkt nm vs) (k.map Sum.inr) = none)
  | [], [], _, _ => .inr ⟨rfl, rfl⟩
  | (k0, d0) :: nm, v0 :: vs, hl, hr => by
    by_cases e : k0 = k
    · subst e
      refine .inl ⟨d0, v0, by simp [look, List.lookup_cons], ?_, hr 0 v0 (k0, d0) rfl rfl⟩
      exact valV_pos rfl
    · have ne : ¬ (k0.map (Sum.inr : Str → L2.Key)) = k.map Sum.inr := fun z => e (inr_inj z)
      have e1 : look ((k0, d0) :: nm) k = look nm k := by
        have : (k == k0) = false := beq_eq_false_iff_ne.mpr fun z => e z.symm
        simp [look, List.lookup_cons, this]
      have e2 : valV (mkt ((k0, d0) :: nm) (v0 :: vs)) (k.map Sum.inr) = valV (mkt nm vs) (k.map Sum.inr) := valV_neg ne
      rw [e1, e2]
      exact mkt_look (Nat.succ.inj hl) fun i v q h1 h2 => hr (i + 1) v q h1 h2
theorem NRep.same {CU : Addr} {H H' : Hp} {p : Addr} {nm : Nm} (h : NRep CU H p nm) (m : Same H H') : NRep CU H' p nm := let ⟨vs, a, b, c, d⟩ := h; ⟨vs, m _ _ a, b, c, fun i v q h1 h2 => (d i v q h1 h2).same m⟩
theorem keyMap (k : List Str) : (k.map (Sum.inr : Str → L2.Key)).map kV = k.map V.str := by rw [List.map_map]; rfl
theorem NRep.get {CU : Addr} {H : Hp} {p b : Addr} {nm : Nm} {k : List Str} (h : NRep CU H p nm) (hb : H b = some (.tup (k.map V.str))) : (∃ d v, look nm k = some d ∧ DGet H p (.ref b) (some v) ∧ Rep CU H v d) ∨ (look nm k = none ∧ DGet H p (.ref b) none) := by
  obtain ⟨vs, h1, h2, _, h4⟩ := h
  have hb' : H b = some (.tup ((k.map (Sum.inr : Str → L2.Key)).map kV)) := by rw [keyMap]; exact hb
  have g := DGet.t h1 hb'
  rcases mkt_look (k := k) h2 h4 with ⟨d, v, e1, e2, r⟩ | ⟨e1, e2⟩
  · rw [e2] at g
    exact .inl ⟨d, v, e1, g, r⟩
  · rw [e2] at g
    exact .inr ⟨e1, g⟩
def spFound (CU CM : Addr) : Sp := fun vs H Q E => ∃ (e : V) (p b : Addr) (nm : Nm) (k : List Str), vs = [e, .ref p, .ref b] ∧ NRep CU H p nm ∧ H b = some (.tup (k.map V.str)) ∧
  (∀ (d : D) (r : V), look nm k = some d → Rep CU H r d → Q r H) ∧ (look nm k = none → Mis CM e H E)
def spSize (CU CM : Addr) : Sp := fun vs H Q E => ∃ (e v : V) (dv : D), vs = [e, v] ∧ Rep CU H v dv ∧ (∀ (d : D) (r : V) (H' : Hp), szd dv = some d → Same H H' → Rep CU H' r d → Q r H') ∧ (szd dv = none → Mis CM e H E)
def istr (n : Nat) (a b : D) : Bool := match same n a b with | .bl x => x | _ => false
def spIsSame (CU : Addr) (n : Nat) : Sp := fun vs H Q _ => ∃ (v u : V) (a b : D), vs = [v, u] ∧ Rep CU H v a ∧ Rep CU H u b ∧ dep a < n ∧ dep b < n ∧ ∀ H', Same H H' → Q (.bl (istr n a b)) H'
section
variable {P : Program} {w : World} {K : PySem.W.Frag} {mg : Str → Option Value} {base : Heap} {CU : Addr}
variable {CM CP : Addr}
theorem scMI : FnScope ["self", "expression"] ["self", "expression"] (defScope sMI) := ⟨rfl, rfl, rfl, by decide +kernel, rfl, by decide +kernel, by decide +kernel⟩
theorem ok_MI {f C B : Addr} {fd : FuncData} {mc : Value} (F : Fun K "__init__" "Misfit.__init__" sMI f fd) (T : PIni K mg "PlanError" B mc) (xc : OexC K C) (no : PySem.W.findIn K (.ref C) "expression" = some none) : FnOk P w K mg base CX0 1 f fd ["self", "expression"] (spI C "expression") := by
  refine F.ok scMI (fun vs H Q E h => ?_) (fun cdv A outer s H vs Q E hr h => ?_)
  · obtain ⟨a, v, rfl, _⟩ := h
    rfl
  · obtain ⟨a, v, rfl, ha, k⟩ := h
    refine ⟨_, pss_cons (ps_expr (pe_pinit T rfl (pa_cons (pv 0) (pa_cons pe_str pa_nil)))) (pss_one (ps_ost (pv 0) (pv 1))), ?_⟩
    exact ⟨_, rfl, a, C, _, rfl, (by show 1 ≤ 1000; decide), xc, ha, _, rfl, _, rfl, a, C, rfl, xc, no, .inl ⟨ha, fun dx hd hne => k dx _ hd hne rfl⟩⟩
theorem scIs : FnScope ["one", "other"] ["one", "other"] (defScope sIsSame) := ⟨rfl, rfl, rfl, by decide +kernel, rfl, by decide +kernel, by decide +kernel⟩
theorem ok_issame {f fZ : Addr} {fd dZ : FuncData} {n k : Nat} (F : Fun K "is_same" "is_same" sIsSame f fd) (GZ : FnOk P w K mg base CX0 k fZ dZ ["one", "other"] (spSame CU n)) (gZ : mg "same" = some (.ref fZ)) (kZ : PySem.W.keepIn K (.ref fZ) = true) (bZ : Binds K dZ ["one", "other"] []) :
    FnOk P w K mg base CX0 (k + 1) f fd ["one", "other"] (spIsSame CU n) := by
  refine F.ok scIs (fun vs H Q E h => ?_) (fun cdv A outer s H vs Q E hr h => ?_)
  · obtain ⟨v, u, a, b, rfl, _⟩ := h
    rfl
  obtain ⟨v, u, a, b, rfl, ha, hb, na, nb, kk⟩ := h
  refine ⟨_, (pss_one (ps_ret (pe_cmpR op_isT (pe_call GZ hr rfl gZ kZ bZ .nil pass0 (pa_cons (pv 0) (pa_cons (pv 1) pa_nil))) pe_bl (nomark _)))), ?_⟩
  refine ⟨_, rfl, _, rfl, v, u, a, b, rfl, ha, hb, na, nb, fun r H1 m1 hr1 => ⟨rfl, ?_⟩⟩
  have k1 := kk H1 m1
  unfold istr at k1
  rcases same_kind n a b with ⟨x, e⟩ | e
  · rw [e] at hr1 k1
    cases hr1
    exact .inl ⟨_, rfl, k1⟩
  · rw [e] at hr1 k1
    cases hr1
    exact .inr ⟨_, rfl, k1⟩
theorem scFo : FnScope ["expression", "names", "reference"] ["expression", "names", "reference"] (defScope sFound) := ⟨rfl, rfl, rfl, by decide +kernel, rfl, by decide +kernel, by decide +kernel⟩
theorem ok_found {f fM : Addr} {fd dM : FuncData} (F : Fun K "found_in" "found_in" sFound f fd) (NM : New1 P w K mg base CP "Misfit" "expression" CM fM dM) : FnOk P w K mg base (L2.CX P w) 3 f fd ["expression", "names", "reference"] (spFound CU CM) := by
  refine F.okX scFo (fun vs H Q E h => ?_) (fun cdv A outer s H vs Q E hr h => ?_)
  · obtain ⟨e, p, b, nm, k, rfl, _⟩ := h
    rfl
  obtain ⟨e, p, b, nm, k, rfl, hN, hb, kok, kno⟩ := h
  have hrM : Room 2 _ := hr
  have hu := hu_of hr
  refine ⟨_, (pss_cons (ps_if (pt_cmp (pc_dnotin hu (pv 2) (pv 1))) (pss_one (ps_raiseI NM rfl hrM (takes_of rfl rfl rfl rfl) rfl (pv 0))) pss_nil)
      (pss_one (ps_ret (pe_dget hu (pv 1) (pv 2) (fun _ _ => rfl))))), ?_⟩
  rcases hN.get hb with ⟨d, v, e1, g, r⟩ | ⟨e1, g⟩
  · exact ⟨_, rfl, _, rfl, p, _, rfl, g, _, rfl, iteF ⟨_, rfl, _, rfl, p, _, rfl, g, kok d v e1 r⟩⟩
  · exact ⟨_, rfl, _, rfl, p, _, rfl, g, _, rfl, iteT ⟨_, rfl, (kno e1).raise fun _ _ z => z⟩⟩
theorem kit3 (T : Txt K mg CU) (d : D) : PySem.W.kitAny K (tyD CU d) [.type "str", .type "tuple", .type "dict"] = some (isD "str" d || (isD "tuple" d || isD "dict" d)) := by
  refine kitAny_cons (T.kit "str" (by decide) d) (fun e => ?_) (fun e => by rw [e]; rfl)
  refine kitAny_cons (T.kit "tuple" (by decide) d) (fun e2 => ?_) (fun e2 => by rw [e2]; simp)
  refine kitAny_cons (T.kit "dict" (by decide) d) (fun e3 => ?_) (fun e3 => by rw [e3]; simp)
  rw [kitAny_nil, e, e2, e3]
  rfl
theorem scSi : FnScope ["expression", "value"] ["expression", "value"] (defScope sSize) := ⟨rfl, rfl, rfl, by decide +kernel, rfl, by decide +kernel, by decide +kernel⟩
theorem ok_size {f fT fM : Addr} {fd dT dM : FuncData} (F : Fun K "size_of" "size_of" sSize f fd) (T : Txt K mg CU) (NM : New1 P w K mg base CP "Misfit" "expression" CM fM dM)
    (GT : FnOk P w K mg base CX0 2 fT dT ["thing"] (spD CU fun d => .bl (tagD d))) (gT : mg "is_tag" = some (.ref fT)) (kT : PySem.W.keepIn K (.ref fT) = true) (bT : Binds K dT ["thing"] []) :
    FnOk P w K mg base (L2.CX P w) 3 f fd ["expression", "value"] (spSize CU CM) := by
  refine F.okX scSi (fun vs H Q E h => ?_) (fun cdv A outer s H vs Q E hr h => ?_)
  · obtain ⟨e, v, dv, rfl, _⟩ := h
    rfl
  obtain ⟨e, v, dv, rfl, hv, kok, kno⟩ := h
  have hr2 : Room 2 _ := hr
  have hrM : Room 2 _ := hr
  refine ⟨_, (pss_cons (ps_if (pt_val (pe_callB call_isi (by rfl) T.isi (by decide +kernel) (pa_cons (pv 1) (pa_cons (pe_glob (v := .ref CU) rfl T.gU rfl) pa_nil)))) (pss_one (ps_ret (pv 1))) pss_nil)
      (pss_cons (ps_if (PW.pt (pw_or (pt_not (pt_val (pe_callB call_isiT (by rfl) T.isi (by decide +kernel) (pa_cons (pv 1) (pa_cons (pe_tup (pa_cons (pe_bltn (v := .ty "str") (by rfl) T.str (by decide +kernel) rfl) (pa_cons (pe_bltn (v := .ty "tuple") (by rfl) T.tuple (by decide +kernel) rfl) (pa_cons (pe_bltn (v := .ty "dict") (by rfl) T.dict (by decide +kernel) rfl) pa_nil)))) pa_nil))))) (pw_or1 (pt_val (pe_call GT hr2 rfl gT kT bT .nil pass0 (pa_cons (pv 1) pa_nil)))))) (pss_one (ps_raiseI NM rfl hrM (takes_of rfl rfl rfl rfl) rfl (pv 0))) pss_nil)
      (pss_one (ps_ret (pe_callB call_lenX (by rfl) T.len (by decide +kernel) (pa_cons (pv 1) pa_nil)))))), ?_⟩
  have hty := Rep.ty T hv
  refine ⟨_, rfl, _, _, _, _, _, rfl, .own _, hty, T.kU dv, _, rfl, ?_⟩
  cases hu : isU dv with
  | true =>
    cases dv <;> first | cases hu | skip
    exact iteT ⟨_, rfl, kok .unk _ H rfl (fun _ _ z => z) hv⟩
  | false =>
  refine iteF ⟨_, rfl, (by show 3 ≤ sizeLine; decide), fun tp htp => ?_⟩
  have n1 := same_new (o := .tup [.ty "str", .ty "tuple", .ty "dict"]) htp
  have f1 := at_new (o := .tup [.ty "str", .ty "tuple", .ty "dict"]) htp
  generalize (upd H tp (.tup [.ty "str", .ty "tuple", .ty "dict"])) = H1 at n1 f1 ⊢
  have hv1 := hv.same n1
  refine ⟨_, tp, _, _, _, _, rfl, f1, .cons (.ty _) (.cons (.ty _) (.cons (.ty _) .nil)), Rep.ty T hv1, kit3 T dv, _, rfl, ?_⟩
  have hv1' := hv1
  cases hv1' with
  | str y hy =>
    refine iteF ⟨_, rfl, _, _, rfl, hv1, fun H2 m2 => ⟨_, rfl, iteF ⟨_, rfl, .inl ⟨_, _, rfl, ⟨?_, rfl⟩, kok _ _ H2 rfl (n1.trans m2) (.int _)⟩⟩⟩⟩
    have := hy.2
    rw [sizeLine_eq]
    omega
  | @tup a xs l h hl hz hs =>
    refine iteF ⟨_, rfl, _, _, rfl, hv1, fun H2 m2 => ⟨_, rfl, ?_⟩⟩
    cases ht : tagD (.tup l) with
    | true =>
      have ht' : isTag l = true := ht
      exact iteT ⟨_, rfl, (kno (by show (if isTag l then none else _) = _; rw [if_pos ht'])).raise (n1.trans m2)⟩
    | false =>
      have ht' : isTag l = false := ht
      refine iteF ⟨_, rfl, .inl ⟨_, _, rfl, .inr ⟨_, SqT.of (m2 _ _ h), rfl⟩, kok (.int l.length) _ H2 ?_ (n1.trans m2) ?_⟩⟩
      · show (if isTag l then none else _) = _
        rw [if_neg (by rw [ht']; decide)]
      · rw [hl]
        exact .int _
  | @map a vs ks ds h hv0 hk0 hz nd ko hs =>
    refine iteF ⟨_, rfl, _, _, rfl, hv1, fun H2 m2 => ⟨_, rfl, iteF ⟨_, rfl, .inr ⟨a, _, rfl, m2 _ _ h, kok (.int ds.length) _ H2 rfl (n1.trans m2) ?_⟩⟩⟩⟩
    rw [mkv_length (hk0.trans hv0.symm), hk0]
    exact .int _
  | unk h => cases hu
  | _ => exact iteT (iteT ⟨_, rfl, (kno rfl).raise n1⟩)
end
end K04

namespace K04
open PySem L2 XR VT
theorem in_yes {b : Bool} {A B : Prop} (h : b = true) (ha : A) : if (if false = true then !b else b) = true then A else B := by
  rw [if_neg (by decide : ¬ false = true), h]
  exact iteT ha
theorem in_no {b : Bool} {A B : Prop} (h : b = false) (hb : B) : if (if false = true then !b else b) = true then A else B := by
  rw [if_neg (by decide : ¬ false = true), h]
  exact iteF hb
theorem st_no {x y : Str} {A B : Prop} (h : x ≠ y) (hb : B) : if decide (V.str x = V.str y) = true then A else B := by
  rw [decide_eq_false fun z => h (V.str.inj z)]
  exact iteF hb
theorem st_yes {x y : Str} {A B : Prop} (h : x = y) (ha : A) : if decide (V.str x = V.str y) = true then A else B := by
  rw [decide_eq_true (by rw [h])]
  exact iteT ha
def kidsX : X → List X
  | .tup l => l
  | .join l => l
  | .map _ l => l
  | .at _ _ y _ => [y]
  | .same a b => [a, b]
  | .pick a b => [a, b]
  | .size a => [a]
  | _ => []
def isOp : X → Prop
  | .tup _ => True
  | .join _ => True
  | .map ks l => ks.length = l.length
  | .at _ _ _ _ => True
  | .same _ _ => True
  | .pick _ _ => True
  | .size _ => True
  | _ => False
theorem rep2 {CU : Addr} {H : Hp} {v : V} {d0 d1 : D} (h : Rep CU H v (.tup [d0, d1])) : ∃ a v0 v1, v = .ref a ∧ H a = some (.tup [v0, v1]) ∧ Rep CU H v0 d0 ∧ Rep CU H v1 d1 := by
  cases h with
  | @tup a xs _ h hl hz hs =>
    match xs, hl with
    | [v0, v1], _ => exact ⟨a, v0, v1, rfl, h, hs 0 _ _ rfl rfl, hs 1 _ _ rfl rfl⟩
theorem rep3 {CU : Addr} {H : Hp} {v : V} {d0 d1 d2 : D} (h : Rep CU H v (.tup [d0, d1, d2])) : ∃ a v0 v1 v2, v = .ref a ∧ H a = some (.tup [v0, v1, v2]) ∧ Rep CU H v0 d0 ∧ Rep CU H v1 d1 ∧ Rep CU H v2 d2 := by
  cases h with
  | @tup a xs _ h hl hz hs =>
    match xs, hl with
    | [v0, v1, v2], _ => exact ⟨a, v0, v1, v2, rfl, h, hs 0 _ _ rfl rfl, hs 1 _ _ rfl rfl, hs 2 _ _ rfl rfl⟩
theorem rep4 {CU : Addr} {H : Hp} {v : V} {d0 d1 d2 d3 : D} (h : Rep CU H v (.tup [d0, d1, d2, d3])) : ∃ a v0 v1 v2 v3, v = .ref a ∧ H a = some (.tup [v0, v1, v2, v3]) ∧ Rep CU H v0 d0 ∧ Rep CU H v1 d1 ∧ Rep CU H v2 d2 ∧ Rep CU H v3 d3 := by
  cases h with
  | @tup a xs _ h hl hz hs =>
    match xs, hl with
    | [v0, v1, v2, v3], _ => exact ⟨a, v0, v1, v2, v3, rfl, h, hs 0 _ _ rfl rfl, hs 1 _ _ rfl rfl, hs 2 _ _ rfl rfl, hs 3 _ _ rfl rfl⟩
theorem rep5 {CU : Addr} {H : Hp} {v : V} {d0 d1 d2 d3 d4 : D} (h : Rep CU H v (.tup [d0, d1, d2, d3, d4])) : ∃ a v0 v1 v2 v3 v4, v = .ref a ∧ H a = some (.tup [v0, v1, v2, v3, v4]) ∧ Rep CU H v0 d0 ∧ Rep CU H v1 d1 ∧ Rep CU H v2 d2 ∧ Rep CU H v3 d3 ∧ Rep CU H v4 d4 := by
  cases h with
  | @tup a xs _ h hl hz hs =>
    match xs, hl with
    | [v0, v1, v2, v3, v4], _ => exact ⟨a, v0, v1, v2, v3, v4, rfl, h, hs 0 _ _ rfl rfl, hs 1 _ _ rfl rfl, hs 2 _ _ rfl rfl, hs 3 _ _ rfl rfl, hs 4 _ _ rfl rfl⟩
theorem its1 {CU : Addr} {H : Hp} {v0 : V} {d0 : D} (h0 : Rep CU H v0 d0) : Its CU H [v0] [d0] := ⟨rfl, fun i v d h1 h2 => by
  match i, h1, h2 with
  | 0, h1, h2 => cases h1; cases h2; exact h0⟩
theorem its2 {CU : Addr} {H : Hp} {v0 v1 : V} {d0 d1 : D} (h0 : Rep CU H v0 d0) (h1 : Rep CU H v1 d1) : Its CU H [v0, v1] [d0, d1] := ⟨rfl, fun i v d e1 e2 => by
  match i, e1, e2 with
  | 0, e1, e2 => cases e1; cases e2; exact h0
  | 1, e1, e2 => cases e1; cases e2; exact h1⟩
theorem rep_str {CU : Addr} {H : Hp} {v : V} {x : Str} (h : Rep CU H v (.str x)) : v = .str x ∧ TxOk x := by
  cases h with
  | str _ hx => exact ⟨rfl, hx⟩
def spInner (CU : Addr) : Sp := fun vs H Q _ => ∃ (v : V) (x : X), vs = [v] ∧ Rep CU H v (toD x) ∧ isOp x ∧ ∀ (p : Addr) (zs : List V) (H' : Hp), Same H H' → H' p = some (.lst zs) → Its CU H' zs (toDL (kidsX x)) → Q (.ref p) H'
section
variable {P : Program} {w : World} {K : PySem.W.Frag} {mg : Str → Option Value} {base : Heap} {CU : Addr}
variable {CM CP : Addr}
theorem scIno : FnScope ["expression", "word", "row"] ["expression"] (defScope sInner) := ⟨rfl, rfl, rfl, by decide +kernel, rfl, by decide +kernel, by decide +kernel⟩
theorem ok_inner {f : Addr} {fd : FuncData} (F : Fun K "inner_of" "inner_of" sInner f fd) (T : Txt K mg CU) : FnOk P w K mg base CX0 1 f fd ["expression"] (spInner CU) := by
  refine F.ok scIno (fun vs H Q E h => ?_) (fun cdv A outer s H vs Q E hr h => ?_)
  · obtain ⟨v, x, rfl, _⟩ := h
    rfl
  obtain ⟨v, x, rfl, hx, hop, kk⟩ := h
  refine ⟨_, (pss_cons (ps_set (i := 1) scIno.nd rfl (Or.inl rfl) (pe_ix ix_tup (pv 0) pe_int (fun _ _ => rfl)))
      (pss_cons (ps_if (pt_cmpR op_in_seq (pv 1) (pe_tup (pa_cons pe_str (pa_cons pe_str pa_nil))) (by rfl)) (pss_one (ps_ret (pe_callTy call_list_of (by rfl) T.list (by decide +kernel) (pa_cons (pe_ix ix_tup (pv 0) pe_int (fun _ _ => rfl)) pa_nil)))) pss_nil)
      (pss_cons (ps_if (pt_cmpR op_eq (pv 1) pe_str (nomark _)) (pss_one (ps_ret (pe_lc (own := [("row", 2)]) (g := gName 2) (tt := tYes) (te := tOp (rIxT K) (tVar 2) (tC (V.int 1))) rfl scIno.nd (pi_tup (pe_ix ix_tup (pv 0) pe_int (fun _ _ => rfl))) (blkOk_by (own := [("row", 2)]) (N := ["expression", "word", "row"]) (sc := (defScope sInner)) (by decide +kernel)) (fun _ _ _ _ _ => pg_name (i := 2) scIno.nd rfl (Or.inl rfl)) (fun _ _ _ _ _ => pts_nil) (fun _ _ _ _ _ => (pe_ix ix_tup (pv 2) pe_int (fun _ _ => rfl)))))) pss_nil)
      (pss_cons (ps_if (pt_cmpR op_eq (pv 1) pe_str (nomark _)) (pss_one (ps_ret (pe_lst (pa_cons (pe_ix ix_tup (pv 0) pe_int (fun _ _ => rfl)) pa_nil)))) pss_nil)
      (pss_one (ps_ret (pe_ifExp (pt_cmpR op_in_seq (pv 1) (pe_tup (pa_cons pe_str (pa_cons pe_str (pa_cons pe_str (pa_cons pe_str pa_nil))))) (by rfl)) (pe_callTy call_list_of (by rfl) T.list (by decide +kernel) (pa_cons (pe_slice sl_tup (pv 0) (po_some pe_int) po_none) pa_nil)) (pe_lst pa_nil)))))))), ?_⟩
  have lst : ∀ (a : Addr) (xs : List V) (ds : List D) (H1 : Hp), Same H H1 → H1 a = some (.tup xs) → Its CU H1 xs ds → toDL (kidsX x) = ds → ∃ p ys, [V.ref a] = [.ref p] ∧ (SqL K H1 p ys ∨ SqT K H1 p ys) ∧ ∀ l, H1 l = none → Q (.ref l) (upd H1 l (.lst ys)) := fun a xs ds H1 m h hi e =>
    ⟨a, xs, rfl, .inr (SqT.of h), fun l hl => kk l xs _ (m.trans (same_new hl)) upd_same (by rw [e]; exact hi.mono fun v d r => r.same (same_new hl))⟩
  cases x with
  | tup l =>
    obtain ⟨a, v0, v1, rfl, h, r0, r1⟩ := rep2 hx
    obtain ⟨rfl, _⟩ := rep_str r0
    refine ⟨_, rfl, a, _, 0, _, rfl, rfl, SqT.of h, atI_nat (j := 0) rfl, _, rfl, (by show 2 ≤ sizeLine; decide), fun tp0 htp0 => ⟨tp0, _, rfl, .inr (SqT.of upd_same), rfl, rfl, _, rfl, in_yes (by decide +kernel) ?_⟩⟩
    have m1 := same_new (o := .tup [.str "tuple", .str "join"]) htp0
    generalize (upd H tp0 (.tup [.str "tuple", .str "join"])) = H1 at m1 ⊢
    cases r1 with
    | @tup a1 xs _ h1 hl hz hs => exact ⟨_, rfl, a, _, 1, _, rfl, rfl, SqT.of (m1 _ _ h), atI_nat (j := 1) rfl, lst a1 xs _ H1 m1 (m1 _ _ h1) ⟨hl, fun i v d e1 e2 => (hs i v d e1 e2).same m1⟩ rfl⟩
  | join l =>
    obtain ⟨a, v0, v1, rfl, h, r0, r1⟩ := rep2 hx
    obtain ⟨rfl, _⟩ := rep_str r0
    refine ⟨_, rfl, a, _, 0, _, rfl, rfl, SqT.of h, atI_nat (j := 0) rfl, _, rfl, (by show 2 ≤ sizeLine; decide), fun tp0 htp0 => ⟨tp0, _, rfl, .inr (SqT.of upd_same), rfl, rfl, _, rfl, in_yes (by decide +kernel) ?_⟩⟩
    have m1 := same_new (o := .tup [.str "tuple", .str "join"]) htp0
    generalize (upd H tp0 (.tup [.str "tuple", .str "join"])) = H1 at m1 ⊢
    cases r1 with
    | @tup a1 xs _ h1 hl hz hs => exact ⟨_, rfl, a, _, 1, _, rfl, rfl, SqT.of (m1 _ _ h), atI_nat (j := 1) rfl, lst a1 xs _ H1 m1 (m1 _ _ h1) ⟨hl, fun i v d e1 e2 => (hs i v d e1 e2).same m1⟩ rfl⟩
  | map ks l =>
    have hkl : ks.length = l.length := hop
    obtain ⟨a, v0, v1, rfl, h, r0, r1⟩ := rep2 hx
    obtain ⟨rfl, _⟩ := rep_str r0
    refine ⟨_, rfl, a, _, 0, _, rfl, rfl, SqT.of h, atI_nat (j := 0) rfl, _, rfl, (by show 2 ≤ sizeLine; decide), fun tp0 htp0 => ⟨tp0, _, rfl, .inr (SqT.of upd_same), rfl, rfl, _, rfl, in_no (by decide +kernel) ?_⟩⟩
    have m1 := same_new (o := .tup [.str "tuple", .str "join"]) htp0
    generalize (upd H tp0 (.tup [.str "tuple", .str "join"])) = H1 at m1 ⊢
    refine ⟨_, rfl, rfl, _, rfl, st_yes rfl ?_⟩
    cases r1 with
    | @tup a1 xs _ h1 hl hz hs =>
    have lr : (rowsD ks (toDL l)).length = l.length := by
      unfold rowsD
      rw [List.length_map, List.length_zip, toDL_map, List.length_map, hkl, Nat.min_self]
    have g1 := m1 _ _ h1
    refine ⟨_, rfl, a, _, 1, _, rfl, rfl, SqT.of (m1 _ _ h), atI_nat (j := 1) rfl, a1, rfl, ⟨_, SqT.of g1⟩, fun D hD => ?_⟩
    refine lc_relX walk_tup hD (by rw [hl]; exact small1000 (by omega)) (fun i H' v => ∀ d, (toDL l)[i]? = some d → Rep CU H' v d)
      (fun i H H' v m h d e => (h d e).same m) (fun i H H' v l' bu e0 h d e => (h d e).but bu e0 tr_lst) (fun H' m => SqT.of (m _ _ g1)) (fun i y H6 H7 hi m pr hy N hN => ?_) mono_name (fun H' zs m f hlz hR => ?_)
    · obtain ⟨rfl, hy⟩ := hy
      have hil : i < l.length := by omega
      have hk1 : i < ks.length := by omega
      have ed : (toDL l)[i]? = some (toD l[i]) := by rw [toDL_map, List.getElem?_map, List.getElem?_eq_getElem hil]; rfl
      have er : (rowsD ks (toDL l))[i]? = some (.tup [.str ks[i], toD l[i]]) := by
        unfold rowsD
        rw [List.getElem?_map, (List.getElem?_zip_eq_some (z := (ks[i], toD l[i]))).mpr ⟨List.getElem?_eq_getElem hk1, ed⟩]
        rfl
      obtain ⟨b, u0, u1, rfl, hb, _, q1⟩ := rep2 (hs i y _ hy er)
      refine ⟨rfl, _, rfl, b, _, 1, _, rfl, rfl, SqT.of ((m1.trans m) _ _ hb), atI_nat (j := 1) rfl, hN _ _ (fun _ _ z => z) fun d e => ?_⟩
      rw [ed] at e
      cases e
      exact q1.same (m1.trans m)
    · exact kk D zs H' (m1.trans m) f ⟨by rw [hlz, hl, lr]; show l.length = (toDL l).length; rw [toDL_map, List.length_map], fun i v d e1 e2 => hR i v e1 d e2⟩
  | «at» p q x c =>
    obtain ⟨a, v0, v1, v2, v3, v4, rfl, h, r0, r1, r2, r3, r4⟩ := rep5 hx
    obtain ⟨rfl, _⟩ := rep_str r0
    refine ⟨_, rfl, a, _, 0, _, rfl, rfl, SqT.of h, atI_nat (j := 0) rfl, _, rfl, (by show 2 ≤ sizeLine; decide), fun tp0 htp0 => ⟨tp0, _, rfl, .inr (SqT.of upd_same), rfl, rfl, _, rfl, in_no (by decide +kernel) ?_⟩⟩
    have m1 := same_new (o := .tup [.str "tuple", .str "join"]) htp0
    generalize (upd H tp0 (.tup [.str "tuple", .str "join"])) = H1 at m1 ⊢
    refine ⟨_, rfl, rfl, _, rfl, st_no (by decide +kernel) ?_⟩
    refine ⟨_, rfl, rfl, _, rfl, st_yes rfl ?_⟩
    exact ⟨_, rfl, a, _, 3, _, rfl, rfl, SqT.of (m1 _ _ h), atI_nat (j := 3) rfl, (by show 1 ≤ sizeLine; decide), fun l hl => kk l _ _ (m1.trans (same_new hl)) upd_same (its1 (r3.same (m1.trans (same_new hl))))⟩
  | same x y =>
    obtain ⟨a, v0, v1, v2, rfl, h, r0, r1, r2⟩ := rep3 hx
    obtain ⟨rfl, _⟩ := rep_str r0
    refine ⟨_, rfl, a, _, 0, _, rfl, rfl, SqT.of h, atI_nat (j := 0) rfl, _, rfl, (by show 2 ≤ sizeLine; decide), fun tp0 htp0 => ⟨tp0, _, rfl, .inr (SqT.of upd_same), rfl, rfl, _, rfl, in_no (by decide +kernel) ?_⟩⟩
    have m1 := same_new (o := .tup [.str "tuple", .str "join"]) htp0
    generalize (upd H tp0 (.tup [.str "tuple", .str "join"])) = H1 at m1 ⊢
    refine ⟨_, rfl, rfl, _, rfl, st_no (by decide +kernel) ?_⟩
    refine ⟨_, rfl, rfl, _, rfl, st_no (by decide +kernel) ?_⟩
    refine ⟨_, rfl, (by show 4 ≤ sizeLine; decide), fun tp htp => ⟨tp, _, rfl, .inr (SqT.of upd_same), rfl, rfl, _, rfl, in_yes (by decide +kernel) ?_⟩⟩
    have n2 := same_new (o := .tup [.str "if", .str "same", .str "size", .str "pick"]) htp
    generalize (upd H1 tp (.tup [.str "if", .str "same", .str "size", .str "pick"])) = H2 at n2 ⊢
    have m2 := m1.trans n2
    refine ⟨_, rfl, 1, rfl, a, _, rfl, SqT.of (m2 _ _ h), (fun z => by have := z.1; revert this; show ¬ HT.sIx 3 0 (some 1) = 0; decide), fun p hp => ?_⟩
    have n3 := same_new (o := .tup [v1, v2]) hp
    have f3 := at_new (o := .tup [v1, v2]) hp
    have mm := m2.trans n3
    exact lst p [v1, v2] _ _ mm f3 (its2 (r1.same mm) (r2.same mm)) rfl
  | pick x y =>
    obtain ⟨a, v0, v1, v2, rfl, h, r0, r1, r2⟩ := rep3 hx
    obtain ⟨rfl, _⟩ := rep_str r0
    refine ⟨_, rfl, a, _, 0, _, rfl, rfl, SqT.of h, atI_nat (j := 0) rfl, _, rfl, (by show 2 ≤ sizeLine; decide), fun tp0 htp0 => ⟨tp0, _, rfl, .inr (SqT.of upd_same), rfl, rfl, _, rfl, in_no (by decide +kernel) ?_⟩⟩
    have m1 := same_new (o := .tup [.str "tuple", .str "join"]) htp0
    generalize (upd H tp0 (.tup [.str "tuple", .str "join"])) = H1 at m1 ⊢
    refine ⟨_, rfl, rfl, _, rfl, st_no (by decide +kernel) ?_⟩
    refine ⟨_, rfl, rfl, _, rfl, st_no (by decide +kernel) ?_⟩
    refine ⟨_, rfl, (by show 4 ≤ sizeLine; decide), fun tp htp => ⟨tp, _, rfl, .inr (SqT.of upd_same), rfl, rfl, _, rfl, in_yes (by decide +kernel) ?_⟩⟩
    have n2 := same_new (o := .tup [.str "if", .str "same", .str "size", .str "pick"]) htp
    generalize (upd H1 tp (.tup [.str "if", .str "same", .str "size", .str "pick"])) = H2 at n2 ⊢
    have m2 := m1.trans n2
    refine ⟨_, rfl, 1, rfl, a, _, rfl, SqT.of (m2 _ _ h), (fun z => by have := z.1; revert this; show ¬ HT.sIx 3 0 (some 1) = 0; decide), fun p hp => ?_⟩
    have n3 := same_new (o := .tup [v1, v2]) hp
    have f3 := at_new (o := .tup [v1, v2]) hp
    have mm := m2.trans n3
    exact lst p [v1, v2] _ _ mm f3 (its2 (r1.same mm) (r2.same mm)) rfl
  | size x =>
    obtain ⟨a, v0, v1, rfl, h, r0, r1⟩ := rep2 hx
    obtain ⟨rfl, _⟩ := rep_str r0
    refine ⟨_, rfl, a, _, 0, _, rfl, rfl, SqT.of h, atI_nat (j := 0) rfl, _, rfl, (by show 2 ≤ sizeLine; decide), fun tp0 htp0 => ⟨tp0, _, rfl, .inr (SqT.of upd_same), rfl, rfl, _, rfl, in_no (by decide +kernel) ?_⟩⟩
    have m1 := same_new (o := .tup [.str "tuple", .str "join"]) htp0
    generalize (upd H tp0 (.tup [.str "tuple", .str "join"])) = H1 at m1 ⊢
    refine ⟨_, rfl, rfl, _, rfl, st_no (by decide +kernel) ?_⟩
    refine ⟨_, rfl, rfl, _, rfl, st_no (by decide +kernel) ?_⟩
    refine ⟨_, rfl, (by show 4 ≤ sizeLine; decide), fun tp htp => ⟨tp, _, rfl, .inr (SqT.of upd_same), rfl, rfl, _, rfl, in_yes (by decide +kernel) ?_⟩⟩
    have n2 := same_new (o := .tup [.str "if", .str "same", .str "size", .str "pick"]) htp
    generalize (upd H1 tp (.tup [.str "if", .str "same", .str "size", .str "pick"])) = H2 at n2 ⊢
    have m2 := m1.trans n2
    refine ⟨_, rfl, 1, rfl, a, _, rfl, SqT.of (m2 _ _ h), (fun z => by have := z.1; revert this; show ¬ HT.sIx 2 0 (some 1) = 0; decide), fun p hp => ?_⟩
    have n3 := same_new (o := .tup [v1]) hp
    have f3 := at_new (o := .tup [v1]) hp
    have mm := m2.trans n3
    exact lst p [v1] _ _ mm f3 (its1 (r1.same mm)) rfl
  | _ => exact hop.elim
end
end K04

namespace K04
open PySem L2 XR VT
/-- what joined asks of the values -/
structure JOk (ds : List D) : Prop where
  few : ds.length ≤ 3
  nums : ∀ i, D.int i ∈ ds → i.natAbs.log2 < 1920 ∧ (toString i : Str).length ≤ 2000000
  out : ∀ s, jn ds = some (.str s) → TxOk s
def spJoin (CU CM : Addr) : Sp := fun vs H Q E => ∃ (e : V) (p : Addr) (zs : List V) (ds : List D), vs = [e, .ref p] ∧ H p = some (.lst zs) ∧ Its CU H zs ds ∧ JOk ds ∧
  (∀ (d : D) (r : V) (H' : Hp), jn ds = some d → Same H H' → Rep CU H' r d → Q r H') ∧ (jn ds = none → Mis CM e H E)
def kn (zs : List V) (ds : List D) (i : Nat) : List (V × D) := ((zs.zip ds).take i).filter fun q => !isU q.2
theorem kn_step {zs : List V} {ds : List D} {i : Nat} {v : V} {d : D} (h1 : zs[i]? = some v) (h2 : ds[i]? = some d) : kn zs ds (i + 1) = kn zs ds i ++ (if isU d then [] else [(v, d)]) := by
  unfold kn
  rw [List.take_add_one, (List.getElem?_zip_eq_some (z := (v, d))).mpr ⟨h1, h2⟩, List.filter_append]
  congr 1
  cases e : isU d <;> simp [e]
theorem kn_len (zs : List V) (ds : List D) (i : Nat) : (kn zs ds i).length ≤ ds.length := by
  unfold kn
  refine Nat.le_trans (List.length_filter_le _ _) ?_
  rw [List.length_take, List.length_zip]
  omega
theorem sum_le3 : ∀ {l : List Nat} {B : Nat}, (∀ x ∈ l, x ≤ B) → l.sum ≤ l.length * B
  | [], _, _ => Nat.zero_le _
  | x :: l, B, h => by
    have h1 := h x List.mem_cons_self
    have h2 := sum_le3 (l := l) (B := B) fun y hy => h y (List.mem_cons_of_mem _ hy)
    rw [List.sum_cons, List.length_cons, Nat.add_mul]
    omega
section
variable {P : Program} {w : World} {K : PySem.W.Frag} {mg : Str → Option Value} {base : Heap} {CU : Addr}
variable {CM CP : Addr}
theorem scJo : FnScope ["expression", "values", "known", "value"] ["expression", "values"] (defScope sJoin) := ⟨rfl, rfl, rfl, by decide +kernel, rfl, by decide +kernel, by decide +kernel⟩
theorem ok_join {f fI fM : Addr} {fd dI dM : FuncData} (F : Fun K "joined" "joined" sJoin f fd) (T : Txt K mg CU) (BU : Bare K mg "Unknown" CU) (NM : New1 P w K mg base CP "Misfit" "expression" CM fM dM)
    (GI : FnOk P w K mg base CX0 1 fI dI ["thing"] (spD CU fun d => .bl (intD d))) (gI : mg "is_integer" = some (.ref fI)) (kI : PySem.W.keepIn K (.ref fI) = true) (bI : Binds K dI ["thing"] []) :
    FnOk P w K mg base (L2.CX P w) 3 f fd ["expression", "values"] (spJoin CU CM) := by
  refine F.okX scJo (fun vs H Q E h => ?_) (fun cdv A outer s H vs Q E hr h => ?_)
  · obtain ⟨e, p, zs, ds, rfl, _⟩ := h
    rfl
  obtain ⟨e, p, zs, ds, rfl, hp, hI, jo, kok, kno⟩ := h
  have hr1 : Room 1 _ := hr.mono (by decide)
  have hrM : Room 2 _ := hr
  refine ⟨_, (pss_cons (ps_setLc (i := 2) (own := [("value", 3)]) (g := gName 3) (tt := tNot (tB (tCB (rIsi K) (tCons (tVar 3) (tCons (tC (V.ref CU)) tNil))))) rfl scJo.nd rfl rfl (sw_true rfl rfl rfl (by decide +kernel)) (pi_list (pv 1)) (blkOk_by (own := [("value", 3)]) (N := ["expression", "values", "known", "value"]) (sc := (defScope sJoin)) (by decide +kernel)) (fun _ _ _ _ _ => pg_name (i := 3) scJo.nd rfl (Or.inl rfl)) (fun _ _ _ _ _ => pts_one (pt_not (pt_val (pe_callB call_isi (by rfl) T.isi (by decide +kernel) (pa_cons (pv 3) (pa_cons (pe_glob (v := .ref CU) rfl T.gU rfl) pa_nil)))))) (fun _ _ _ _ _ => (pv 3)))
      (pss_cons (ps_if (pt_not (pt_val (pe_callB (cr_all rfl) (by rfl) T.all (by decide +kernel) (pa_cons (pe_lc (own := [("value", 3)]) (g := gName 3) (tt := tYes) (te := tOrV (tCB (rIsi K) (tCons (tVar 3) (tCons (tC (V.ty "str")) tNil))) (tCall (spD CU fun d => .bl (intD d)) [] E0 (tCons (tVar 3) tNil))) rfl scJo.nd (pi_list (pv 2)) (blkOk_by (own := [("value", 3)]) (N := ["expression", "values", "known", "value"]) (sc := (defScope sJoin)) (by decide +kernel)) (fun _ _ _ _ _ => pg_name (i := 3) scJo.nd rfl (Or.inl rfl)) (fun _ _ _ _ _ => pts_nil) (fun _ _ _ _ _ => (pe_or (pe_callB call_isi (by rfl) T.isi (by decide +kernel) (pa_cons (pv 3) (pa_cons (pe_bltn (v := .ty "str") (by rfl) T.str (by decide +kernel) rfl) pa_nil))) (pe_one (pe_call GI hr1 rfl gI kI bI .nil pass0 (pa_cons (pv 3) pa_nil)))))) pa_nil)))) (pss_one (ps_raiseI NM rfl hrM (takes_of rfl rfl rfl rfl) rfl (pv 0))) pss_nil)
      (pss_one (ps_ret (pe_ifExp (pt_cmpR op_eq (pe_callB call_len (by rfl) T.len (by decide +kernel) (pa_cons (pv 2) pa_nil)) (pe_callB call_len (by rfl) T.len (by decide +kernel) (pa_cons (pv 1) pa_nil)) (nomark _)) (pe_join pe_str (pe_lc (own := [("value", 3)]) (g := gName 3) (tt := tYes) rfl scJo.nd (pi_list (pv 1)) (blkOk_by (own := [("value", 3)]) (N := ["expression", "values", "known", "value"]) (sc := (defScope sJoin)) (by decide +kernel)) (fun _ _ _ _ _ => pg_name (i := 3) scJo.nd rfl (Or.inl rfl)) (fun _ _ _ _ _ => pts_nil) (fun _ _ _ _ _ => (pe_callTy call_strSI (by rfl) T.str (by decide +kernel) (pa_cons (pv 3) pa_nil))))) (pe_bare BU rfl)))))), ?_⟩
  have few := jo.few
  have lz := hI.1
  -- known
  refine ⟨_, rfl, p, rfl, ⟨_, SqL.of hp⟩, fun D hD => ?_⟩
  refine lc_it walk_list (fun i H' => Same H H' ∧ H' D = some (.lst ((kn zs ds i).map (·.1)))) ⟨same_new hD, upd_same⟩ (fun i H' _ q => SqL.of (q.1 _ _ hp)) ?_ ?_
  · rintro i x H2 H3 hi ⟨m, f⟩ ⟨rfl, hx⟩
    have dj : ds[i]? = some ds[i] := List.getElem?_eq_getElem (by omega)
    have rx := (hI.2 i x _ hx dj).same m
    have st := kn_step hx dj
    refine ⟨rfl, _, rfl, _, _, _, _, _, rfl, .own _, Rep.ty T rx, T.kU _, _, rfl, ?_⟩
    cases hu : isU ds[i] with
    | true =>
      rw [hu] at st
      refine iteF ⟨m, ?_⟩
      rw [st]
      simpa using f
    | false =>
      rw [hu] at st
      refine iteT ⟨_, rfl, _, f, ?_, fun b o e' => ?_, ?_⟩
      · have := kn_len zs ds i
        rw [List.length_map]
        exact small1000 (by omega)
      · rw [upd_ne (ne_of_none e' hD)]
        exact m _ _ e'
      · rw [upd_same, st, List.map_append]
        rfl
  rintro H1 ⟨m1, f1⟩
  have ek : kn zs ds zs.length = (zs.zip ds).filter fun q => !isU q.2 := by
    unfold kn
    rw [List.take_of_length_le]
    rw [List.length_zip]
    omega
  have lk : ((zs.zip ds).filter fun q => !isU q.2).length ≤ 3 := Nat.le_trans (List.length_filter_le _ _) (by rw [List.length_zip]; omega)
  rw [ek] at f1
  generalize hkn : ((zs.zip ds).filter fun q => !isU q.2) = kz at f1 lk
  have kzr : ∀ q ∈ kz, Rep CU H q.1 q.2 ∧ isU q.2 = false := fun q hq => by
    rw [← hkn] at hq
    obtain ⟨h1, h2⟩ := List.mem_filter.mp hq
    obtain ⟨i, hi, ei⟩ := List.mem_iff_getElem.mp h1
    have e2 : (zs.zip ds)[i]? = some q := by rw [List.getElem?_eq_getElem hi, ei]
    obtain ⟨a1, a2⟩ := List.getElem?_zip_eq_some.mp e2
    exact ⟨hI.2 i _ _ a1 a2, by simpa using h2⟩
  -- all([..])
  refine ⟨_, rfl, D, rfl, ⟨_, SqL.of f1⟩, fun D2 hD2 => ?_⟩
  refine lc_pure walk_list hD2 (kz.map fun q => V.bl (okJ q.2)) (by rw [List.length_map, List.length_map]) (by rw [List.length_map]; exact small1000 (by omega)) (fun H' m => SqL.of (m _ _ f1)) (fun i x H6 H7 z hz m hy N hN => ?_) mono_name (fun H2 m2 f2 => ?_)
  · obtain ⟨rfl, hx⟩ := hy
    rw [List.getElem?_map] at hx hz
    obtain ⟨q, hq, rfl⟩ := Option.map_eq_some_iff.mp hx
    rw [hq] at hz
    cases hz
    obtain ⟨rq, uq⟩ := kzr q (List.mem_of_getElem? hq)
    have rq' := (rq.same m1).same m
    refine ⟨rfl, _, rfl, _, _, _, _, _, rfl, .ty _, Rep.ty T rq', T.kit "str" (by decide) q.2, _, rfl, ?_⟩
    obtain ⟨qv, qd⟩ := q
    have uq' : isU qd = false := uq
    cases hs : isD "str" qd with
    | true =>
      have e1 : okJ qd = true := by cases qd <;> first | rfl | (simp [isD, tyN] at hs)
      have hN' : ∀ H5, Same _ H5 → N (.bl (okJ qd)) H5 := hN
      rw [e1] at hN'
      exact iteT (hN' _ (fun _ _ z => z))
    | false =>
      refine iteF ⟨_, rfl, qv, qd, rfl, rq', fun H8 m8 => ?_⟩
      have e1 : intD qd = okJ qd := by
        cases qd with
        | unk => cases uq'
        | str y => simp [isD, tyN] at hs
        | _ => rfl
      show N (.bl (intD qd)) H8
      rw [e1]
      exact hN H8 m8
  rw [show kz.map (fun q => V.bl (okJ q.2)) = (kz.map fun q => okJ q.2).map V.bl from by rw [List.map_map]; rfl] at f2
  refine ⟨D2, _, rfl, SqL.of f2, _, rfl, ?_⟩
  have eall : (kz.map fun q => okJ q.2).all id = ds.all okJ := by
    rw [List.all_map, Bool.eq_iff_iff, List.all_eq_true, List.all_eq_true]
    constructor
    · intro h d hd
      obtain ⟨i, hi, rfl⟩ := List.mem_iff_getElem.mp hd
      cases hu : isU ds[i] with
      | true =>
        cases hdd : ds[i] with
        | unk => rfl
        | _ => rw [hdd] at hu; cases hu
      | false =>
        have hz : i < zs.length := by omega
        have mm : (zs[i], ds[i]) ∈ kz := by
          rw [← hkn]
          refine List.mem_filter.mpr ⟨List.mem_of_getElem? ((List.getElem?_zip_eq_some (z := (zs[i], ds[i])) (i := i)).mpr ⟨List.getElem?_eq_getElem hz, List.getElem?_eq_getElem hi⟩), by simpa using hu⟩
        exact h _ mm
    · intro h q hq
      rw [← hkn] at hq
      exact h _ (List.of_mem_zip (a := q.1) (b := q.2) (List.mem_filter.mp hq).1).2
  rw [eall]
  cases ha : ds.all okJ with
  | false => exact iteT ⟨_, rfl, (kno (by unfold jn; rw [if_neg (by rw [ha]; decide)])).raise (m1.trans m2)⟩
  | true =>
  refine iteF ?_
  have f1' := m2 _ _ f1
  have mm := m1.trans m2
  refine ⟨_, rfl, _, _, rfl, .inl ⟨_, SqL.of f1', rfl⟩, _, rfl, _, _, rfl, .inl ⟨_, SqL.of (mm _ _ hp), rfl⟩, rfl, _, rfl, ?_⟩
  have ejn : jn ds = some (if ds.any isU then .unk else .str (Txt.join "" (ds.map txt))) := by unfold jn; rw [if_pos ha]
  cases hany : ds.any isU with
  | true =>
    rw [hany] at ejn
    have ne : ¬ V.int ((kz.map (·.1)).length : Int) = V.int (zs.length : Int) := fun z => by
      have z' := V.int.inj z
      rw [List.length_map] at z'
      have z2 : ((zs.zip ds).filter fun q => !isU q.2).length = (zs.zip ds).length := by rw [hkn, List.length_zip]; omega
      have z3 := List.length_filter_eq_length_iff.mp z2
      obtain ⟨d, hd, hu⟩ := List.any_eq_true.mp hany
      obtain ⟨i, hi, rfl⟩ := List.mem_iff_getElem.mp hd
      have hz : i < zs.length := by omega
      have := z3 (zs[i], ds[i]) (List.mem_of_getElem? ((List.getElem?_zip_eq_some (z := (zs[i], ds[i])) (i := i)).mpr ⟨List.getElem?_eq_getElem hz, List.getElem?_eq_getElem hi⟩))
      rw [show isU (zs[i], ds[i]).2 = true from hu] at this
      cases this
    rw [decide_eq_false ne]
    refine iteF fun a1 dx h1 h2 h3 => kok .unk _ _ ejn (mm.trans ((same_new h2).trans (same_new (by rw [upd_ne (Ne.symm h3)]; exact h1)))) (.unk upd_same)
  | false =>
    rw [hany] at ejn
    have nou : ∀ d ∈ ds, isU d = false := fun d hd => by
      have := List.any_eq_false.mp hany d hd
      simpa using this
    have eqk : V.int ((kz.map (·.1)).length : Int) = V.int (zs.length : Int) := by
      have z2 : ((zs.zip ds).filter fun q => !isU q.2).length = (zs.zip ds).length := List.length_filter_eq_length_iff.mpr fun q hq => by
        have := nou _ (List.of_mem_zip (a := q.1) (b := q.2) hq).2
        simp [this]
      rw [hkn, List.length_zip] at z2
      congr 1
      rw [List.length_map]
      omega
    rw [decide_eq_true eqk]
    refine iteT ⟨⟨_, rfl⟩, _, rfl, p, rfl, ⟨_, SqL.of (mm _ _ hp)⟩, fun D3 hD3 => ?_⟩
    refine lc_pure walk_list hD3 (ds.map fun d => V.str (txt d)) (by rw [List.length_map]; omega) (by exact small1000 (by omega)) (fun H' m => SqL.of (m _ _ (mm _ _ hp))) (fun i x H6 H7 z hz m hy N hN => ?_) mono_name (fun H3 m3 f3 => ?_)
    · obtain ⟨rfl, hx⟩ := hy
      rw [List.getElem?_map] at hz
      obtain ⟨di, hdi, rfl⟩ := Option.map_eq_some_iff.mp hz
      have rx := hI.2 i x di hx hdi
      have okd := List.all_eq_true.mp ha di (List.mem_of_getElem? hdi)
      have nud := nou di (List.mem_of_getElem? hdi)
      refine ⟨rfl, _, rfl, ?_⟩
      cases rx with
      | str y hy => exact .inl ⟨y, rfl, hN _ (fun _ _ z => z)⟩
      | int i0 => exact .inr ⟨i0, rfl, (jo.nums i0 (List.mem_of_getElem? hdi)).1, hN _ (fun _ _ z => z)⟩
      | unk => cases nud
      | _ => cases okd
    · rw [show ds.map (fun d => V.str (txt d)) = (ds.map txt).map V.str from by rw [List.map_map]; rfl] at f3
      refine ⟨_, D3, ds.map txt, rfl, rfl, .inl (SqL.of f3), ?_, kok _ _ H3 ejn (mm.trans m3) (.str _ (jo.out _ ejn))⟩
      have hb : ∀ x ∈ (ds.map txt).map (·.length), x ≤ 2000000 := fun x hx => by
        obtain ⟨t, ht, rfl⟩ := List.mem_map.mp hx
        obtain ⟨d, hd, rfl⟩ := List.mem_map.mp ht
        obtain ⟨i, hi, rfl⟩ := List.mem_iff_getElem.mp hd
        have hz : i < zs.length := by omega
        have rx := hI.2 i zs[i] ds[i] (List.getElem?_eq_getElem hz) (List.getElem?_eq_getElem hi)
        generalize hdd : ds[i] = dd at rx
        generalize zs[i] = zz at rx
        cases rx with
        | str y hy => exact hy.2
        | int i0 => exact (jo.nums i0 (by rw [← hdd]; exact List.getElem_mem hi)).2
        | _ => exact Nat.zero_le _
      have := sum_le3 hb
      rw [List.length_map, List.length_map] at this
      have e0 : (ds.map txt).length * (Str.ofString "").length = 0 := by show _ * 0 = 0; rfl
      have h6 : ds.length * 2000000 ≤ 6000000 := by omega
      rw [e0]
      omega
end
end K04

namespace K04
open PySem L2 XR VT
abbrev sChosen : Stmt := top 26
abbrev sAttr : Stmt := top 22
def Err (CU CM : Addr) (e : X) (H : Hp) (E : XK) : Prop := ∀ (u : V) (H1 : Hp), Same H H1 → Rep CU H1 u (toD e) → Mis CM u H1 E
theorem Err.mono {CU CM : Addr} {e : X} {H H1 : Hp} {E : XK} (h : Err CU CM e H E) (m : Same H H1) : Err CU CM e H1 E := fun u H2 m2 r => h u H2 (m.trans m2) r
/-- an expression's value, n floors -/
def spWx (CU CM : Addr) (N : Nat) (ok : X → Prop) (n : Nat) : Sp := fun vs H Q E => ∃ (v : V) (p : Addr) (x : X) (nm : Nm), vs = [v, .ref p] ∧ Rep CU H v (toD x) ∧ NRep CU H p nm ∧ XG x ∧ NG nm ∧ ok x ∧ xd x < n ∧ xd x ≤ 10 ∧
  (∀ (d : D) (r : V) (H' : Hp), wk N nm n x = .ok d → Same H H' → Rep CU H' r d → Q r H') ∧ ∀ e, wk N nm n x = .error e → Err CU CM e H E
abbrev spWk (CU CM : Addr) (N n : Nat) : Sp := spWx CU CM N (fun _ => True) n
def isIf : X → Prop
  | .iff _ _ _ => True
  | _ => False
def isAt : X → Prop
  | .of _ _ _ => True
  | .at _ _ _ _ => True
  | .each _ _ _ => True
  | _ => False
theorem spWx_len {CU CM : Addr} {N n : Nat} {ok : X → Prop} {vs : List V} {H : Hp} {Q : VK} {E : XK} (h : spWx CU CM N ok n vs H Q E) : vs.length = 2 := by
  obtain ⟨v, p, x, nm, rfl, _⟩ := h
  rfl
theorem istr_eq (n : Nat) (a b : D) (wa : Wf a) (wb : Wf b) (ha : dep a < n) (hb : dep b < n) : istr n a b = decide (may n a b = true ∧ opn n a + opn n b = 0) := by
  unfold istr
  rw [same_is n a b wa wb ha hb]
  unfold res
  cases h1 : may n a b with
  | false =>
    rw [if_neg (by decide)]
    exact (decide_eq_false fun z => by cases z.1).symm
  | true =>
    rw [if_pos rfl]
    by_cases h2 : opn n a + opn n b = 0
    · rw [if_pos h2]
      exact (decide_eq_true ⟨rfl, h2⟩).symm
    · rw [if_neg h2]
      exact (decide_eq_false fun z => h2 z.2).symm
section
variable {P : Program} {w : World} {K : PySem.W.Frag} {mg : Str → Option Value} {base : Heap} {CU : Addr}
variable {CM CP : Addr}
theorem scCh : FnScope ["expression", "names", "condition", "one", "other"] ["expression", "names"] (defScope sChosen) := ⟨rfl, rfl, rfl, by decide +kernel, rfl, by decide +kernel, by decide +kernel⟩
theorem ok_chosen {f fW fZ fM : Addr} {fd dW dZ dM : FuncData} {N n k kz : Nat} (F : Fun K "chosen" "chosen" sChosen f fd) (T : Txt K mg CU) (BU : Bare K mg "Unknown" CU) (NM : New1 P w K mg base CP "Misfit" "expression" CM fM dM) (hN15 : 20 < N)
    (GW : FnOk P w K mg base (L2.CX P w) k fW dW ["expression", "names"] (spWk CU CM N n)) (gW : mg "worked" = some (.ref fW)) (kW : PySem.W.keepIn K (.ref fW) = true) (bW : Binds K dW ["expression", "names"] [])
    (GZ : FnOk P w K mg base CX0 kz fZ dZ ["one", "other"] (spIsSame CU N)) (gZ : mg "is_same" = some (.ref fZ)) (kZ : PySem.W.keepIn K (.ref fZ) = true) (bZ : Binds K dZ ["one", "other"] []) (hkz : kz ≤ k) (h2k : 2 ≤ k) :
    FnOk P w K mg base (L2.CX P w) (k + 1) f fd ["expression", "names"] (spWx CU CM N isIf (n + 1)) := by
  refine F.okX scCh (fun vs H Q E h => spWx_len h) (fun cdv A outer s H vs Q E hr h => ?_)
  obtain ⟨v, p, x, nm, rfl, hx, hN, gx, gn, ok, xn, x10, kok, kno⟩ := h
  have hrZ : Room kz _ := hr.mono hkz
  have hrM : Room 2 _ := hr.mono h2k
  cases gx with
  | @iff a b c ga gb gc => ?_
  | _ => exact ok.elim
  rw [xd] at xn x10
  obtain ⟨ad, v0, v1, v2, v3, rfl, h, r0, r1, r2, r3⟩ := rep4 hx
  refine ⟨_, (pss_cons (ps_set (i := 2) scCh.nd rfl (Or.inl rfl) (pe_callS GW hr rfl gW kW bW (fun σ => passAt (takes_of rfl rfl rfl rfl) σ) (pa_cons (pe_ix ix_tup (pv 0) pe_int (fun _ _ => rfl)) (pa_cons (pv 1) pa_nil))))
      (pss_cons (ps_if (pt_val (pe_callB call_isi (by rfl) T.isi (by decide +kernel) (pa_cons (pv 2) (pa_cons (pe_bltn (v := .ty "bool") (by rfl) T.bool (by decide +kernel) rfl) pa_nil)))) (pss_one (ps_ret (pe_callS GW hr rfl gW kW bW (fun σ => passAt (takes_of rfl rfl rfl rfl) σ) (pa_cons (pe_ifExp (pt_val (pv 2)) (pe_ix ix_tup (pv 0) pe_int (fun _ _ => rfl)) (pe_ix ix_tup (pv 0) pe_int (fun _ _ => rfl))) (pa_cons (pv 1) pa_nil))))) pss_nil)
      (pss_cons (ps_if (pt_not (pt_val (pe_callB call_isi (by rfl) T.isi (by decide +kernel) (pa_cons (pv 2) (pa_cons (pe_glob (v := .ref CU) rfl T.gU rfl) pa_nil))))) (pss_one (ps_raiseI NM rfl hrM (takes_of rfl rfl rfl rfl) rfl (pv 0))) pss_nil)
      (pss_cons (ps_par (i := 3) (j := 4) (by rfl) scCh.nd rfl rfl (by decide) rfl rfl (pa_cons (pe_callS GW hr rfl gW kW bW (fun σ => passAt (takes_of rfl rfl rfl rfl) σ) (pa_cons (pe_ix ix_tup (pv 0) pe_int (fun _ _ => rfl)) (pa_cons (pv 1) pa_nil))) (pa_cons (pe_callS GW hr rfl gW kW bW (fun σ => passAt (takes_of rfl rfl rfl rfl) σ) (pa_cons (pe_ix ix_tup (pv 0) pe_int (fun _ _ => rfl)) (pa_cons (pv 1) pa_nil))) pa_nil)) (by rfl))
      (pss_one (ps_ret (pe_ifExp (pt_val (pe_call GZ hrZ rfl gZ kZ bZ .nil pass0 (pa_cons (pv 3) (pa_cons (pv 4) pa_nil)))) (pv 3) (pe_bare BU rfl)))))))), ?_⟩
  refine ⟨_, rfl, ad, _, 1, _, rfl, rfl, SqT.of h, atI_nat (j := 1) rfl, _, rfl, v1, p, a, nm, rfl, r1, hN, ga, gn, trivial, by omega, by omega, fun t rt H1 e1 m1 hr1 => ?_, fun e ee => kno e (by show Except.bind (wk N nm n a) _ = _; rw [ee]; rfl)⟩
  have ek : ∀ y : Except X D, wk N nm (n + 1) (.iff a b c) = y → (wk N nm n a).bind (fun t => match t with
      | .bl true => wk N nm n b
      | .bl false => wk N nm n c
      | .unk => (wk N nm n b).bind fun d => (wk N nm n c).bind fun e => .ok (if may N d e = true ∧ opn N d + opn N e = 0 then d else .unk)
      | _ => .error (.iff a b c)) = y := fun y e => e
  have h' := m1 _ _ h
  have hN' := hN.same m1
  refine ⟨_, rfl, _, _, _, _, _, rfl, .ty _, Rep.ty T hr1, T.kit "bool" (by decide) t, _, rfl, ?_⟩
  have hr1' := hr1
  cases hr1' with
  | bl q =>
    refine iteT ⟨_, rfl, _, rfl, ?_⟩
    cases q with
    | true =>
      refine iteT ⟨_, rfl, ad, _, 2, _, rfl, rfl, SqT.of h', atI_nat (j := 2) rfl, _, rfl, v2, p, b, nm, rfl, r2.same m1, hN', gb, gn, trivial, by omega, by omega, fun d r H2 e2 m2 hr2 => ?_, fun e ee => ?_⟩
      · exact kok d r H2 (by show Except.bind (wk N nm n a) _ = _; rw [e1]; exact e2) (m1.trans m2) hr2
      · exact (kno e (by show Except.bind (wk N nm n a) _ = _; rw [e1]; exact ee)).mono m1
    | false =>
      refine iteF ⟨_, rfl, ad, _, 3, _, rfl, rfl, SqT.of h', atI_nat (j := 3) rfl, _, rfl, v3, p, c, nm, rfl, r3.same m1, hN', gc, gn, trivial, by omega, by omega, fun d r H2 e2 m2 hr2 => ?_, fun e ee => ?_⟩
      · exact kok d r H2 (by show Except.bind (wk N nm n a) _ = _; rw [e1]; exact e2) (m1.trans m2) hr2
      · exact (kno e (by show Except.bind (wk N nm n a) _ = _; rw [e1]; exact ee)).mono m1
  | unk hu =>
    refine iteF ⟨_, rfl, _, _, _, _, _, rfl, .own _, Rep.ty T hr1, T.kU _, _, rfl, iteF ?_⟩
    refine ⟨_, rfl, ad, _, 2, _, rfl, rfl, SqT.of h', atI_nat (j := 2) rfl, _, rfl, v2, p, b, nm, rfl, r2.same m1, hN', gb, gn, trivial, by omega, by omega, fun d r H2 e2 m2 hr2 => ?_, fun e ee => ?_⟩
    · refine ⟨_, rfl, ad, _, 3, _, rfl, rfl, SqT.of (m2 _ _ h'), atI_nat (j := 3) rfl, _, rfl, v3, p, c, nm, rfl, (r3.same m1).same m2, hN'.same m2, gc, gn, trivial, by omega, by omega, fun d3 r3' H3 e3 m3 hr3 => ?_, fun e ee => ?_⟩
      · have m13 := (m1.trans m2).trans m3
        have b1 := (wk_good gn n b d gb (by omega) e2).2
        have b2 := (wk_good gn n c d3 gc (by omega) e3).2
        refine ⟨_, _, rfl, _, rfl, _, rfl, r, r3', d, d3, rfl, hr2.same m3, hr3, by omega, by omega, fun H4 m4 => ⟨_, rfl, ?_⟩⟩
        have eq : wk N nm (n + 1) (.iff a b c) = .ok (if may N d d3 = true ∧ opn N d + opn N d3 = 0 then d else .unk) := by
          show Except.bind (wk N nm n a) _ = _
          rw [e1]
          show Except.bind (wk N nm n b) _ = _
          rw [e2]
          show Except.bind (wk N nm n c) _ = _
          rw [e3]
          rfl
        have ei : istr N d d3 = decide (may N d d3 = true ∧ opn N d + opn N d3 = 0) := istr_eq N d d3 hr2.wf hr3.wf (by omega) (by omega)
        by_cases hc : may N d d3 = true ∧ opn N d + opn N d3 = 0
        · rw [if_pos hc] at eq
          rw [ei, decide_eq_true hc]
          exact iteT ⟨_, rfl, kok d r H4 eq (m13.trans m4) ((hr2.same m3).same m4)⟩
        · rw [if_neg hc] at eq
          rw [ei, decide_eq_false hc]
          exact iteF fun a1 dx h1 h2 h3 => kok .unk _ _ eq ((m13.trans m4).trans ((same_new h2).trans (same_new (by rw [upd_ne (Ne.symm h3)]; exact h1)))) (.unk upd_same)
      · exact (kno e (by show Except.bind (wk N nm n a) _ = _; rw [e1]; show Except.bind (wk N nm n b) _ = _; rw [e2]; show Except.bind (wk N nm n c) _ = _; rw [ee]; rfl)).mono (m1.trans m2)
    · exact (kno e (by show Except.bind (wk N nm n a) _ = _; rw [e1]; show Except.bind (wk N nm n b) _ = _; rw [ee]; rfl)).mono m1
  | _ => exact iteF ⟨_, rfl, _, _, _, _, _, rfl, .own _, Rep.ty T hr1, T.kU _, _, rfl, iteT ⟨_, rfl, (kno (.iff a b c) (by show Except.bind (wk N nm n a) _ = _; rw [e1]; rfl) _ H1 m1 (hx.same m1)).raise fun _ _ z => z⟩⟩
end
end K04

namespace K04
open PySem L2 XR VT
theorem mapMO_all {α β : Type} {f : α → Option β} : ∀ {l : List α}, (∀ (i : Nat) x, l[i]? = some x → ∃ b, f x = some b) → ∃ bs, l.mapM f = some bs ∧ bs.length = l.length ∧ ∀ (i : Nat) x, l[i]? = some x → f x = bs[i]?
  | [], _ => ⟨[], rfl, rfl, fun i x h => nomatch h⟩
  | a :: l, h => by
    obtain ⟨b, hb⟩ := h 0 a rfl
    obtain ⟨bs, e, le, g⟩ := mapMO_all (f := f) (l := l) fun i x hx => h (i + 1) x hx
    refine ⟨b :: bs, ?_, by rw [List.length_cons, List.length_cons, le], fun i x hx => ?_⟩
    · rw [List.mapM_cons, hb]
      show (do let bs ← l.mapM f; pure (b :: bs)) = _
      rw [e]
      rfl
    · cases i with
      | zero => cases hx; exact hb
      | succ i => exact g i x hx
section
variable {P : Program} {w : World} {K : PySem.W.Frag} {mg : Str → Option Value} {base : Heap} {CU : Addr}
variable {CM CP : Addr}
theorem scAt : FnScope ["expression", "names", "key", "block", "attribute", "one"] ["expression", "names"] (defScope sAttr) := ⟨rfl, rfl, rfl, by decide +kernel, rfl, by decide +kernel, by decide +kernel⟩
theorem ok_attr {f fW fF fP fM : Addr} {fd dW dF dP dM : FuncData} {N n k : Nat} (F : Fun K "attribute_of" "attribute_of" sAttr f fd) (T : Txt K mg CU) (NM : New1 P w K mg base CP "Misfit" "expression" CM fM dM)
    (GW : FnOk P w K mg base (L2.CX P w) k fW dW ["expression", "names"] (spWk CU CM N n)) (gW : mg "worked" = some (.ref fW)) (kW : PySem.W.keepIn K (.ref fW) = true) (bW : Binds K dW ["expression", "names"] [])
    (GF : FnOk P w K mg base (L2.CX P w) 3 fF dF ["expression", "names", "reference"] (spFound CU CM)) (gF : mg "found_in" = some (.ref fF)) (kF : PySem.W.keepIn K (.ref fF) = true) (bF : Binds K dF ["expression", "names", "reference"] [])
    (GP : FnOk P w K mg base (L2.CX P w) 3 fP dP ["expression", "value", "key"] (spPick CU CM)) (gP : mg "picked" = some (.ref fP)) (kP : PySem.W.keepIn K (.ref fP) = true) (bP : Binds K dP ["expression", "value", "key"] []) (h3k : 3 ≤ k) :
    FnOk P w K mg base (L2.CX P w) (k + 1) f fd ["expression", "names"] (spWx CU CM N isAt (n + 1)) := by
  refine F.okX scAt (fun vs H Q E h => spWx_len h) (fun cdv A outer s H vs Q E hr h => ?_)
  obtain ⟨v, p, x, nm, rfl, hx, hN, gx, gn, ok, xn, x10, kok, kno⟩ := h
  have hrP : Room 3 _ := hr.mono h3k
  have hrM : Room 2 _ := hr.mono (by omega)
  have hu := hu_of hr
  refine ⟨_, (pss_cons (ps_set (i := 2) scAt.nd rfl (Or.inl rfl) (pe_ifExp (pt_cmpR op_eq (pe_ix ix_tup (pv 0) pe_int (fun _ _ => rfl)) pe_str (nomark _)) (pe_callS GW hr rfl gW kW bW (fun σ => passAt (takes_of rfl rfl rfl rfl) σ) (pa_cons (pe_ix ix_tup (pv 0) pe_int (fun _ _ => rfl)) (pa_cons (pv 1) pa_nil))) pe_non))
      (pss_cons (ps_asg (pe_tup (pa_cons (pe_callS GF hrP rfl gF kF bF (fun σ => passAt (takes_of rfl rfl rfl rfl) σ) (pa_cons (pv 0) (pa_cons (pv 1) (pa_cons (pe_tup (pa_cons pe_str (pa_cons (pe_ix ix_tup (pv 0) pe_int (fun _ _ => rfl)) (pa_cons (pe_ix ix_tup (pv 0) pe_int (fun _ _ => rfl)) pa_nil)))) pa_nil)))) (pa_cons (pe_ix ix_tup (pv 0) (pe_un un_neg pe_int) (fun _ _ => rfl)) pa_nil))) (pg_tup rfl (pgs_cons (pg_name (i := 3) scAt.nd rfl (Or.inr rfl)) (pgs_cons (pg_name (i := 4) scAt.nd rfl (Or.inr rfl)) pgs_nil))))
      (pss_cons (ps_if (pt_cmpR op_eq (pe_ix ix_tup (pv 0) pe_int (fun _ _ => rfl)) pe_str (nomark _)) (pss_one (ps_ret (pe_callS GP hrP rfl gP kP bP (fun σ => passAt (takes_of rfl rfl rfl rfl) σ) (pa_cons (pv 0) (pa_cons (pe_callS GP hrP rfl gP kP bP (fun σ => passAt (takes_of rfl rfl rfl rfl) σ) (pa_cons (pv 0) (pa_cons (pv 3) (pa_cons (pv 2) pa_nil)))) (pa_cons (pv 4) pa_nil)))))) pss_nil)
      (pss_cons (ps_if (pt_cmpR op_eq (pe_ix ix_tup (pv 0) pe_int (fun _ _ => rfl)) pe_str (nomark _)) (pss_one (ps_ret (pe_callS GP hrP rfl gP kP bP (fun σ => passAt (takes_of rfl rfl rfl rfl) σ) (pa_cons (pv 0) (pa_cons (pv 3) (pa_cons (pv 4) pa_nil)))))) pss_nil)
      (pss_cons (ps_if (pt_val (pe_callB call_isi (by rfl) T.isi (by decide +kernel) (pa_cons (pv 3) (pa_cons (pe_bltn (v := .ty "dict") (by rfl) T.dict (by decide +kernel) rfl) pa_nil)))) (pss_one (ps_ret (pe_lock (pe_dcx (E := unE H E) (own := [("key", 2)]) (g := gName 2) (tt := tYes) rfl rfl rfl (takes_un (takes_of rfl rfl rfl rfl)) scAt.nd (pi_keys (pv 3)) (blkOk_by (own := [("key", 2)]) (N := ["expression", "names", "key", "block", "attribute", "one"]) (sc := (defScope sAttr)) (by decide +kernel)) (fun _ _ _ _ _ => pg_name (i := 2) scAt.nd rfl (Or.inl rfl)) (fun _ _ _ _ _ => pts_nil) (fun _ _ _ _ _ => (pv 2)) (fun _ _ _ _ _ _ hpass => (pe_callS GP hrP rfl gP kP bP hpass (pa_cons (pv 0) (pa_cons (pe_dget hu (pv 3) (pv 2) (fun _ _ => rfl)) (pa_cons (pv 4) pa_nil))))))))) pss_nil)
      (pss_cons (ps_if (pt_val (pe_callB call_isi (by rfl) T.isi (by decide +kernel) (pa_cons (pv 3) (pa_cons (pe_glob (v := .ref CU) rfl T.gU rfl) pa_nil)))) (pss_one (ps_ret (pv 3))) pss_nil)
      (pss_cons (ps_if (pt_not (pt_val (pe_callB call_isi (by rfl) T.isi (by decide +kernel) (pa_cons (pv 3) (pa_cons (pe_bltn (v := .ty "tuple") (by rfl) T.tuple (by decide +kernel) rfl) pa_nil))))) (pss_one (ps_raiseI NM rfl hrM (takes_of rfl rfl rfl rfl) rfl (pv 0))) pss_nil)
      (pss_one (ps_ret (pe_callTy call_tuple_of (by rfl) T.tuple (by decide +kernel) (pa_cons (pe_lcx (E := E) (own := [("one", 5)]) (g := gName 5) (tt := tYes) rfl rfl rfl (takes_of rfl rfl rfl rfl) scAt.nd (pi_tup (pv 3)) (blkOk_by (own := [("one", 5)]) (N := ["expression", "names", "key", "block", "attribute", "one"]) (sc := (defScope sAttr)) (by decide +kernel)) (fun _ _ _ _ _ => pg_name (i := 5) scAt.nd rfl (Or.inl rfl)) (fun _ _ _ _ _ => pts_nil) (fun _ _ _ _ _ _ hpass => (pe_callS GP hrP rfl gP kP bP hpass (pa_cons (pv 0) (pa_cons (pv 5) (pa_cons (pv 4) pa_nil)))))) pa_nil))))))))))), ?_⟩
  cases gx with
  | of a b c =>
    obtain ⟨ad, v0, v1, v2, v3, rfl, h, r0, r1, r2, r3⟩ := rep4 hx
    obtain ⟨rfl, _⟩ := rep_str r0
    obtain ⟨rfl, _⟩ := rep_str r1
    obtain ⟨rfl, _⟩ := rep_str r2
    refine ⟨_, rfl, ad, _, 0, _, rfl, rfl, SqT.of h, atI_nat (j := 0) rfl, rfl, _, rfl, st_no (by decide +kernel) ?_⟩
    refine ⟨_, rfl, _, rfl, _, rfl, ad, _, 1, _, rfl, rfl, SqT.of h, atI_nat (j := 1) rfl, _, rfl, ad, _, 2, _, rfl, rfl, SqT.of h, atI_nat (j := 2) rfl, (by show 3 ≤ sizeLine; decide), fun tp htp => ?_⟩
    refine ⟨_, p, tp, nm, ["block", a, b], rfl, hN.same (same_new htp), upd_same, fun d r el rr => ?_, fun el => ?_⟩
    · have m1 := same_new (o := .tup [.str "block", .str a, .str b]) htp
      generalize (upd H tp (.tup [.str "block", .str a, .str b])) = H1 at m1 rr ⊢
      have h1 := m1 _ _ h
      refine ⟨_, rfl, 1, rfl, ad, _, -1, _, rfl, rfl, SqT.of h1, (by exact atI_last [.str "of", .str a, .str b] v3), (by show 2 ≤ sizeLine; decide), fun tq htq => ⟨tq, _, rfl, SqT.of upd_same, rfl, _, _, rfl, _, _, rfl, rfl, ?_⟩⟩
      have n2 := same_new (o := .tup [r, v3]) htq
      generalize (upd H1 tq (.tup [r, v3])) = H2 at n2 ⊢
      have m2 := m1.trans n2
      have h2 := m2 _ _ h
      have rr2 := rr.same n2
      refine ⟨_, rfl, ad, _, 0, _, rfl, rfl, SqT.of h2, atI_nat (j := 0) rfl, rfl, _, rfl, st_no (by decide +kernel) ?_⟩
      refine ⟨_, rfl, ad, _, 0, _, rfl, rfl, SqT.of h2, atI_nat (j := 0) rfl, rfl, _, rfl, st_yes rfl ?_⟩
      refine ⟨_, rfl, _, rfl, _, rfl, _, r, v3, d, .str c, rfl, rr2, r3.same m2, fun d2 r2' H3 e3 m3 q3 => ?_, fun e3 => ?_⟩
      · exact kok d2 r2' H3 (by show opt _ _ = _; rw [el]; exact congrArg (opt _) e3) (m2.trans m3) ((q3 (fun _ => True) rr2.all (r3.same m2).all).ofKeep.same m3)
      · exact kno (.of a b c) (by show opt _ _ = _; rw [el]; exact congrArg (opt _) e3) _ _ m2 (hx.same m2)
    · exact kno (.of a b c) (by show opt _ _ = _; rw [el]; rfl) _ _ (same_new htp) (hx.same (same_new htp))
  | @«at» a b y c gy =>
    rw [xd] at xn x10
    obtain ⟨ad, v0, v1, v2, v3, v4, rfl, h, r0, r1, r2, r3, r4⟩ := rep5 hx
    obtain ⟨rfl, _⟩ := rep_str r0
    obtain ⟨rfl, _⟩ := rep_str r1
    obtain ⟨rfl, _⟩ := rep_str r2
    refine ⟨_, rfl, ad, _, 0, _, rfl, rfl, SqT.of h, atI_nat (j := 0) rfl, rfl, _, rfl, st_yes rfl ?_⟩
    refine ⟨_, rfl, ad, _, 3, _, rfl, rfl, SqT.of h, atI_nat (j := 3) rfl, _, rfl, v3, p, y, nm, rfl, r3, hN, gy, gn, trivial, by omega, by omega, fun t rt H0 e1 m0 hr1 => ?_, fun e ee => kno e (by show Except.bind (wk N nm n y) _ = _; rw [ee]; rfl)⟩
    have h0 := m0 _ _ h
    refine ⟨_, rfl, _, rfl, _, rfl, ad, _, 1, _, rfl, rfl, SqT.of h0, atI_nat (j := 1) rfl, _, rfl, ad, _, 2, _, rfl, rfl, SqT.of h0, atI_nat (j := 2) rfl, (by show 3 ≤ sizeLine; decide), fun tp htp => ?_⟩
    have bad : ∀ {o : Option D}, o = none → ((look nm ["block", a, b]).bind fun v => (pck v t).bind fun u => pck u (.str c)) = o → wk N nm (n + 1) (.at a b y c) = .error (.at a b y c) := fun {o} z e => by
      show Except.bind (wk N nm n y) _ = _
      rw [e1]
      show opt _ _ = _
      rw [e, z]
      rfl
    refine ⟨_, p, tp, nm, ["block", a, b], rfl, (hN.same m0).same (same_new htp), upd_same, fun d r el rr => ?_, fun el => ?_⟩
    · have n1 := same_new (o := .tup [.str "block", .str a, .str b]) htp
      generalize (upd H0 tp (.tup [.str "block", .str a, .str b])) = H1 at n1 rr ⊢
      have m1 := m0.trans n1
      have h1 := m1 _ _ h
      refine ⟨_, rfl, 1, rfl, ad, _, -1, _, rfl, rfl, SqT.of h1, (by exact atI_last [.str "at", .str a, .str b, v3] v4), (by show 2 ≤ sizeLine; decide), fun tq htq => ⟨tq, _, rfl, SqT.of upd_same, rfl, _, _, rfl, _, _, rfl, rfl, ?_⟩⟩
      have n2 := same_new (o := .tup [r, v4]) htq
      generalize (upd H1 tq (.tup [r, v4])) = H2 at n2 ⊢
      have m2 := m1.trans n2
      have h2 := m2 _ _ h
      have rr2 := rr.same n2
      have rt2 := (hr1.same n1).same n2
      refine ⟨_, rfl, ad, _, 0, _, rfl, rfl, SqT.of h2, atI_nat (j := 0) rfl, rfl, _, rfl, st_yes rfl ?_⟩
      refine ⟨_, rfl, _, rfl, _, rfl, _, rfl, _, r, rt, d, t, rfl, rr2, rt2, fun d2 r2' H3 e3 m3 q3 => ?_, fun e3 => ?_⟩
      · have m13 := m2.trans m3
        have rr3 := (q3 (fun _ => True) rr2.all rt2.all).ofKeep.same m3
        have rc := r4.same m13
        refine ⟨_, rfl, _, r2', v4, d2, .str c, rfl, rr3, rc, fun d4 r4' H4 e4 m4 q4 => ?_, fun e4 => ?_⟩
        · exact kok d4 r4' H4 (by show Except.bind (wk N nm n y) _ = _; rw [e1]; show opt _ _ = _; rw [el, Option.bind_some, e3, Option.bind_some, e4]; rfl) (m13.trans m4) ((q4 (fun _ => True) rr3.all rc.all).ofKeep.same m4)
        · exact kno _ (bad e4 (by rw [el, Option.bind_some, e3, Option.bind_some])) _ _ m13 (hx.same m13)
      · exact kno _ (bad rfl (by rw [el, Option.bind_some, e3]; rfl)) _ _ m2 (hx.same m2)
    · exact kno _ (bad rfl (by rw [el]; rfl)) _ _ (m0.trans (same_new htp)) ((hx.same m0).same (same_new htp))
  | each a b c =>
    obtain ⟨ad, v0, v1, v2, v3, rfl, h, r0, r1, r2, r3⟩ := rep4 hx
    obtain ⟨rfl, _⟩ := rep_str r0
    obtain ⟨rfl, _⟩ := rep_str r1
    obtain ⟨rfl, _⟩ := rep_str r2
    refine ⟨_, rfl, ad, _, 0, _, rfl, rfl, SqT.of h, atI_nat (j := 0) rfl, rfl, _, rfl, st_no (by decide +kernel) ?_⟩
    refine ⟨_, rfl, _, rfl, _, rfl, ad, _, 1, _, rfl, rfl, SqT.of h, atI_nat (j := 1) rfl, _, rfl, ad, _, 2, _, rfl, rfl, SqT.of h, atI_nat (j := 2) rfl, (by show 3 ≤ sizeLine; decide), fun tp htp => ?_⟩
    refine ⟨_, p, tp, nm, ["block", a, b], rfl, hN.same (same_new htp), upd_same, fun d r el rr => ?_, fun el => ?_⟩
    · have m1 := same_new (o := .tup [.str "block", .str a, .str b]) htp
      generalize (upd H tp (.tup [.str "block", .str a, .str b])) = H1 at m1 rr ⊢
      have h1 := m1 _ _ h
      refine ⟨_, rfl, 1, rfl, ad, _, -1, _, rfl, rfl, SqT.of h1, (by exact atI_last [.str "each", .str a, .str b] v3), (by show 2 ≤ sizeLine; decide), fun tq htq => ⟨tq, _, rfl, SqT.of upd_same, rfl, _, _, rfl, _, _, rfl, rfl, ?_⟩⟩
      have n2 := same_new (o := .tup [r, v3]) htq
      generalize (upd H1 tq (.tup [r, v3])) = H2 at n2 ⊢
      have m2 := m1.trans n2
      have h2 := m2 _ _ h
      have rr2 := rr.same n2
      have rc := r3.same m2
      have good : ∀ d2, eachD d (.str c) = some d2 → wk N nm (n + 1) (.each a b c) = .ok d2 := fun d2 e3 => by
        show opt _ _ = _
        rw [el]
        exact congrArg (opt _) e3
      have bad : eachD d (.str c) = none → wk N nm (n + 1) (.each a b c) = .error (.each a b c) := fun e3 => by
        show opt _ _ = _
        rw [el]
        exact congrArg (opt _) e3
      refine ⟨_, rfl, ad, _, 0, _, rfl, rfl, SqT.of h2, atI_nat (j := 0) rfl, rfl, _, rfl, st_no (by decide +kernel) ?_⟩
      refine ⟨_, rfl, ad, _, 0, _, rfl, rfl, SqT.of h2, atI_nat (j := 0) rfl, rfl, _, rfl, st_no (by decide +kernel) ?_⟩
      have ty := Rep.ty T rr2
      refine ⟨_, rfl, _, _, _, _, _, rfl, .ty _, ty, T.kit "dict" (by decide) d, _, rfl, ?_⟩
      have rr2' := rr2
      cases rr2' with
      | @map aB vs ks ds hB hv hk hz nd ko hs =>
        refine iteT ?_
        refine ⟨aB, _, hB, trivial, fun od => ?_⟩
        refine ⟨_, rfl, aB, od, rfl, .inl ⟨_, upd_same, fun D hD => ?_⟩⟩
        have lkv : (mkv ks vs).length = ks.length := mkv_length (hk.trans hv.symm)
        have nDa : D ≠ aB := fun z => by
          rw [z, upd_same] at hD
          cases hD
        have hD0 : H2 D = none := by rw [upd_ne nDa] at hD; exact hD
        have nfz : ∀ o' u', H aB ≠ some (.frz o' u') := fun o' u' z => by
          rw [m2 _ _ z] at hB
          cases hB
        have rcl : Rep CU (upd H2 aB (.frz od (.dK (mkv ks vs)))) v3 (.str c) := by
          obtain ⟨e, tx⟩ := rep_str rc
          rw [e]
          exact .str _ tx
        refine dc_rel walk_keys hD ks lkv.symm nd (by rw [lkv]; exact small1000 (by omega)) (fun i H' v => ∃ d0 di, ds[i]? = some d0 ∧ pck d0 (.str c) = some di ∧ Rep CU (keepH (fun b => True ∧ b ≠ D) H') v di)
          (fun i H H' v m ⟨d0, di, e, e2, q⟩ => ⟨d0, di, e, e2, q.keepS m⟩) (fun i H H' v bu ⟨d0, di, e, e2, q⟩ => ⟨d0, di, e, e2, q.same (keep_but bu)⟩) (fun H' m => m _ _ upd_same) (fun i x k0 H6 H7 hki m fD pr hy N' hN' => ?_) mono_name (fun H' ys m f hly hR => ?_)
        · obtain ⟨rfl, ky, vy, hx', rfl⟩ := hy
          obtain ⟨k1, hk1, rfl, hv1⟩ := mkv_get hx'
          rw [hki] at hk1
          cases hk1
          have hil : i < ks.length := (List.getElem?_eq_some_iff.mp hki).1
          have dj : ds[i]? = some ds[i] := List.getElem?_eq_getElem (by omega)
          have hm := List.mem_of_getElem? dj
          have hr1 : Rep CU (upd H2 aB (.frz od (.dK (mkv ks vs)))) vy ds[i] := Rep.off rr2 (hs i vy _ hv1 dj) (by rw [sz]; have := sz_mem hm; omega)
          refine ⟨rfl, _, rfl, _, rfl, _, rfl, _, rfl, aB, vy, rfl, .inl ⟨_, Sum.inr k0, .inr ⟨od, m _ _ upd_same⟩, rfl, (mkv_val nd hki hv1).symm⟩, _, rfl, _, vy, v3, ds[i], .str c, rfl, hr1.same m, rcl.same m, fun di r8 H8 e8 m8 q8 => hN' r8 H8 m8 ⟨_, di, dj, e8, ?_⟩, fun e8 dx H8 m8 f8 => ?_⟩
          · exact (q8 _ (hr1.all.notNew hD m) (rcl.all.notNew hD m)).keepS m8
          · have fr := m8 _ _ (m _ _ (upd_same (H := H2) (a := aB) (o := .frz od (.dK (mkv ks vs)))))
            have m3 := same_lock hB (m.trans m8)
            refine ⟨aB, od, _, fr, nfz, kno _ (bad ?_) _ _ (m2.trans m3) ((hx.same m2).same m3) dx _ (fun _ _ z => z) ?_⟩
            · show (ds.mapM (pck · (.str c))).map (VT.D.map ks) = none
              rw [mapMO_none _ dj e8]
              rfl
            · rw [upd_ne (fun z => by rw [z, fr] at f8; cases f8)]
              exact f8
        · have fr := m _ _ (upd_same (H := H2) (a := aB) (o := .frz od (.dK (mkv ks vs))))
          have m3 := same_lock hB m
          obtain ⟨bs, eb, lb, gb⟩ := mapMO_all (f := (pck · (.str c))) (l := ds) fun i d0 e0 => by
            have hi : i < ys.length := by rw [hly, lkv, hk]; exact (List.getElem?_eq_some_iff.mp e0).1
            obtain ⟨d1, di, e1, e2, _⟩ := hR i ys[i] (List.getElem?_eq_getElem hi)
            rw [e0] at e1
            cases e1
            exact ⟨di, e2⟩
          refine ⟨fr, kok (.map ks bs) _ _ (good _ ?_) (m2.trans m3) ?_⟩
          · show (ds.mapM (pck · (.str c))).map (VT.D.map ks) = _
            rw [eb]
            rfl
          · refine .map (by rw [upd_ne nDa]; exact f) (by rw [hly, lkv, hk, lb]) (by rw [hk, lb]) (by rw [lb]; exact hz) nd ko fun i v di hv' hdi => ?_
            obtain ⟨d1, d2, e1, e2, q⟩ := hR i v hv'
            rw [gb i d1 e1, hdi] at e2
            cases e2
            exact (keep_unlock fr q).ofKeep
      | @tup aB xs l hB hl hz hs =>
        refine iteF ⟨_, rfl, _, _, _, _, _, rfl, .own _, ty, T.kU _, _, rfl, iteF ⟨_, rfl, _, _, _, _, _, rfl, .ty _, ty, T.kit "tuple" (by decide) _, _, rfl, iteF ?_⟩⟩
        refine ⟨_, rfl, aB, rfl, ⟨_, SqT.of hB⟩, fun D hD => ?_⟩
        refine lc_relX walk_tup hD (by rw [hl]; exact small1000 (by omega)) (fun i H' v => ∃ d0 di, l[i]? = some d0 ∧ pck d0 (.str c) = some di ∧ Rep CU H' v di)
          (fun i H H' v m ⟨d0, di, e, e2, q⟩ => ⟨d0, di, e, e2, q.same m⟩) (fun i H H' v l' bu e0 ⟨d0, di, e, e2, q⟩ => ⟨d0, di, e, e2, q.but bu e0 tr_lst⟩) (fun H' m => SqT.of (m _ _ hB)) (fun i x H6 H7 hi m pr hy N' hN' => ?_) mono_name (fun H' zs m f hlz hR => ?_)
        · obtain ⟨rfl, hx'⟩ := hy
          have dj : l[i]? = some l[i] := List.getElem?_eq_getElem (by omega)
          have hr1 := (hs i x _ hx' dj).same m
          refine ⟨rfl, _, rfl, _, rfl, _, rfl, _, x, v3, l[i], .str c, rfl, hr1, rc.same m, fun di r8 H8 e8 m8 q8 => hN' r8 H8 m8 ⟨_, di, dj, e8, (q8 (fun _ => True) hr1.all (rc.same m).all).ofKeep.same m8⟩, fun e8 => ?_⟩
          refine kno _ (bad ?_) _ _ (m2.trans m) ((hx.same m2).same m)
          show (l.mapM (pck · (.str c))).map VT.D.tup = none
          rw [mapMO_none _ dj e8]
          rfl
        · obtain ⟨bs, eb, lb, gb⟩ := mapMO_all (f := (pck · (.str c))) (l := l) fun i d0 e0 => by
            have hi : i < zs.length := by rw [hlz, hl]; exact (List.getElem?_eq_some_iff.mp e0).1
            obtain ⟨d1, di, e1, e2, _⟩ := hR i zs[i] (List.getElem?_eq_getElem hi)
            rw [e0] at e1
            cases e1
            exact ⟨di, e2⟩
          refine ⟨D, zs, rfl, .inl ⟨SqL.of f, fun q hq => ?_⟩⟩
          refine kok (.tup bs) _ _ (good _ ?_) ((m2.trans m).trans (same_new hq)) ?_
          · show (l.mapM (pck · (.str c))).map VT.D.tup = _
            rw [eb]
            rfl
          · refine .tup upd_same (by omega) (by omega) fun i v di hv' hdi => ?_
            obtain ⟨d1, d2, e1, e2, q'⟩ := hR i v hv'
            rw [gb i d1 e1, hdi] at e2
            cases e2
            exact q'.same (same_new hq)
      | unk hu => exact iteF ⟨_, rfl, _, _, _, _, _, rfl, .own _, ty, T.kU _, _, rfl, iteT ⟨_, rfl, kok .unk _ H2 (good _ rfl) m2 rr2⟩⟩
      | _ => exact iteF ⟨_, rfl, _, _, _, _, _, rfl, .own _, ty, T.kU _, _, rfl, iteF ⟨_, rfl, _, _, _, _, _, rfl, .ty _, ty, T.kit "tuple" (by decide) _, _, rfl, iteT ⟨_, rfl, (kno _ (bad rfl) _ _ m2 (hx.same m2)).raise fun _ _ z => z⟩⟩⟩
    · exact kno (.each a b c) (by show opt _ _ = _; rw [el]; rfl) _ _ (same_new htp) (hx.same (same_new htp))
  | _ => exact ok.elim
end
end K04

namespace K04
open PySem L2 XR VT
open TL
abbrev sWorked : Stmt := top 20
def isOp2 : X → Prop
  | .tup _ => True
  | .join _ => True
  | .map _ _ => True
  | .same _ _ => True
  | .pick _ _ => True
  | .size _ => True
  | _ => False
def fin (N : Nat) (x : X) (ds : List D) : Except X D :=
  match x with
  | .tup _ => .ok (.tup ds)
  | .map ks _ => .ok (.map ks ds)
  | .join _ => opt x (jn ds)
  | .same _ _ => (match ds with | [d, e] => .ok (same N d e) | _ => .error x)
  | .size _ => (match ds with | [d] => opt x (szd d) | _ => .error x)
  | .pick _ _ => (match ds with | [d, e] => opt x (pck d e) | _ => .error x)
  | _ => .error x
theorem m2 {f : X → Except X D} {a b : X} : [a, b].mapM f = (f a).bind fun d => (f b).bind fun e => .ok [d, e] := by
  rw [List.mapM_cons, List.mapM_cons, List.mapM_nil]
  cases f a with
  | error e => rfl
  | ok d =>
    cases f b with
    | error e => rfl
    | ok d => rfl
theorem m1 {f : X → Except X D} {a : X} : [a].mapM f = (f a).bind fun d => .ok [d] := by
  rw [List.mapM_cons, List.mapM_nil]
  cases f a with
  | error e => rfl
  | ok d => rfl
theorem wk_op {N n : Nat} {nm : Nm} {x : X} (h : isOp2 x) : wk N nm (n + 1) x = ((kidsX x).mapM (wk N nm n)).bind (fin N x) := by
  cases x with
  | tup l => rfl
  | map ks l => rfl
  | join l => rfl
  | same a b =>
    show (wk N nm n a).bind (fun d => (wk N nm n b).bind fun e => .ok (same N d e)) = ([a, b].mapM (wk N nm n)).bind _
    rw [m2]
    cases wk N nm n a with
    | error e => rfl
    | ok d =>
      cases wk N nm n b with
      | error e => rfl
      | ok d => rfl
  | pick a b =>
    show (wk N nm n a).bind (fun d => (wk N nm n b).bind fun e => opt _ (pck d e)) = ([a, b].mapM (wk N nm n)).bind _
    rw [m2]
    cases wk N nm n a with
    | error e => rfl
    | ok d =>
      cases wk N nm n b with
      | error e => rfl
      | ok d => rfl
  | size a =>
    show (wk N nm n a).bind (fun d => opt _ (szd d)) = ([a].mapM (wk N nm n)).bind _
    rw [m1]
    cases wk N nm n a with
    | error e => rfl
    | ok d => rfl
  | _ => exact h.elim
theorem kids_good {x : X} (h : isOp2 x) (g : XG x) : (kidsX x).length ≤ 3 ∧ isOp x ∧ ∀ y ∈ kidsX x, XG y ∧ xd y < xd x := by
  cases g with
  | tup h1 h2 => exact ⟨h2, trivial, fun y hy => ⟨h1 y hy, Nat.lt_of_le_of_lt (xd_mem hy) (by rw [xd]; exact Nat.lt_succ_self _)⟩⟩
  | map h1 h2 h3 h4 => exact ⟨h2, h3, fun y hy => ⟨h1 y hy, Nat.lt_of_le_of_lt (xd_mem hy) (by rw [xd]; exact Nat.lt_succ_self _)⟩⟩
  | join h1 h2 => exact ⟨h2, trivial, fun y hy => ⟨h1 y hy, Nat.lt_of_le_of_lt (xd_mem hy) (by rw [xd]; exact Nat.lt_succ_self _)⟩⟩
  | @same a b ha hb =>
    refine ⟨(by show 2 ≤ 3; decide), trivial, fun y hy => ?_⟩
    rw [xd]
    rcases List.mem_cons.mp hy with rfl | hy
    · exact ⟨ha, by omega⟩
    · rcases List.mem_cons.mp hy with rfl | hy
      · exact ⟨hb, by omega⟩
      · cases hy
  | @pick a b ha hb =>
    refine ⟨(by show 2 ≤ 3; decide), trivial, fun y hy => ?_⟩
    rw [xd]
    rcases List.mem_cons.mp hy with rfl | hy
    · exact ⟨ha, by omega⟩
    · rcases List.mem_cons.mp hy with rfl | hy
      · exact ⟨hb, by omega⟩
      · cases hy
  | @size a ha =>
    refine ⟨(by show 1 ≤ 3; decide), trivial, fun y hy => ?_⟩
    rw [xd]
    rcases List.mem_cons.mp hy with rfl | hy
    · exact ⟨ha, by omega⟩
    · cases hy
  | _ => exact h.elim
theorem mapME_all {α β ε : Type} {f : α → Except ε β} : ∀ {l : List α}, (∀ (i : Nat) x, l[i]? = some x → ∃ b, f x = .ok b) → ∃ bs, l.mapM f = .ok bs ∧ bs.length = l.length ∧ ∀ (i : Nat) x b, l[i]? = some x → bs[i]? = some b → f x = .ok b
  | [], _ => ⟨[], rfl, rfl, fun i x b h => nomatch h⟩
  | a :: l, h => by
    obtain ⟨b, hb⟩ := h 0 a rfl
    obtain ⟨bs, e, le, g⟩ := mapME_all (f := f) (l := l) fun i x hx => h (i + 1) x hx
    refine ⟨b :: bs, ?_, by rw [List.length_cons, List.length_cons, le], fun i x c hx hc => ?_⟩
    · rw [List.mapM_cons, hb]
      show (do let bs ← l.mapM f; pure (b :: bs)) = _
      rw [e]
      rfl
    · cases i with
      | zero => cases hx; cases hc; exact hb
      | succ i => exact g i x c hx hc
theorem toDL_get {l : List X} {i : Nat} {y : X} (h : l[i]? = some y) : (toDL l)[i]? = some (toD y) := by rw [toDL_map, List.getElem?_map, h]; rfl
theorem head_op {x : X} (h : isOp2 x) : ∃ w rest, toD x = .tup (.str w :: rest) ∧ (w = "tuple" ∨ w = "map" ∨ w = "join" ∨ w = "same" ∨ w = "size" ∨ w = "pick") := by
  cases x with
  | tup l => exact ⟨_, _, rfl, .inl rfl⟩
  | map ks l => exact ⟨_, _, rfl, .inr (.inl rfl)⟩
  | join l => exact ⟨_, _, rfl, .inr (.inr (.inl rfl))⟩
  | same a b => exact ⟨_, _, rfl, .inr (.inr (.inr (.inl rfl)))⟩
  | size a => exact ⟨_, _, rfl, .inr (.inr (.inr (.inr (.inl rfl))))⟩
  | pick a b => exact ⟨_, _, rfl, .inr (.inr (.inr (.inr (.inr rfl))))⟩
  | _ => exact h.elim
theorem rep_head {CU : Addr} {H : Hp} {v : V} {w : Str} {l : List D} (h : Rep CU H v (.tup (.str w :: l))) : ∃ a xs, v = .ref a ∧ H a = some (.tup (.str w :: xs)) := by
  cases h with
  | @tup a xs _ h hl hz hs =>
    match xs, hl with
    | x :: xs, _ =>
      obtain ⟨rfl, _⟩ := rep_str (hs 0 x (.str w) rfl rfl)
      exact ⟨a, xs, rfl, h⟩
theorem p3le {n : Nat} (h : n ≤ 10) : 20 * 3 ^ n ≤ 2000000 := Nat.le_trans (p3 _ 10 h) (by decide)
theorem jok {N n : Nat} {nm : Nm} (gn : NG nm) {l : List X} {ds : List D} (hl : l.length ≤ 3) (g : ∀ y ∈ l, XG y ∧ xd y ≤ 9) (e : l.mapM (wk N nm n) = .ok ds) : JOk ds := by
  obtain ⟨a1, a2⟩ := mapM_get _ e
  have bd : ∀ d ∈ ds, BD (20 * 3 ^ 9) d := fun d hd => by
    obtain ⟨y, hy, ey⟩ := a2 d hd
    obtain ⟨g1, g2⟩ := g y hy
    exact (wk_good gn n y d g1 (by omega) ey).1.mono (p3 _ _ g2)
  refine ⟨by omega, fun i hi => ?_, fun s hs => ?_⟩
  · cases bd _ hi with
    | int _ h => exact ⟨int_log h, Nat.le_trans (int_len h) (by decide)⟩
  · obtain ⟨b1, _⟩ := jn_bd bd (by omega) (p3_20 9) hs
    cases b1 with
    | str _ h1 h2 => exact ⟨h1, Nat.le_trans h2 (by decide)⟩
end K04

namespace K04
open PySem L2 XR VT
section
variable {P : Program} {w : World} {K : PySem.W.Frag} {mg : Str → Option Value} {base : Heap} {CU : Addr}
variable {CM CP : Addr}
theorem one_of {α β : Type} {ws : List α} {ds : List β} (h : ws.length = ds.length) (h2 : ds.length = 1) : ∃ z0 d0, ws = [z0] ∧ ds = [d0] := by
  obtain ⟨z0, e1⟩ := List.length_eq_one_iff.mp (h.trans h2)
  obtain ⟨d0, e2⟩ := List.length_eq_one_iff.mp h2
  exact ⟨z0, d0, e1, e2⟩
theorem two_l {α : Type} : ∀ {ws : List α}, ws.length = 2 → ∃ z0 z1, ws = [z0, z1]
  | [z0, z1], _ => ⟨z0, z1, rfl⟩
theorem two_of {α β : Type} {ws : List α} {ds : List β} (h : ws.length = ds.length) (h2 : ds.length = 2) : ∃ z0 z1 d0 d1, ws = [z0, z1] ∧ ds = [d0, d1] := by
  obtain ⟨z0, z1, e1⟩ := two_l (h.trans h2)
  obtain ⟨d0, d1, e2⟩ := two_l h2
  exact ⟨z0, z1, d0, d1, e1, e2⟩
theorem scWk : FnScope ["expression", "names", "word", "values", "inner", "row", "value"] ["expression", "names"] (defScope sWorked) := ⟨rfl, rfl, rfl, by decide +kernel, rfl, by decide +kernel, by decide +kernel⟩
theorem ok_worked {f fA fC fI fJ fL fZ fF fP : Addr} {fd dA dC dI dJ dL dZ dF dP : FuncData} {N n k kz : Nat} (F : Fun K "worked" "worked" sWorked f fd) (T : Txt K mg CU) (hN15 : 20 < N)
    (GW : FnOk P w K mg base (L2.CX P w) k f fd ["expression", "names"] (spWk CU CM N n)) (gW : mg "worked" = some (.ref f)) (bW : Binds K fd ["expression", "names"] [])
    (GA : FnOk P w K mg base (L2.CX P w) (k + 1) fA dA ["expression", "names"] (spWx CU CM N isAt (n + 1))) (gA : mg "attribute_of" = some (.ref fA)) (kA : PySem.W.keepIn K (.ref fA) = true) (bA : Binds K dA ["expression", "names"] [])
    (GC : FnOk P w K mg base (L2.CX P w) (k + 1) fC dC ["expression", "names"] (spWx CU CM N isIf (n + 1))) (gC : mg "chosen" = some (.ref fC)) (kC : PySem.W.keepIn K (.ref fC) = true) (bC : Binds K dC ["expression", "names"] [])
    (GI : FnOk P w K mg base CX0 1 fI dI ["expression"] (spInner CU)) (gI : mg "inner_of" = some (.ref fI)) (kI : PySem.W.keepIn K (.ref fI) = true) (bI : Binds K dI ["expression"] [])
    (GJ : FnOk P w K mg base (L2.CX P w) 3 fJ dJ ["expression", "values"] (spJoin CU CM)) (gJ : mg "joined" = some (.ref fJ)) (kJ : PySem.W.keepIn K (.ref fJ) = true) (bJ : Binds K dJ ["expression", "values"] [])
    (GL : FnOk P w K mg base (L2.CX P w) 3 fL dL ["expression", "value"] (spSize CU CM)) (gL : mg "size_of" = some (.ref fL)) (kL : PySem.W.keepIn K (.ref fL) = true) (bL : Binds K dL ["expression", "value"] [])
    (GZ : FnOk P w K mg base CX0 kz fZ dZ ["one", "other"] (spSame CU N)) (gZ : mg "same" = some (.ref fZ)) (kZ : PySem.W.keepIn K (.ref fZ) = true) (bZ : Binds K dZ ["one", "other"] [])
    (GF : FnOk P w K mg base (L2.CX P w) 3 fF dF ["expression", "names", "reference"] (spFound CU CM)) (gF : mg "found_in" = some (.ref fF)) (kF : PySem.W.keepIn K (.ref fF) = true) (bF : Binds K dF ["expression", "names", "reference"] [])
    (GP : FnOk P w K mg base (L2.CX P w) 3 fP dP ["expression", "value", "key"] (spPick CU CM)) (gP : mg "picked" = some (.ref fP)) (kP : PySem.W.keepIn K (.ref fP) = true) (bP : Binds K dP ["expression", "value", "key"] []) (h3k : 3 ≤ k) (hkz : kz ≤ k) :
    FnOk P w K mg base (L2.CX P w) (k + 2) f fd ["expression", "names"] (spWk CU CM N (n + 1)) := by
  have kW := F.kp
  refine F.okX scWk (fun vs H Q E h => spWx_len h) (fun cdv A outer s H vs Q E hr h => ?_)
  obtain ⟨v, p, x, nm, rfl, hx, hN, gx, gn, _, xn, x10, kok, kno⟩ := h
  have hrP : Room 3 _ := hr.mono (by omega)
  have hr1 : Room 1 _ := hr.mono (by omega)
  have hrW : Room k _ := hr.mono (by omega)
  have hrZ : Room kz _ := hr.mono (by omega)
  refine ⟨_, (pss_cons (ps_set (i := 2) scWk.nd rfl (Or.inl rfl) (pe_ix ix_tup (pv 0) pe_int (fun _ _ => rfl)))
      (pss_cons (ps_if (pt_cmpR op_eq (pv 2) pe_str (nomark _)) (pss_one (ps_ret (pe_ix ix_tup (pv 0) pe_int (fun _ _ => rfl)))) pss_nil)
      (pss_cons (ps_if (pt_cmpR op_in_seq (pv 2) (pe_tup (pa_cons pe_str (pa_cons pe_str pa_nil))) (by rfl)) (pss_one (ps_ret (pe_callS GF hrP rfl gF kF bF (fun σ => passAt (takes_of rfl rfl rfl rfl) σ) (pa_cons (pv 0) (pa_cons (pv 1) (pa_cons (pv 0) pa_nil)))))) pss_nil)
      (pss_cons (ps_if (pt_cmpR op_eq (pv 2) pe_str (nomark _)) (pss_one (ps_ret (pe_callS GP hrP rfl gP kP bP (fun σ => passAt (takes_of rfl rfl rfl rfl) σ) (pa_cons (pv 0) (pa_cons (pe_callS GF hrP rfl gF kF bF (fun σ => passAt (takes_of rfl rfl rfl rfl) σ) (pa_cons (pv 0) (pa_cons (pv 1) (pa_cons (pe_tup (pa_cons pe_str (pa_cons (pe_ix ix_tup (pv 0) pe_int (fun _ _ => rfl)) pa_nil))) pa_nil)))) (pa_cons (pe_ix ix_tup (pv 0) pe_int (fun _ _ => rfl)) pa_nil)))))) pss_nil)
      (pss_cons (ps_if (pt_cmpR op_in_seq (pv 2) (pe_tup (pa_cons pe_str (pa_cons pe_str (pa_cons pe_str pa_nil)))) (by rfl)) (pss_one (ps_ret (pe_callS GA hr rfl gA kA bA (fun σ => passAt (takes_of rfl rfl rfl rfl) σ) (pa_cons (pv 0) (pa_cons (pv 1) pa_nil))))) pss_nil)
      (pss_cons (ps_if (pt_cmpR op_eq (pv 2) pe_str (nomark _)) (pss_one (ps_ret (pe_callS GC hr rfl gC kC bC (fun σ => passAt (takes_of rfl rfl rfl rfl) σ) (pa_cons (pv 0) (pa_cons (pv 1) pa_nil))))) pss_nil)
      (pss_cons (ps_setLcx (i := 3) (E := E) (own := [("inner", 4)]) (g := gName 4) (tt := tYes) rfl rfl rfl (takes_of rfl rfl rfl rfl) scWk.nd rfl rfl (sw_true rfl rfl rfl (by decide +kernel)) (pi_list (pe_call GI hr1 rfl gI kI bI .nil pass0 (pa_cons (pv 0) pa_nil))) (blkOk_by (own := [("inner", 4)]) (N := ["expression", "names", "word", "values", "inner", "row", "value"]) (sc := (defScope sWorked)) (by decide +kernel)) (fun _ _ _ _ _ => pg_name (i := 4) scWk.nd rfl (Or.inl rfl)) (fun _ _ _ _ _ => pts_nil) (fun _ _ _ _ _ _ hpass => (pe_callS GW hrW rfl gW kW bW hpass (pa_cons (pv 4) (pa_cons (pv 1) pa_nil)))))
      (pss_cons (ps_if (pt_cmpR op_eq (pv 2) pe_str (nomark _)) (pss_one (ps_ret (pe_callTy call_tuple_of (by rfl) T.tuple (by decide +kernel) (pa_cons (pv 3) pa_nil)))) pss_nil)
      (pss_cons (ps_if (pt_cmpR op_eq (pv 2) pe_str (nomark _)) (pss_one (ps_ret (pe_dc (own := [("row", 5), ("value", 6)]) (g := gTup K 2 (gCons (gName 5) (gCons (gName 6) gNil))) (tt := tYes) (tk := tOp (rIxT K) (tVar 5) (tC (V.int 0))) rfl scWk.nd (XZ.pi_zipM (by rfl) T.zip (pa_cons (pe_ix ix_tup (pv 0) pe_int (fun _ _ => rfl)) (pa_cons (pv 3) pa_nil))) (blkOk_by (own := [("row", 5), ("value", 6)]) (N := ["expression", "names", "word", "values", "inner", "row", "value"]) (sc := (defScope sWorked)) (by decide +kernel)) (fun _ _ _ _ _ => (pg_tup rfl (pgs_cons (pg_name (i := 5) scWk.nd rfl (Or.inl rfl)) (pgs_cons (pg_name (i := 6) scWk.nd rfl (Or.inl rfl)) pgs_nil)))) (fun _ _ _ _ _ => pts_nil) (fun _ _ _ _ _ => (pe_ix ix_tup (pv 5) pe_int (fun _ _ => rfl))) (fun _ _ _ _ _ => (pv 6))))) pss_nil)
      (pss_cons (ps_if (pt_cmpR op_eq (pv 2) pe_str (nomark _)) (pss_one (ps_ret (pe_callS GJ hrP rfl gJ kJ bJ (fun σ => passAt (takes_of rfl rfl rfl rfl) σ) (pa_cons (pv 0) (pa_cons (pv 3) pa_nil))))) pss_nil)
      (pss_cons (ps_if (pt_cmpR op_eq (pv 2) pe_str (nomark _)) (pss_one (ps_ret (pe_call GZ hrZ rfl gZ kZ bZ .nil pass0 (pa_cons (pe_ix ix_list (pv 3) pe_int (fun _ _ => rfl)) (pa_cons (pe_ix ix_list (pv 3) pe_int (fun _ _ => rfl)) pa_nil))))) pss_nil)
      (pss_cons (ps_if (pt_cmpR op_eq (pv 2) pe_str (nomark _)) (pss_one (ps_ret (pe_callS GL hrP rfl gL kL bL (fun σ => passAt (takes_of rfl rfl rfl rfl) σ) (pa_cons (pv 0) (pa_cons (pe_ix ix_list (pv 3) pe_int (fun _ _ => rfl)) pa_nil))))) pss_nil)
      (pss_one (ps_ret (pe_callS GP hrP rfl gP kP bP (fun σ => passAt (takes_of rfl rfl rfl rfl) σ) (pa_cons (pv 0) (pa_cons (pe_ix ix_list (pv 3) pe_int (fun _ _ => rfl)) (pa_cons (pe_ix ix_list (pv 3) pe_int (fun _ _ => rfl)) pa_nil)))))))))))))))))), ?_⟩
  by_cases op : isOp2 x
  · obtain ⟨kl, kop, kg⟩ := kids_good op gx
    obtain ⟨w, rest, eD, hw⟩ := head_op op
    obtain ⟨ad, xs0, rfl, h⟩ := rep_head (eD ▸ hx)
    refine ⟨_, rfl, ad, _, 0, _, rfl, rfl, SqT.of h, atI_nat (j := 0) rfl, ?_⟩
    refine ⟨_, rfl, rfl, _, rfl, st_no (by rcases hw with rfl | rfl | rfl | rfl | rfl | rfl <;> decide +kernel) ?_⟩
    refine ⟨_, rfl, (by show 2 ≤ sizeLine; decide), fun tp1 htp1 => ⟨tp1, _, rfl, .inr (SqT.of upd_same), rfl, rfl, _, rfl, in_no (by rcases hw with rfl | rfl | rfl | rfl | rfl | rfl <;> decide +kernel) ?_⟩⟩
    have n1 := same_new (o := .tup [.str "param", .str "own"]) htp1
    generalize (upd H tp1 (.tup [.str "param", .str "own"])) = H1 at n1 ⊢
    refine ⟨_, rfl, rfl, _, rfl, st_no (by rcases hw with rfl | rfl | rfl | rfl | rfl | rfl <;> decide +kernel) ?_⟩
    refine ⟨_, rfl, (by show 3 ≤ sizeLine; decide), fun tp2 htp2 => ⟨tp2, _, rfl, .inr (SqT.of upd_same), rfl, rfl, _, rfl, in_no (by rcases hw with rfl | rfl | rfl | rfl | rfl | rfl <;> decide +kernel) ?_⟩⟩
    have n2 := same_new (o := .tup [.str "of", .str "at", .str "each"]) htp2
    generalize (upd H1 tp2 (.tup [.str "of", .str "at", .str "each"])) = H2 at n2 ⊢
    have m2 := n1.trans n2
    refine ⟨_, rfl, rfl, _, rfl, st_no (by rcases hw with rfl | rfl | rfl | rfl | rfl | rfl <;> decide +kernel) ?_⟩
    refine ⟨_, rfl, _, x, rfl, hx.same m2, kop, fun pL zs H3 n3 f3 hI => ?_⟩
    have m3 := m2.trans n3
    have lk : zs.length = (kidsX x).length := by rw [hI.1, toDL_map, List.length_map]
    refine ⟨pL, rfl, ⟨_, SqL.of f3⟩, fun D hD => ?_⟩
    refine lc_relX walk_list hD (by rw [lk]; exact small1000 (by omega)) (fun i H' v => ∃ y d, (kidsX x)[i]? = some y ∧ wk N nm n y = .ok d ∧ Rep CU H' v d)
      (fun i H H' v m ⟨y, d, e, e2, q⟩ => ⟨y, d, e, e2, q.same m⟩) (fun i H H' v l' bu e0 ⟨y, d, e, e2, q⟩ => ⟨y, d, e, e2, q.but bu e0 tr_lst⟩) (fun H' m => SqL.of (m _ _ f3)) (fun i z H6 H7 hi m pr hy N' hN' => ?_) mono_name (fun H4 ws n4 f4 hlw hR => ?_)
    · obtain ⟨rfl, hz⟩ := hy
      have ek : (kidsX x)[i]? = some (kidsX x)[i] := List.getElem?_eq_getElem (by omega)
      obtain ⟨gy, xy⟩ := kg _ (List.mem_of_getElem? ek)
      have rz := (hI.2 i z _ hz (toDL_get ek)).same m
      refine ⟨rfl, _, rfl, _, rfl, z, p, _, nm, rfl, rz, (hN.same m3).same m, gy, gn, trivial, by omega, by omega, fun d r H8 e8 m8 hr8 => hN' r H8 m8 ⟨_, d, ek, e8, hr8⟩, fun e ee => ?_⟩
      refine (kno e ?_).mono (m3.trans m)
      rw [wk_op op, mapM_err _ ek ee fun j y hj hy => ?_]
      · rfl
      · obtain ⟨_, _, y', d, e1, e2, _⟩ := pr j hj
        rw [hy] at e1
        cases e1
        exact ⟨d, e2⟩
    obtain ⟨ds, eds, lds, gds⟩ := mapME_all (f := wk N nm n) (l := kidsX x) fun i y hy => by
      have hi : i < ws.length := by rw [hlw, lk]; exact (List.getElem?_eq_some_iff.mp hy).1
      obtain ⟨y', d, e1, e2, _⟩ := hR i ws[i] (List.getElem?_eq_getElem hi)
      rw [hy] at e1
      cases e1
      exact ⟨d, e2⟩
    have lw : ws.length = ds.length := by omega
    have hI4 : Its CU H4 ws ds := ⟨lw, fun i v d hv hd => by
      obtain ⟨y, d', e1, e2, q⟩ := hR i v hv
      rw [gds i y d e1 hd] at e2
      cases e2
      exact q⟩
    have m4 := m3.trans n4
    have h4 := m4 _ _ h
    have hx4 := hx.same m4
    have ew : wk N nm (n + 1) x = fin N x ds := by rw [wk_op op, eds]; rfl
    have dl : ∀ i d, ds[i]? = some d → dep d < N := fun i d hd => by
      have hi : i < (kidsX x).length := by rw [← lds]; exact (List.getElem?_eq_some_iff.mp hd).1
      have ek : (kidsX x)[i]? = some (kidsX x)[i] := List.getElem?_eq_getElem hi
      obtain ⟨gy, xy⟩ := kg _ (List.mem_of_getElem? ek)
      have := (wk_good gn n _ d gy (by omega) (gds i _ d ek hd)).2
      omega
    have kok4 : ∀ (d : VT.D) (r : V) (H' : Hp), fin N x ds = .ok d → Same H4 H' → Rep CU H' r d → Q r H' := fun d r H' e m q => kok d r H' (ew.trans e) (m4.trans m) q
    have kno4 : fin N x ds = .error x → Mis CM (.ref ad) H4 E := fun e => kno x (ew.trans e) _ _ m4 hx4
    have jo : JOk ds := jok gn kl (fun y hy => ⟨(kg y hy).1, by have := (kg y hy).2; omega⟩) eds
    clear kok kno gds hR
    cases x with
    | tup l =>
      cases eD
      refine ⟨_, rfl, rfl, _, rfl, st_yes rfl ?_⟩
      refine ⟨_, rfl, D, ws, rfl, .inl ⟨SqL.of f4, fun q hq => ?_⟩⟩
      exact kok4 (.tup ds) _ _ rfl (same_new hq) (.tup upd_same lw (by have := jo.few; omega) fun i v d hv hd => (hI4.2 i v d hv hd).same (same_new hq))
    | map ks l =>
      cases eD
      obtain ⟨a0, u0, u1, ea, h', r0, r1⟩ := rep2 hx4
      cases ea
      rw [h4] at h'
      cases h'
      have kll : ks.length = l.length := kop
      have nd : ks.Nodup := by
        cases gx with
        | map _ _ _ nd => exact nd
      cases r1 with
      | @tup a1 xs _ h1 hl1 hz1 hs1 =>
      have lr : (rowsD ks (toDL l)).length = l.length := by
        unfold rowsD
        rw [List.length_map, List.length_zip, toDL_map, List.length_map, kll, Nat.min_self]
      have lds' : ds.length = l.length := lds
      have rows : ∀ (i : Nat) (v : V), xs[i]? = some v → ∃ b k u, ks[i]? = some k ∧ v = .ref b ∧ H4 b = some (.tup [.str k, u]) ∧ TxOk k := fun i v hv => by
        have hi : i < l.length := by
          have := (List.getElem?_eq_some_iff.mp hv).1
          omega
        have ed : (toDL l)[i]? = some (toD l[i]) := toDL_get (List.getElem?_eq_getElem hi)
        have ek : ks[i]? = some ks[i] := List.getElem?_eq_getElem (by omega)
        have er : (rowsD ks (toDL l))[i]? = some (.tup [.str ks[i], toD l[i]]) := by
          unfold rowsD
          rw [List.getElem?_map, (List.getElem?_zip_eq_some (z := (ks[i], toD l[i]))).mpr ⟨ek, ed⟩]
          rfl
        obtain ⟨b, w0, w1, rfl, hb, q0, q1⟩ := rep2 (hs1 i v _ hv er)
        obtain ⟨rfl, tx⟩ := rep_str q0
        exact ⟨b, _, w1, ek, rfl, hb, tx⟩
      have ko : ∀ k ∈ ks, TxOk k := fun k hk => by
        obtain ⟨i, hi, rfl⟩ := List.mem_iff_getElem.mp hk
        obtain ⟨b, k', u, e1, _, _, tx⟩ := rows i (xs[i]'(by omega)) (List.getElem?_eq_getElem (by omega))
        rw [List.getElem?_eq_getElem hi] at e1
        cases e1
        exact tx
      have few := jo.few
      refine ⟨_, rfl, rfl, _, rfl, st_no (by decide +kernel) ?_⟩
      refine ⟨_, rfl, rfl, _, rfl, st_yes rfl ?_⟩
      refine ⟨_, rfl, ad, _, 1, _, rfl, rfl, SqT.of h4, atI_nat (j := 1) rfl, _, rfl, a1, D, xs, ws, rfl, SqT.of h1, SqL.of f4, fun D2 hD2 => ?_⟩
      refine dc_rel (XZ.walk_zm (n := ks.length) (by omega)) hD2 ks rfl nd (small1000 (by omega)) (fun i H' v => ∀ d, ds[i]? = some d → Rep CU (keepH (fun b => True ∧ b ≠ D2) H') v d)
        (fun i H H' v m q d e => (q d e).keepS m) (fun i H H' v bu q d e => (q d e).same (keep_but bu)) (fun H' m => ⟨SqT.of (m _ _ h1), SqL.of (m _ _ f4)⟩) (fun i z k0 H6 H7 hki m fD pr hy N' hN' => ?_) mono_pair (fun H' ys m f hly hR => ?_)
      · obtain ⟨t, x1, x2, rfl, ht, rfl, hx1, hx2⟩ := hy
        obtain ⟨b, k, u, e1, rfl, hb, _⟩ := rows i x1 hx1
        rw [hki] at e1
        cases e1
        have n7 := same_new (o := .tup [.ref b, x2]) ht
        have f7 := at_new (o := .tup [.ref b, x2]) ht
        generalize (upd H6 t (.tup [.ref b, x2])) = H7 at n7 f7 ⊢
        refine ⟨t, _, rfl, SqT.of f7, rfl, _, _, rfl, _, _, rfl, rfl, rfl, _, rfl, b, _, 0, _, rfl, rfl, SqT.of (n7 _ _ (m _ _ hb)), atI_nat (j := 0) rfl, _, rfl, hN' x2 H7 n7 fun d e => ?_⟩
        exact ((hI4.2 i x2 d hx2 e).all.notNew hD2 m).keepS n7
      · refine kok4 (.map ks ds) _ _ rfl m (.map f (by omega) (by omega) (by omega) nd ko fun i v d hv hd => (hR i v hv d hd).ofKeep)
    | join l =>
      cases eD
      refine ⟨_, rfl, rfl, _, rfl, st_no (by decide +kernel) ?_⟩
      refine ⟨_, rfl, rfl, _, rfl, st_no (by decide +kernel) ?_⟩
      refine ⟨_, rfl, rfl, _, rfl, st_yes rfl ?_⟩
      refine ⟨_, rfl, _, rfl, _, D, ws, ds, rfl, f4, hI4, jo, fun d r H5 e5 m5 hr5 => kok4 d r H5 (by show opt _ _ = _; rw [e5]; rfl) m5 hr5, fun e5 => kno4 (by show opt _ _ = _; rw [e5]; rfl)⟩
    | same a b =>
      cases eD
      obtain ⟨z0, z1, d0, d1, rfl, rfl⟩ := two_of lw lds
      refine ⟨_, rfl, rfl, _, rfl, st_no (by decide +kernel) ?_⟩
      refine ⟨_, rfl, rfl, _, rfl, st_no (by decide +kernel) ?_⟩
      refine ⟨_, rfl, rfl, _, rfl, st_no (by decide +kernel) ?_⟩
      refine ⟨_, rfl, rfl, _, rfl, st_yes rfl ?_⟩
      refine ⟨_, rfl, D, _, 0, _, rfl, rfl, SqL.of f4, atI_nat (j := 0) rfl, _, rfl, D, _, 1, _, rfl, rfl, SqL.of f4, atI_nat (j := 1) rfl, z0, z1, d0, d1, rfl, hI4.2 0 _ _ rfl rfl, hI4.2 1 _ _ rfl rfl, dl 0 _ rfl, dl 1 _ rfl, fun r H5 m5 hr5 => kok4 _ r H5 rfl m5 hr5⟩
    | size a =>
      cases eD
      obtain ⟨z0, d0, rfl, rfl⟩ := one_of lw lds
      refine ⟨_, rfl, rfl, _, rfl, st_no (by decide +kernel) ?_⟩
      refine ⟨_, rfl, rfl, _, rfl, st_no (by decide +kernel) ?_⟩
      refine ⟨_, rfl, rfl, _, rfl, st_no (by decide +kernel) ?_⟩
      refine ⟨_, rfl, rfl, _, rfl, st_no (by decide +kernel) ?_⟩
      refine ⟨_, rfl, rfl, _, rfl, st_yes rfl ?_⟩
      refine ⟨_, rfl, _, rfl, D, _, 0, _, rfl, rfl, SqL.of f4, atI_nat (j := 0) rfl, _, z0, d0, rfl, hI4.2 0 _ _ rfl rfl, fun d r H5 e5 m5 hr5 => kok4 d r H5 (by show opt _ _ = _; rw [e5]; rfl) m5 hr5, fun e5 => kno4 (by show opt _ _ = _; rw [e5]; rfl)⟩
    | pick a b =>
      cases eD
      obtain ⟨z0, z1, d0, d1, rfl, rfl⟩ := two_of lw lds
      refine ⟨_, rfl, rfl, _, rfl, st_no (by decide +kernel) ?_⟩
      refine ⟨_, rfl, rfl, _, rfl, st_no (by decide +kernel) ?_⟩
      refine ⟨_, rfl, rfl, _, rfl, st_no (by decide +kernel) ?_⟩
      refine ⟨_, rfl, rfl, _, rfl, st_no (by decide +kernel) ?_⟩
      refine ⟨_, rfl, rfl, _, rfl, st_no (by decide +kernel) ?_⟩
      have q0 := hI4.2 0 _ _ rfl rfl
      have q1 := hI4.2 1 _ _ rfl rfl
      refine ⟨_, rfl, _, rfl, D, _, 0, _, rfl, rfl, SqL.of f4, atI_nat (j := 0) rfl, _, rfl, D, _, 1, _, rfl, rfl, SqL.of f4, atI_nat (j := 1) rfl, _, z0, z1, d0, d1, rfl, q0, q1, fun d r H5 e5 m5 hr5 => kok4 d r H5 (by show opt _ _ = _; rw [e5]; rfl) m5 ((hr5 (fun _ => True) q0.all q1.all).ofKeep.same m5), fun e5 => kno4 (by show opt _ _ = _; rw [e5]; rfl)⟩
    | _ => exact op.elim
  · have gx' := gx
    cases gx' with
    | @say d h1 h2 =>
      obtain ⟨ad, v0, v1, rfl, h, r0, r1⟩ := rep2 hx
      obtain ⟨rfl, _⟩ := rep_str r0
      refine ⟨_, rfl, ad, _, 0, _, rfl, rfl, SqT.of h, atI_nat (j := 0) rfl, ?_⟩
      refine ⟨_, rfl, rfl, _, rfl, st_yes rfl ?_⟩
      exact ⟨_, rfl, ad, _, 1, _, rfl, rfl, SqT.of h, atI_nat (j := 1) rfl, kok d v1 H rfl (fun _ _ z => z) r1⟩
    | @ref w a hw =>
      obtain ⟨ad, v0, v1, rfl, h, r0, r1⟩ := rep2 hx
      obtain ⟨rfl, _⟩ := rep_str r0
      obtain ⟨rfl, _⟩ := rep_str r1
      refine ⟨_, rfl, ad, _, 0, _, rfl, rfl, SqT.of h, atI_nat (j := 0) rfl, ?_⟩
      refine ⟨_, rfl, rfl, _, rfl, st_no (by rcases hw with rfl | rfl <;> decide +kernel) ?_⟩
      refine ⟨_, rfl, (by show 2 ≤ sizeLine; decide), fun tp1 htp1 => ⟨tp1, _, rfl, .inr (SqT.of upd_same), rfl, rfl, _, rfl, in_yes (by rcases hw with rfl | rfl <;> decide +kernel) ?_⟩⟩
      have n1 := same_new (o := .tup [.str "param", .str "own"]) htp1
      generalize (upd H tp1 (.tup [.str "param", .str "own"])) = H1 at n1 ⊢
      refine ⟨_, rfl, _, rfl, _, rfl, _, p, ad, nm, [w, a], rfl, hN.same n1, n1 _ _ h, fun d r el rr => ?_, fun el => ?_⟩
      · exact kok d r H1 (by show opt _ _ = _; rw [el]; rfl) n1 rr
      · exact kno _ (by show opt _ _ = _; rw [el]; rfl) _ _ n1 (hx.same n1)
    | out a b =>
      obtain ⟨ad, v0, v1, v2, rfl, h, r0, r1, r2⟩ := rep3 hx
      obtain ⟨rfl, _⟩ := rep_str r0
      obtain ⟨rfl, _⟩ := rep_str r1
      refine ⟨_, rfl, ad, _, 0, _, rfl, rfl, SqT.of h, atI_nat (j := 0) rfl, ?_⟩
      refine ⟨_, rfl, rfl, _, rfl, st_no (by decide +kernel) ?_⟩
      refine ⟨_, rfl, (by show 2 ≤ sizeLine; decide), fun tp1 htp1 => ⟨tp1, _, rfl, .inr (SqT.of upd_same), rfl, rfl, _, rfl, in_no (by decide +kernel) ?_⟩⟩
      have n1 := same_new (o := .tup [.str "param", .str "own"]) htp1
      generalize (upd H tp1 (.tup [.str "param", .str "own"])) = H1 at n1 ⊢
      refine ⟨_, rfl, rfl, _, rfl, st_yes rfl ?_⟩
      refine ⟨_, rfl, _, rfl, _, rfl, _, rfl, ad, _, 1, _, rfl, rfl, SqT.of (n1 _ _ h), atI_nat (j := 1) rfl, (by show 2 ≤ sizeLine; decide), fun tp htp => ?_⟩
      refine ⟨_, p, tp, nm, ["call", a], rfl, (hN.same n1).same (same_new htp), upd_same, fun d r el rr => ?_, fun el => ?_⟩
      · have n2 := same_new (o := .tup [.str "call", .str a]) htp
        generalize (upd H1 tp (.tup [.str "call", .str a])) = H2 at n2 rr ⊢
        have m2 := n1.trans n2
        refine ⟨_, rfl, ad, _, 2, _, rfl, rfl, SqT.of (m2 _ _ h), atI_nat (j := 2) rfl, _, r, v2, d, .str b, rfl, rr, r2.same m2, fun d2 r2' H3 e3 m3 q3 => ?_, fun e3 => ?_⟩
        · exact kok d2 r2' H3 (by show opt _ _ = _; rw [el]; exact congrArg (opt _) e3) (m2.trans m3) ((q3 (fun _ => True) rr.all (r2.same m2).all).ofKeep.same m3)
        · exact kno _ (by show opt _ _ = _; rw [el]; exact congrArg (opt _) e3) _ _ m2 (hx.same m2)
      · exact kno _ (by show opt _ _ = _; rw [el]; rfl) _ _ (n1.trans (same_new htp)) ((hx.same n1).same (same_new htp))
    | of a b c =>
      obtain ⟨ad, v0, v1, v2, v3, rfl, h, r0, r1, r2, r3⟩ := rep4 hx
      obtain ⟨rfl, _⟩ := rep_str r0
      refine ⟨_, rfl, ad, _, 0, _, rfl, rfl, SqT.of h, atI_nat (j := 0) rfl, ?_⟩
      refine ⟨_, rfl, rfl, _, rfl, st_no (by decide +kernel) ?_⟩
      refine ⟨_, rfl, (by show 2 ≤ sizeLine; decide), fun tp1 htp1 => ⟨tp1, _, rfl, .inr (SqT.of upd_same), rfl, rfl, _, rfl, in_no (by decide +kernel) ?_⟩⟩
      have n1 := same_new (o := .tup [.str "param", .str "own"]) htp1
      generalize (upd H tp1 (.tup [.str "param", .str "own"])) = H1 at n1 ⊢
      refine ⟨_, rfl, rfl, _, rfl, st_no (by decide +kernel) ?_⟩
      refine ⟨_, rfl, (by show 3 ≤ sizeLine; decide), fun tp2 htp2 => ⟨tp2, _, rfl, .inr (SqT.of upd_same), rfl, rfl, _, rfl, in_yes (by decide +kernel) ?_⟩⟩
      have n2 := same_new (o := .tup [.str "of", .str "at", .str "each"]) htp2
      generalize (upd H1 tp2 (.tup [.str "of", .str "at", .str "each"])) = H2 at n2 ⊢
      have m2 := n1.trans n2
      refine ⟨_, rfl, _, rfl, _, p, _, nm, rfl, hx.same m2, hN.same m2, gx, gn, trivial, xn, x10, fun d r H3 e m3 hr3 => kok d r H3 e (m2.trans m3) hr3, fun e ee => (kno e ee).mono m2⟩
    | each a b c =>
      obtain ⟨ad, v0, v1, v2, v3, rfl, h, r0, r1, r2, r3⟩ := rep4 hx
      obtain ⟨rfl, _⟩ := rep_str r0
      refine ⟨_, rfl, ad, _, 0, _, rfl, rfl, SqT.of h, atI_nat (j := 0) rfl, ?_⟩
      refine ⟨_, rfl, rfl, _, rfl, st_no (by decide +kernel) ?_⟩
      refine ⟨_, rfl, (by show 2 ≤ sizeLine; decide), fun tp1 htp1 => ⟨tp1, _, rfl, .inr (SqT.of upd_same), rfl, rfl, _, rfl, in_no (by decide +kernel) ?_⟩⟩
      have n1 := same_new (o := .tup [.str "param", .str "own"]) htp1
      generalize (upd H tp1 (.tup [.str "param", .str "own"])) = H1 at n1 ⊢
      refine ⟨_, rfl, rfl, _, rfl, st_no (by decide +kernel) ?_⟩
      refine ⟨_, rfl, (by show 3 ≤ sizeLine; decide), fun tp2 htp2 => ⟨tp2, _, rfl, .inr (SqT.of upd_same), rfl, rfl, _, rfl, in_yes (by decide +kernel) ?_⟩⟩
      have n2 := same_new (o := .tup [.str "of", .str "at", .str "each"]) htp2
      generalize (upd H1 tp2 (.tup [.str "of", .str "at", .str "each"])) = H2 at n2 ⊢
      have m2 := n1.trans n2
      refine ⟨_, rfl, _, rfl, _, p, _, nm, rfl, hx.same m2, hN.same m2, gx, gn, trivial, xn, x10, fun d r H3 e m3 hr3 => kok d r H3 e (m2.trans m3) hr3, fun e ee => (kno e ee).mono m2⟩
    | @«at» a b y c hy =>
      obtain ⟨ad, v0, v1, v2, v3, v4, rfl, h, r0, r1, r2, r3, r4⟩ := rep5 hx
      obtain ⟨rfl, _⟩ := rep_str r0
      refine ⟨_, rfl, ad, _, 0, _, rfl, rfl, SqT.of h, atI_nat (j := 0) rfl, ?_⟩
      refine ⟨_, rfl, rfl, _, rfl, st_no (by decide +kernel) ?_⟩
      refine ⟨_, rfl, (by show 2 ≤ sizeLine; decide), fun tp1 htp1 => ⟨tp1, _, rfl, .inr (SqT.of upd_same), rfl, rfl, _, rfl, in_no (by decide +kernel) ?_⟩⟩
      have n1 := same_new (o := .tup [.str "param", .str "own"]) htp1
      generalize (upd H tp1 (.tup [.str "param", .str "own"])) = H1 at n1 ⊢
      refine ⟨_, rfl, rfl, _, rfl, st_no (by decide +kernel) ?_⟩
      refine ⟨_, rfl, (by show 3 ≤ sizeLine; decide), fun tp2 htp2 => ⟨tp2, _, rfl, .inr (SqT.of upd_same), rfl, rfl, _, rfl, in_yes (by decide +kernel) ?_⟩⟩
      have n2 := same_new (o := .tup [.str "of", .str "at", .str "each"]) htp2
      generalize (upd H1 tp2 (.tup [.str "of", .str "at", .str "each"])) = H2 at n2 ⊢
      have m2 := n1.trans n2
      refine ⟨_, rfl, _, rfl, _, p, _, nm, rfl, hx.same m2, hN.same m2, gx, gn, trivial, xn, x10, fun d r H3 e m3 hr3 => kok d r H3 e (m2.trans m3) hr3, fun e ee => (kno e ee).mono m2⟩
    | @iff a b c ha hb hc =>
      obtain ⟨ad, v0, v1, v2, v3, rfl, h, r0, r1, r2, r3⟩ := rep4 hx
      obtain ⟨rfl, _⟩ := rep_str r0
      refine ⟨_, rfl, ad, _, 0, _, rfl, rfl, SqT.of h, atI_nat (j := 0) rfl, ?_⟩
      refine ⟨_, rfl, rfl, _, rfl, st_no (by decide +kernel) ?_⟩
      refine ⟨_, rfl, (by show 2 ≤ sizeLine; decide), fun tp1 htp1 => ⟨tp1, _, rfl, .inr (SqT.of upd_same), rfl, rfl, _, rfl, in_no (by decide +kernel) ?_⟩⟩
      have n1 := same_new (o := .tup [.str "param", .str "own"]) htp1
      generalize (upd H tp1 (.tup [.str "param", .str "own"])) = H1 at n1 ⊢
      refine ⟨_, rfl, rfl, _, rfl, st_no (by decide +kernel) ?_⟩
      refine ⟨_, rfl, (by show 3 ≤ sizeLine; decide), fun tp2 htp2 => ⟨tp2, _, rfl, .inr (SqT.of upd_same), rfl, rfl, _, rfl, in_no (by decide +kernel) ?_⟩⟩
      have n2 := same_new (o := .tup [.str "of", .str "at", .str "each"]) htp2
      generalize (upd H1 tp2 (.tup [.str "of", .str "at", .str "each"])) = H2 at n2 ⊢
      have m2 := n1.trans n2
      refine ⟨_, rfl, rfl, _, rfl, st_yes rfl ?_⟩
      refine ⟨_, rfl, _, rfl, _, p, _, nm, rfl, hx.same m2, hN.same m2, gx, gn, trivial, xn, x10, fun d r H3 e m3 hr3 => kok d r H3 e (m2.trans m3) hr3, fun e ee => (kno e ee).mono m2⟩
    | _ => exact (op trivial).elim
end
end K04

namespace K04
open PySem L2 XR VT
open TL
abbrev sLExp : Stmt := top 40
def LX : Nat → Nat
  | 0 => 1500
  | j + 1 => 4 * LX j + 400
/-- a drawn expression -/
structure XD (j : Nat) (x : X) : Prop where
  g : XG x
  xd : xd x ≤ 2 * j
  nu : nou (toD x) = true
  le : ln (toD x) ≤ LX j
def spX (CU : Addr) : Nat → Sp
  | 0 => fun vs _ _ _ => vs.length = 2 ∧ False
  | j + 1 => fun vs H Q _ => ∃ (w : Addr) (a b c : Int), vs = [.ref w, .int (j : Nat)] ∧ Well H w a b c ∧ c + 256 * 4 ^ j < 1000000000000000 ∧
      ∀ (r : V) (x : X) (a' c' : Int) (H' : Hp), c' ≤ c + 256 * 4 ^ j → Well H' w a' b c' → But w H H' → Rep CU H' r (toD x) → XD j x → Q r H'
theorem spX_len {CU : Addr} {j : Nat} {vs : List V} {H : Hp} {Q : VK} {E : XK} (h : spX CU j vs H Q E) : vs.length = 2 := by
  cases j with
  | zero => exact h.1
  | succ j =>
    obtain ⟨_, _, _, _, rfl, _⟩ := h
    rfl
section
variable {P : Program} {w : World} {K : PySem.W.Frag} {mg : Str → Option Value} {base : Heap} {CU : Addr}
theorem x0 {k : Nat} {f : Addr} {fd : FuncData} : FnOk P w K mg base CX0 k f fd ["_law_well_here", "_law_deep"] (spX CU 0) := ⟨fun _ _ _ _ h => h.1, fun _ _ _ _ _ _ _ _ _ _ _ _ _ h => h.2.elim⟩
theorem its3 {H : Hp} {v0 v1 v2 : V} {d0 d1 d2 : D} (h0 : Rep CU H v0 d0) (h1 : Rep CU H v1 d1) (h2 : Rep CU H v2 d2) : Its CU H [v0, v1, v2] [d0, d1, d2] := ⟨rfl, fun i v d e1 e2 => by
  match i, e1, e2 with
  | 0, e1, e2 => cases e1; cases e2; exact h0
  | 1, e1, e2 => cases e1; cases e2; exact h1
  | 2, e1, e2 => cases e1; cases e2; exact h2⟩
theorem its4 {H : Hp} {v0 v1 v2 v3 : V} {d0 d1 d2 d3 : D} (h0 : Rep CU H v0 d0) (h1 : Rep CU H v1 d1) (h2 : Rep CU H v2 d2) (h3 : Rep CU H v3 d3) : Its CU H [v0, v1, v2, v3] [d0, d1, d2, d3] := ⟨rfl, fun i v d e1 e2 => by
  match i, e1, e2 with
  | 0, e1, e2 => cases e1; cases e2; exact h0
  | 1, e1, e2 => cases e1; cases e2; exact h1
  | 2, e1, e2 => cases e1; cases e2; exact h2
  | 3, e1, e2 => cases e1; cases e2; exact h3⟩
theorem its5 {H : Hp} {v0 v1 v2 v3 v4 : V} {d0 d1 d2 d3 d4 : D} (h0 : Rep CU H v0 d0) (h1 : Rep CU H v1 d1) (h2 : Rep CU H v2 d2) (h3 : Rep CU H v3 d3) (h4 : Rep CU H v4 d4) : Its CU H [v0, v1, v2, v3, v4] [d0, d1, d2, d3, d4] := ⟨rfl, fun i v d e1 e2 => by
  match i, e1, e2 with
  | 0, e1, e2 => cases e1; cases e2; exact h0
  | 1, e1, e2 => cases e1; cases e2; exact h1
  | 2, e1, e2 => cases e1; cases e2; exact h2
  | 3, e1, e2 => cases e1; cases e2; exact h3
  | 4, e1, e2 => cases e1; cases e2; exact h4⟩
theorem LX_ge : ∀ j, 1500 ≤ LX j
  | 0 => Nat.le_refl _
  | j + 1 => by
    have := LX_ge j
    show 1500 ≤ 4 * LX j + 400
    omega
theorem nou2 {a b : D} (ha : nou a = true) (hb : nou b = true) : nouL [a, b] = true := nouL_of fun d hd => by
  simp only [List.mem_cons, List.not_mem_nil, or_false] at hd
  rcases hd with rfl | rfl <;> assumption
theorem nou3 {a b c : D} (ha : nou a = true) (hb : nou b = true) (hc : nou c = true) : nouL [a, b, c] = true := nouL_of fun d hd => by
  simp only [List.mem_cons, List.not_mem_nil, or_false] at hd
  rcases hd with rfl | rfl | rfl <;> assumption
theorem nou4 {a b c e : D} (ha : nou a = true) (hb : nou b = true) (hc : nou c = true) (he : nou e = true) : nouL [a, b, c, e] = true := nouL_of fun d hd => by
  simp only [List.mem_cons, List.not_mem_nil, or_false] at hd
  rcases hd with rfl | rfl | rfl | rfl <;> assumption
theorem xd_say {j : Nat} {d : D} (h : VG 2 0 d) : XD j (.say d) := by
  refine ⟨.say h.bd (by have := h.dp; omega) h.gd (h.kn (by decide)), Nat.zero_le _, nou2 rfl (h.nu (by decide)), Nat.le_trans ?_ (LX_ge j)⟩
  show (10 * (Str.ofString "say").length + 2) + 2 + (ln d + 2 + 0) + 4 ≤ 1500
  have h1 := h.le
  have e : LV 2 = 1320 := by decide
  have e2 : (Str.ofString "say").length = 3 := by decide +kernel
  rw [e2]
  omega
theorem xd_leaf {j : Nat} {x : X} (g : XG x) (h0 : xd x = 0) (nu : nou (toD x) = true) (le : ln (toD x) ≤ 1500) : XD j x := ⟨g, by omega, nu, Nat.le_trans le (LX_ge j)⟩
theorem xd_up {j : Nat} {x : X} (h : XD j x) : XD (j + 1) x := ⟨h.g, by have := h.xd; omega, h.nu, by
  have := h.le
  show _ ≤ 4 * LX j + 400
  omega⟩
theorem lnDL {j : Nat} : ∀ {l : List X}, (∀ x ∈ l, XD j x) → lnL (toDL l) ≤ l.length * (LX j + 2) ∧ nouL (toDL l) = true ∧ xdL l ≤ 2 * j
  | [], _ => ⟨Nat.zero_le _, rfl, Nat.zero_le _⟩
  | x :: l, h => by
    obtain ⟨a, b, c⟩ := lnDL (l := l) fun y hy => h y (List.mem_cons_of_mem _ hy)
    have hx := h x List.mem_cons_self
    refine ⟨?_, ?_, ?_⟩
    · show ln (toD x) + 2 + lnL (toDL l) ≤ (l.length + 1) * (LX j + 2)
      have := hx.le
      rw [Nat.add_mul]
      omega
    · show (nou (toD x) && nouL (toDL l)) = true
      rw [hx.nu, b]
      rfl
    · show max (xd x) (xdL l) ≤ 2 * j
      have := hx.xd
      omega
theorem xd_tup {j : Nat} {l : List X} (h : ∀ x ∈ l, XD j x) (hl : l.length ≤ 3) : XD (j + 1) (.tup l) := by
  obtain ⟨a, b, c⟩ := lnDL h
  refine ⟨.tup (fun x hx => (h x hx).g) hl, (by rw [xd]; omega), nou2 rfl b, ?_⟩
  show (10 * (Str.ofString "tuple").length + 2) + 2 + ((lnL (toDL l) + 4) + 2 + 0) + 4 ≤ 4 * LX j + 400
  have e2 : (Str.ofString "tuple").length = 5 := by decide +kernel
  have e3 : l.length * (LX j + 2) ≤ 3 * (LX j + 2) := Nat.mul_le_mul_right _ hl
  rw [e2]
  omega
theorem xd_join {j : Nat} {l : List X} (h : ∀ x ∈ l, XD j x) (hl : l.length ≤ 3) : XD (j + 1) (.join l) := by
  obtain ⟨a, b, c⟩ := lnDL h
  refine ⟨.join (fun x hx => (h x hx).g) hl, (by rw [xd]; omega), nou2 rfl b, ?_⟩
  show (10 * (Str.ofString "join").length + 2) + 2 + ((lnL (toDL l) + 4) + 2 + 0) + 4 ≤ 4 * LX j + 400
  have e2 : (Str.ofString "join").length = 4 := by decide +kernel
  have e3 : l.length * (LX j + 2) ≤ 3 * (LX j + 2) := Nat.mul_le_mul_right _ hl
  rw [e2]
  omega
theorem ln_rows : ∀ {ks : List Str} {ds : List D} {B : Nat}, ks.length = ds.length → (∀ k ∈ ks, k.length ≤ 1) → (∀ d ∈ ds, ln d ≤ B ∧ nou d = true) → lnL (rowsD ks ds) ≤ ds.length * (B + 22) ∧ nouL (rowsD ks ds) = true
  | [], [], B, _, _, _ => ⟨Nat.zero_le _, rfl⟩
  | k :: ks, d :: ds, B, hl, hk, h => by
    obtain ⟨a, b⟩ := ln_rows (ks := ks) (ds := ds) (B := B) (Nat.succ.inj hl) (fun x hx => hk x (List.mem_cons_of_mem _ hx)) fun x hx => h x (List.mem_cons_of_mem _ hx)
    have h1 := hk k List.mem_cons_self
    obtain ⟨h2, h3⟩ := h d List.mem_cons_self
    refine ⟨?_, ?_⟩
    · show ((10 * k.length + 2) + 2 + (ln d + 2 + 0) + 4) + 2 + lnL (rowsD ks ds) ≤ (ds.length + 1) * (B + 22)
      rw [Nat.add_mul]
      omega
    · show (nouL [.str k, d] && nouL (rowsD ks ds)) = true
      rw [b, nou2 rfl h3]
      rfl
theorem xd_map {j : Nat} {ks : List Str} {l : List X} (h : ∀ x ∈ l, XD j x) (hl : l.length ≤ 3) (hk : ks.length = l.length) (nd : ks.Nodup) (h1 : ∀ k ∈ ks, k.length ≤ 1) : XD (j + 1) (.map ks l) := by
  obtain ⟨_, _, c⟩ := lnDL h
  obtain ⟨a, b⟩ := ln_rows (ks := ks) (ds := toDL l) (B := LX j) (by rw [toDL_map, List.length_map, hk]) h1 fun d hd => by
    rw [toDL_map] at hd
    obtain ⟨x, hx, rfl⟩ := List.mem_map.mp hd
    exact ⟨(h x hx).le, (h x hx).nu⟩
  rw [toDL_map, List.length_map] at a
  rw [← toDL_map] at a
  refine ⟨.map (fun x hx => (h x hx).g) hl hk nd, (by rw [xd]; omega), nou2 rfl b, ?_⟩
  show (10 * (Str.ofString "map").length + 2) + 2 + ((lnL (rowsD ks (toDL l)) + 4) + 2 + 0) + 4 ≤ 4 * LX j + 400
  have e2 : (Str.ofString "map").length = 3 := by decide +kernel
  have e3 : l.length * (LX j + 22) ≤ 3 * (LX j + 22) := Nat.mul_le_mul_right _ hl
  have e4 := LX_ge j
  rw [e2]
  omega
theorem xd_same {j : Nat} {a b : X} (ha : XD j a) (hb : XD j b) : XG (.same a b) ∧ xd (.same a b) ≤ 2 * j + 1 ∧ nou (toD (.same a b)) = true ∧ ln (toD (.same a b)) ≤ 2 * LX j + 60 := by
  refine ⟨.same ha.g hb.g, ?_, nou3 rfl ha.nu hb.nu, ?_⟩
  · rw [xd]
    have := ha.xd
    have := hb.xd
    omega
  · show (10 * (Str.ofString "same").length + 2) + 2 + (ln (toD a) + 2 + (ln (toD b) + 2 + 0)) + 4 ≤ _
    have e2 : (Str.ofString "same").length = 4 := by decide +kernel
    have := ha.le
    have := hb.le
    rw [e2]
    omega
theorem xd_same' {j : Nat} {a b : X} (ha : XD j a) (hb : XD j b) : XD (j + 1) (.same a b) := by
  obtain ⟨h1, h2, h3, h4⟩ := xd_same ha hb
  exact ⟨h1, by omega, h3, by show _ ≤ 4 * LX j + 400; omega⟩
theorem xd_if {j : Nat} {a b c : X} (g : XG a) (ga : xd a ≤ 2 * j + 1) (na : nou (toD a) = true) (la : ln (toD a) ≤ 2 * LX j + 60) (hb : XD j b) (hc : XD j c) : XD (j + 1) (.iff a b c) := by
  refine ⟨.iff g hb.g hc.g, ?_, nou4 rfl na hb.nu hc.nu, ?_⟩
  · rw [xd]
    have := hb.xd
    have := hc.xd
    omega
  · show (10 * (Str.ofString "if").length + 2) + 2 + (ln (toD a) + 2 + (ln (toD b) + 2 + (ln (toD c) + 2 + 0))) + 4 ≤ 4 * LX j + 400
    have e2 : (Str.ofString "if").length = 2 := by decide +kernel
    have := hb.le
    have := hc.le
    rw [e2]
    omega
theorem xd_size {j : Nat} {a : X} (ha : XD j a) : XD (j + 1) (.size a) := by
  refine ⟨.size ha.g, (by rw [xd]; have := ha.xd; omega), nou2 rfl ha.nu, ?_⟩
  show (10 * (Str.ofString "size").length + 2) + 2 + (ln (toD a) + 2 + 0) + 4 ≤ 4 * LX j + 400
  have e2 : (Str.ofString "size").length = 4 := by decide +kernel
  have := ha.le
  rw [e2]
  omega
theorem xd_pick {j : Nat} {a b : X} (ha : XD j a) (hb : XD j b) : XD (j + 1) (.pick a b) := by
  refine ⟨.pick ha.g hb.g, ?_, nou3 rfl ha.nu hb.nu, ?_⟩
  · rw [xd]
    have := ha.xd
    have := hb.xd
    omega
  · show (10 * (Str.ofString "pick").length + 2) + 2 + (ln (toD a) + 2 + (ln (toD b) + 2 + 0)) + 4 ≤ 4 * LX j + 400
    have e2 : (Str.ofString "pick").length = 4 := by decide +kernel
    have := ha.le
    have := hb.le
    rw [e2]
    omega
theorem xd_at {j : Nat} {m : Str} {y : X} (hm : m.length ≤ 5) (hy : XD j y) : XD (j + 1) (.at "net" m y "x") := by
  refine ⟨.at _ _ _ hy.g, (by rw [xd]; have := hy.xd; omega), nouL_of fun d hd => ?_, ?_⟩
  · simp only [List.mem_cons, List.not_mem_nil, or_false] at hd
    rcases hd with rfl | rfl | rfl | rfl | rfl <;> first | rfl | exact hy.nu
  · show (10 * (Str.ofString "at").length + 2) + 2 + ((10 * (Str.ofString "net").length + 2) + 2 + ((10 * m.length + 2) + 2 + (ln (toD y) + 2 + ((10 * (Str.ofString "x").length + 2) + 2 + 0)))) + 4 ≤ 4 * LX j + 400
    have e1 : (Str.ofString "at").length = 2 := by decide +kernel
    have e2 : (Str.ofString "net").length = 3 := by decide +kernel
    have e3 : (Str.ofString "x").length = 1 := by decide +kernel
    have := hy.le
    rw [e1, e2, e3]
    omega
theorem tS {H : Hp} {x : Str} (h1 : PyData.strOk x = true) (h2 : x.length ≤ 20) : Rep CU H (.str x) (.str x) := .str x ⟨h1, by omega⟩
theorem three_l {α : Type} : ∀ {ws : List α}, ws.length = 3 → ∃ z0 z1 z2, ws = [z0, z1, z2]
  | [z0, z1, z2], _ => ⟨z0, z1, z2, rfl⟩
theorem cut_take {xs : List V} {n : Nat} : cutV xs none (some (n : Int)) = xs.take n := by
  unfold cutV
  rw [HT.sIx_none, HT.sIx_nat, List.drop_zero, Nat.sub_zero, ← List.take_eq_take_min]
theorem its_take {H : Hp} {xs : List V} {l : List X} (n : Nat) (h : Its CU H xs (toDL l)) : Its CU H (xs.take n) (toDL (l.take n)) := by
  have e : toDL (l.take n) = (toDL l).take n := by rw [toDL_map, toDL_map, List.map_take]
  rw [e]
  refine ⟨by rw [List.length_take, List.length_take, h.1], fun i v d hv hd => ?_⟩
  have hi : i < n := by
    have := (List.getElem?_eq_some_iff.mp hv).1
    rw [List.length_take] at this
    omega
  rw [List.getElem?_take_of_lt hi] at hv hd
  exact h.2 i v d hv hd
theorem abc_tx : ∀ k ∈ abc, TxOk k := fun k hk => by
  simp only [abc, List.mem_cons, List.not_mem_nil, or_false] at hk
  rcases hk with rfl | rfl | rfl <;> exact ⟨by decide +kernel, by decide +kernel⟩
theorem abc_one : ∀ k ∈ abc, k.length ≤ 1 := fun k hk => by
  simp only [abc, List.mem_cons, List.not_mem_nil, or_false] at hk
  rcases hk with rfl | rfl | rfl <;> decide +kernel
theorem xd_each {j : Nat} {m : Str} (hm : m.length ≤ 5) : XD j (.each "net" m "x") := by
  refine xd_leaf (.each _ _ _) rfl (nou4 rfl rfl rfl rfl) ?_
  show (10 * (Str.ofString "each").length + 2) + 2 + ((10 * (Str.ofString "net").length + 2) + 2 + ((10 * m.length + 2) + 2 + ((10 * (Str.ofString "x").length + 2) + 2 + 0))) + 4 ≤ 1500
  have e1 : (Str.ofString "each").length = 4 := by decide +kernel
  have e2 : (Str.ofString "net").length = 3 := by decide +kernel
  have e3 : (Str.ofString "x").length = 1 := by decide +kernel
  rw [e1, e2, e3]
  omega
theorem scLx : FnScope ["_law_well_here", "_law_deep", "_law_way", "_law_inner_here", "_law_many", "_law_k"] ["_law_well_here", "_law_deep"] (defScope sLExp) := ⟨rfl, rfl, rfl, by decide +kernel, rfl, by decide +kernel, by decide +kernel⟩
theorem ok_exp {f fD fO fV : Addr} {fd dD dO dV : FuncData} {j k kv : Nat} (F : Fun K "_law_expression" "_law_expression" sLExp f fd) (T : Txt K mg CU) (mR : mg "range" = none)
    (GD : FnOk P w K mg base CX0 1 fD dD ["_law_well_here", "_law_below"] spDraw) (gD : mg "_law_draw" = some (.ref fD)) (kD : PySem.W.keepIn K (.ref fD) = true) (bD : Binds K dD ["_law_well_here", "_law_below"] [])
    (GO : FnOk P w K mg base CX0 2 fO dO ["_law_well_here", "_law_some"] (spOne K)) (gO : mg "_law_one" = some (.ref fO)) (kO : PySem.W.keepIn K (.ref fO) = true) (bO : Binds K dO ["_law_well_here", "_law_some"] [])
    (GV : FnOk P w K mg base CX0 kv fV dV ["_law_well_here", "_law_deep", "_law_dim"] (spV CU 3)) (gV : mg "_law_value" = some (.ref fV)) (kV : PySem.W.keepIn K (.ref fV) = true) (bV : Binds K dV ["_law_well_here", "_law_deep", "_law_dim"] [])
    (gK : mg "_law_expression" = some (.ref f)) (bK : Binds K fd ["_law_well_here", "_law_deep"] []) (hk : 2 ≤ k) (hkv : kv ≤ k) (GK : FnOk P w K mg base CX0 k f fd ["_law_well_here", "_law_deep"] (spX CU j)) :
    FnOk P w K mg base CX0 (k + 1) f fd ["_law_well_here", "_law_deep"] (spX CU (j + 1)) := by
  have kK := F.kp
  refine F.ok scLx (fun vs H Q E h => spX_len h) (fun cdv A outer s H vs Q E hr h => ?_)
  obtain ⟨w, a, b, c, rfl, W, hc, kk⟩ := h
  have hr1 : Room 1 _ := hr.mono (Nat.le_trans (by decide) hk)
  have hr2 : Room 2 _ := hr.mono hk
  have hrV : Room kv _ := hr.mono hkv
  refine ⟨_, (pss_cons (ps_set (i := 2) scLx.nd rfl (Or.inl rfl) (pe_ifExp (pt_cmpR op_gt (pv 1) pe_int (nomark _)) (pe_call GD hr1 rfl gD kD bD .nil pass0 (pa_cons (pv 0) (pa_cons pe_int pa_nil))) (pe_call GD hr1 rfl gD kD bD .nil pass0 (pa_cons (pv 0) (pa_cons pe_int pa_nil)))))
      (pss_cons (ps_if (pt_cmpR op_lt (pv 2) pe_int (nomark _)) (pss_one (ps_ret (pe_tup (pa_cons pe_str (pa_cons (pe_call GV hrV rfl gV kV bV .nil pass0 (pa_cons (pv 0) (pa_cons pe_int (pa_cons pe_int pa_nil)))) pa_nil))))) pss_nil)
      (pss_cons (ps_if (pt_cmpR op_eq (pv 2) pe_int (nomark _)) (pss_one (ps_ret (pe_tup (pa_cons pe_str (pa_cons (pe_call GO hr2 rfl gO kO bO .nil pass0 (pa_cons (pv 0) (pa_cons (pe_lst (pa_cons pe_str (pa_cons pe_str (pa_cons pe_str pa_nil)))) pa_nil))) pa_nil))))) pss_nil)
      (pss_cons (ps_if (pt_cmpR op_eq (pv 2) pe_int (nomark _)) (pss_one (ps_ret (pe_call GO hr2 rfl gO kO bO .nil pass0 (pa_cons (pv 0) (pa_cons (pe_lst (pa_cons (pe_tup (pa_cons pe_str (pa_cons pe_str pa_nil))) (pa_cons (pe_tup (pa_cons pe_str (pa_cons pe_str (pa_cons pe_str pa_nil)))) (pa_cons (pe_tup (pa_cons pe_str (pa_cons pe_str (pa_cons pe_str (pa_cons pe_str pa_nil))))) (pa_cons (pe_tup (pa_cons pe_str (pa_cons pe_str pa_nil))) pa_nil))))) pa_nil))))) pss_nil)
      (pss_cons (ps_set (i := 3) scLx.nd rfl (Or.inr rfl) (pe_lc (own := [("_law_k", 5)]) (g := gName 5) (tt := tYes) rfl scLx.nd (pi_range1 (by rfl) mR (pa_cons pe_int pa_nil)) (blkOk_by (own := [("_law_k", 5)]) (N := ["_law_well_here", "_law_deep", "_law_way", "_law_inner_here", "_law_many", "_law_k"]) (sc := (defScope sLExp)) (by decide +kernel)) (fun _ _ _ _ _ => pg_name (i := 5) scLx.nd rfl (Or.inl rfl)) (fun _ _ _ _ _ => pts_nil) (fun _ _ _ _ _ => (pe_call GK hr rfl gK kK bK .nil pass0 (pa_cons (pv 0) (pa_cons (pe_op op_sub (pv 1) pe_int) pa_nil))))))
      (pss_cons (ps_if (pt_cmpR op_eq (pv 2) pe_int (nomark _)) (pss_one (ps_ret (pe_tup (pa_cons pe_str (pa_cons (pe_callTy call_tuple_of (by rfl) T.tuple (by decide +kernel) (pa_cons (pe_slice sl_list (pv 3) po_none (po_some (pe_call GD hr1 rfl gD kD bD .nil pass0 (pa_cons (pv 0) (pa_cons pe_int pa_nil))))) pa_nil)) pa_nil))))) pss_nil)
      (pss_cons (ps_if (pt_cmpR op_eq (pv 2) pe_int (nomark _)) (pss_one (ps_ret (pe_tup (pa_cons pe_str (pa_cons (pe_callTy call_tuple_of (by rfl) T.tuple (by decide +kernel) (pa_cons (pe_lc (own := [("_law_k", 5)]) (g := gName 5) (tt := tYes) (te := tTup (tCons (tOp (rIxL K) (tLst (tCons (tC (.str "a")) (tCons (tC (.str "b")) (tCons (tC (.str "c")) tNil)))) (tVar 5)) (tCons (tOp (rIxL K) (tVar 3) (tVar 5)) tNil))) rfl scLx.nd (pi_range1 (by rfl) mR (pa_cons (pe_call GD hr1 rfl gD kD bD .nil pass0 (pa_cons (pv 0) (pa_cons pe_int pa_nil))) pa_nil)) (blkOk_by (own := [("_law_k", 5)]) (N := ["_law_well_here", "_law_deep", "_law_way", "_law_inner_here", "_law_many", "_law_k"]) (sc := (defScope sLExp)) (by decide +kernel)) (fun _ _ _ _ _ => pg_name (i := 5) scLx.nd rfl (Or.inl rfl)) (fun _ _ _ _ _ => pts_nil) (fun _ _ _ _ _ => (pe_tup (pa_cons (pe_ix ix_list (pe_lst (pa_cons pe_str (pa_cons pe_str (pa_cons pe_str pa_nil)))) (pv 5) (fun _ _ => rfl)) (pa_cons (pe_ix ix_list (pv 3) (pv 5) (fun _ _ => rfl)) pa_nil))))) pa_nil)) pa_nil))))) pss_nil)
      (pss_cons (ps_if (pt_cmpR op_eq (pv 2) pe_int (nomark _)) (pss_one (ps_ret (pe_tup (pa_cons pe_str (pa_cons (pe_callTy call_tuple_of (by rfl) T.tuple (by decide +kernel) (pa_cons (pe_slice sl_list (pv 3) po_none (po_some (pe_call GD hr1 rfl gD kD bD .nil pass0 (pa_cons (pv 0) (pa_cons pe_int pa_nil))))) pa_nil)) pa_nil))))) pss_nil)
      (pss_cons (ps_if (pt_cmpR op_lt (pv 2) pe_int (nomark _)) (pss_one (ps_ret (pe_tup (pa_cons pe_str (pa_cons (pe_call GO hr2 rfl gO kO bO .nil pass0 (pa_cons (pv 0) (pa_cons (pe_lst (pa_cons (pe_tup (pa_cons pe_str (pa_cons (pe_ix ix_list (pv 3) pe_int (fun _ _ => rfl)) (pa_cons (pe_ix ix_list (pv 3) pe_int (fun _ _ => rfl)) pa_nil)))) (pa_cons (pe_tup (pa_cons pe_str (pa_cons pe_str pa_nil))) (pa_cons (pe_ix ix_list (pv 3) pe_int (fun _ _ => rfl)) pa_nil)))) pa_nil))) (pa_cons (pe_ix ix_list (pv 3) pe_int (fun _ _ => rfl)) (pa_cons (pe_ix ix_list (pv 3) pe_int (fun _ _ => rfl)) pa_nil))))))) pss_nil)
      (pss_cons (ps_if (pt_cmpR op_eq (pv 2) pe_int (nomark _)) (pss_one (ps_ret (pe_tup (pa_cons pe_str (pa_cons (pe_ix ix_list (pv 3) pe_int (fun _ _ => rfl)) (pa_cons (pe_ix ix_list (pv 3) pe_int (fun _ _ => rfl)) pa_nil)))))) pss_nil)
      (pss_cons (ps_if (pt_cmpR op_eq (pv 2) pe_int (nomark _)) (pss_one (ps_ret (pe_tup (pa_cons pe_str (pa_cons (pe_ix ix_list (pv 3) pe_int (fun _ _ => rfl)) pa_nil))))) pss_nil)
      (pss_cons (ps_if (pt_cmpR op_eq (pv 2) pe_int (nomark _)) (pss_one (ps_ret (pe_tup (pa_cons pe_str (pa_cons (pe_ix ix_list (pv 3) pe_int (fun _ _ => rfl)) (pa_cons (pe_call GO hr2 rfl gO kO bO .nil pass0 (pa_cons (pv 0) (pa_cons (pe_lst (pa_cons (pe_ix ix_list (pv 3) pe_int (fun _ _ => rfl)) (pa_cons (pe_tup (pa_cons pe_str (pa_cons pe_int pa_nil))) (pa_cons (pe_tup (pa_cons pe_str (pa_cons pe_str pa_nil))) (pa_cons (pe_tup (pa_cons pe_str (pa_cons pe_int pa_nil))) pa_nil))))) pa_nil))) pa_nil)))))) pss_nil)
      (pss_cons (ps_set (i := 4) scLx.nd rfl (Or.inl rfl) (pe_call GO hr2 rfl gO kO bO .nil pass0 (pa_cons (pv 0) (pa_cons (pe_lst (pa_cons pe_str (pa_cons pe_str pa_nil))) pa_nil))))
      (pss_one (ps_ret (pe_call GO hr2 rfl gO kO bO .nil pass0 (pa_cons (pv 0) (pa_cons (pe_lst (pa_cons (pe_tup (pa_cons pe_str (pa_cons pe_str (pa_cons (pv 4) (pa_cons pe_str pa_nil))))) (pa_cons (pe_tup (pa_cons pe_str (pa_cons pe_str (pa_cons (pv 4) (pa_cons (pe_ix ix_list (pv 3) pe_int (fun _ _ => rfl)) (pa_cons pe_str pa_nil)))))) (pa_cons (pe_tup (pa_cons pe_str (pa_cons pe_str pa_nil))) pa_nil)))) pa_nil)))))))))))))))))), ?_⟩
  have q4 : (1 : Int) ≤ 4 ^ j := by
    cases j with
    | zero => decide
    | succ j =>
      have := pow4 j
      omega
  have fin : ∀ (r : V) (x : X) (a' c' : Int) (H' : Hp), c' ≤ c + 70 → Well H' w a' b c' → But w H H' → Rep CU H' r (toD x) → XD j x → Q r H' := fun r x a' c' H' h1 h2 h3 h4 h5 => kk r x a' c' H' (by omega) h2 h3 h4 h5
  cases j with
  | zero =>
    refine ⟨_, rfl, _, _, rfl, rfl, _, rfl, iteF ?_⟩
    refine ⟨_, rfl, w, a, b, c, 4, rfl, W, by omega, by decide, by decide, fun x1 a1 c1 H1 x10 x19 hc1 W1 B1 => ?_⟩
    refine ⟨_, rfl, _, _, rfl, rfl, _, rfl, ite2 (fun w0 => ?_) (fun w0 => ?_)⟩
    · refine ⟨_, rfl, w, a1, b, c1, 0, rfl, W1, (by show c1 + 64 < 1000000000000000; omega), fun r d a2 c2 H2 hc2 W2 B2 RV G2 => ⟨(by show 2 ≤ sizeLine; decide), fun t ht => ?_⟩⟩
      have hc2' : c2 ≤ c1 + 64 := hc2
      have n := same_new (o := .tup [.str "say", r]) ht
      exact fin _ (.say d) a2 c2 _ (by omega) (W2.same n) ((B1.trans B2).trans (But.of n)) (rep_its upd_same (its2 (tS (by decide +kernel) (by decide +kernel)) (RV.ofKeep.same n)) (by show 2 ≤ 60; decide)) (xd_say G2)
    refine ⟨_, rfl, rfl, _, rfl, ite2 (fun w1 => ?_) (fun w1 => ?_)⟩
    · refine ⟨_, rfl, (by show 3 ≤ sizeLine; decide), fun l hl => ?_⟩
      have nl : l ≠ w := fun z => by rw [z, W1.at_] at hl; cases hl
      refine ⟨w, l, a1, b, c1, _, rfl, W1.same (same_new hl), by omega, upd_same, nl, (by show 0 < 3; decide), (by show 3 < 1000; decide), fun v a2 c2 H2 hv hc2 W2 B2 => ⟨(by show 2 ≤ sizeLine; decide), fun t ht => ?_⟩⟩
      have n := same_new (o := .tup [.str "param", v]) ht
      have bb := ((B1.trans (But.of (same_new hl))).trans B2).trans (But.of n)
      simp only [List.mem_cons, List.not_mem_nil, or_false] at hv
      rcases hv with rfl | rfl | rfl <;> exact fin _ (.ref "param" _) a2 c2 _ (by omega) (W2.same n) bb (rep_its upd_same (its2 (tS (by decide +kernel) (by decide +kernel)) (tS (by decide +kernel) (by decide +kernel))) (by show 2 ≤ 60; decide)) (xd_leaf (.ref (.inl rfl)) rfl rfl (by decide +kernel))
    refine ⟨_, rfl, rfl, _, rfl, ite2 (fun w2 => ?_) (fun w2 => ?_)⟩
    · refine ⟨_, rfl, (by show 2 ≤ sizeLine; decide), fun t1 ht1 => ?_⟩
      have n1 := same_new (o := .tup [.str "own", .str "key"]) ht1
      have e1 := at_new (o := .tup [.str "own", .str "key"]) ht1
      generalize (upd H1 t1 (.tup [.str "own", .str "key"])) = G1 at n1 e1 ⊢
      refine ⟨(by show 3 ≤ sizeLine; decide), fun t2 ht2 => ?_⟩
      have n2 := same_new (o := .tup [.str "out", .str "inner", .str "o"]) ht2
      have e2 := at_new (o := .tup [.str "out", .str "inner", .str "o"]) ht2
      generalize (upd G1 t2 (.tup [.str "out", .str "inner", .str "o"])) = G2 at n2 e2 ⊢
      refine ⟨(by show 4 ≤ sizeLine; decide), fun t3 ht3 => ?_⟩
      have n3 := same_new (o := .tup [.str "of", .str "net", .str "one", .str "x"]) ht3
      have e3 := at_new (o := .tup [.str "of", .str "net", .str "one", .str "x"]) ht3
      generalize (upd G2 t3 (.tup [.str "of", .str "net", .str "one", .str "x"])) = G3 at n3 e3 ⊢
      refine ⟨(by show 2 ≤ sizeLine; decide), fun t4 ht4 => ?_⟩
      have n4 := same_new (o := .tup [.str "own", .str "index"]) ht4
      have e4 := at_new (o := .tup [.str "own", .str "index"]) ht4
      generalize (upd G3 t4 (.tup [.str "own", .str "index"])) = G4 at n4 e4 ⊢
      refine ⟨(by show 4 ≤ sizeLine; decide), fun l hl => ?_⟩
      have n5 := same_new (o := .lst [.ref t1, .ref t2, .ref t3, .ref t4]) hl
      have e5 := at_new (o := .lst [.ref t1, .ref t2, .ref t3, .ref t4]) hl
      generalize (upd G4 l (.lst [.ref t1, .ref t2, .ref t3, .ref t4])) = G5 at n5 e5 ⊢
      have k4 := n5
      have k3 := n4.trans k4
      have k2 := n3.trans k3
      have k1 := n2.trans k2
      have nt := n1.trans k1
      have W5 := W1.same nt
      have nl : l ≠ w := fun z => by rw [z, (W1.same (((n1.trans n2).trans n3).trans n4)).at_] at hl; cases hl
      refine ⟨w, l, a1, b, c1, _, rfl, W5, by omega, e5, nl, (by show 0 < 4; decide), (by show 4 < 1000; decide), fun v a2 c2 H2 hv hc2 W2 B2 => ?_⟩
      have bb := (B1.trans (But.of nt)).trans B2
      have kp : ∀ (t : Addr) (ys : List V), G5 t = some (.tup ys) → H2 t = some (.tup ys) := fun t ys e => B2 _ _ e (ne_of e W5.at_ (fun z => nomatch z))
      simp only [List.mem_cons, List.not_mem_nil, or_false] at hv
      rcases hv with rfl | rfl | rfl | rfl
      · exact fin _ (.ref "own" "key") a2 c2 _ (by omega) W2 bb (rep_its (kp _ _ (k1 _ _ e1)) (its2 (tS (by decide +kernel) (by decide +kernel)) (tS (by decide +kernel) (by decide +kernel))) (by show 2 ≤ 60; decide)) (xd_leaf (.ref (.inr rfl)) rfl rfl (by decide +kernel))
      · exact fin _ (.out "inner" "o") a2 c2 _ (by omega) W2 bb (rep_its (kp _ _ (k2 _ _ e2)) (its3 (tS (by decide +kernel) (by decide +kernel)) (tS (by decide +kernel) (by decide +kernel)) (tS (by decide +kernel) (by decide +kernel))) (by show 3 ≤ 60; decide)) (xd_leaf (.out _ _) rfl rfl (by decide +kernel))
      · exact fin _ (.of "net" "one" "x") a2 c2 _ (by omega) W2 bb (rep_its (kp _ _ (k3 _ _ e3)) (its4 (tS (by decide +kernel) (by decide +kernel)) (tS (by decide +kernel) (by decide +kernel)) (tS (by decide +kernel) (by decide +kernel)) (tS (by decide +kernel) (by decide +kernel))) (by show 4 ≤ 60; decide)) (xd_leaf (.of _ _ _) rfl rfl (by decide +kernel))
      · exact fin _ (.ref "own" "index") a2 c2 _ (by omega) W2 bb (rep_its (kp _ _ (k4 _ _ e4)) (its2 (tS (by decide +kernel) (by decide +kernel)) (tS (by decide +kernel) (by decide +kernel))) (by show 2 ≤ 60; decide)) (xd_leaf (.ref (.inr rfl)) rfl rfl (by decide +kernel))
    exact absurd (decide_eq_true (show V.int x1 = V.int 3 from by rw [show x1 = 3 from by have h1 : ¬ x1 < 2 := fun z => w0 (decide_eq_true z); have h2 : ¬ x1 = 2 := fun z => w1 (decide_eq_true (congrArg V.int z)); omega])) w2
  | succ j =>
    refine ⟨_, rfl, _, _, rfl, rfl, _, rfl, ?_⟩
    have hd : (0 : Int) < ((j + 1 : Nat) : Int) := by omega
    rw [decide_eq_true hd]
    refine iteT ?_
    refine ⟨_, rfl, w, a, b, c, 13, rfl, W, by omega, by decide, by decide, fun x1 a1 c1 H1 x10 x19 hc1 W1 B1 => ?_⟩
    refine ⟨_, rfl, _, _, rfl, rfl, _, rfl, ite2 (fun w0 => ?_) (fun w0 => ?_)⟩
    · refine ⟨_, rfl, w, a1, b, c1, 0, rfl, W1, (by show c1 + 64 < 1000000000000000; omega), fun r d a2 c2 H2 hc2 W2 B2 RV G2 => ⟨(by show 2 ≤ sizeLine; decide), fun t ht => ?_⟩⟩
      have hc2' : c2 ≤ c1 + 64 := hc2
      have n := same_new (o := .tup [.str "say", r]) ht
      exact fin _ (.say d) a2 c2 _ (by omega) (W2.same n) ((B1.trans B2).trans (But.of n)) (rep_its upd_same (its2 (tS (by decide +kernel) (by decide +kernel)) (RV.ofKeep.same n)) (by show 2 ≤ 60; decide)) (xd_say G2)
    refine ⟨_, rfl, rfl, _, rfl, ite2 (fun w1 => ?_) (fun w1 => ?_)⟩
    · refine ⟨_, rfl, (by show 3 ≤ sizeLine; decide), fun l hl => ?_⟩
      have nl : l ≠ w := fun z => by rw [z, W1.at_] at hl; cases hl
      refine ⟨w, l, a1, b, c1, _, rfl, W1.same (same_new hl), by omega, upd_same, nl, (by show 0 < 3; decide), (by show 3 < 1000; decide), fun v a2 c2 H2 hv hc2 W2 B2 => ⟨(by show 2 ≤ sizeLine; decide), fun t ht => ?_⟩⟩
      have n := same_new (o := .tup [.str "param", v]) ht
      have bb := ((B1.trans (But.of (same_new hl))).trans B2).trans (But.of n)
      simp only [List.mem_cons, List.not_mem_nil, or_false] at hv
      rcases hv with rfl | rfl | rfl <;> exact fin _ (.ref "param" _) a2 c2 _ (by omega) (W2.same n) bb (rep_its upd_same (its2 (tS (by decide +kernel) (by decide +kernel)) (tS (by decide +kernel) (by decide +kernel))) (by show 2 ≤ 60; decide)) (xd_leaf (.ref (.inl rfl)) rfl rfl (by decide +kernel))
    refine ⟨_, rfl, rfl, _, rfl, ite2 (fun w2 => ?_) (fun w2 => ?_)⟩
    · refine ⟨_, rfl, (by show 2 ≤ sizeLine; decide), fun t1 ht1 => ?_⟩
      have n1 := same_new (o := .tup [.str "own", .str "key"]) ht1
      have e1 := at_new (o := .tup [.str "own", .str "key"]) ht1
      generalize (upd H1 t1 (.tup [.str "own", .str "key"])) = G1 at n1 e1 ⊢
      refine ⟨(by show 3 ≤ sizeLine; decide), fun t2 ht2 => ?_⟩
      have n2 := same_new (o := .tup [.str "out", .str "inner", .str "o"]) ht2
      have e2 := at_new (o := .tup [.str "out", .str "inner", .str "o"]) ht2
      generalize (upd G1 t2 (.tup [.str "out", .str "inner", .str "o"])) = G2 at n2 e2 ⊢
      refine ⟨(by show 4 ≤ sizeLine; decide), fun t3 ht3 => ?_⟩
      have n3 := same_new (o := .tup [.str "of", .str "net", .str "one", .str "x"]) ht3
      have e3 := at_new (o := .tup [.str "of", .str "net", .str "one", .str "x"]) ht3
      generalize (upd G2 t3 (.tup [.str "of", .str "net", .str "one", .str "x"])) = G3 at n3 e3 ⊢
      refine ⟨(by show 2 ≤ sizeLine; decide), fun t4 ht4 => ?_⟩
      have n4 := same_new (o := .tup [.str "own", .str "index"]) ht4
      have e4 := at_new (o := .tup [.str "own", .str "index"]) ht4
      generalize (upd G3 t4 (.tup [.str "own", .str "index"])) = G4 at n4 e4 ⊢
      refine ⟨(by show 4 ≤ sizeLine; decide), fun l hl => ?_⟩
      have n5 := same_new (o := .lst [.ref t1, .ref t2, .ref t3, .ref t4]) hl
      have e5 := at_new (o := .lst [.ref t1, .ref t2, .ref t3, .ref t4]) hl
      generalize (upd G4 l (.lst [.ref t1, .ref t2, .ref t3, .ref t4])) = G5 at n5 e5 ⊢
      have k4 := n5
      have k3 := n4.trans k4
      have k2 := n3.trans k3
      have k1 := n2.trans k2
      have nt := n1.trans k1
      have W5 := W1.same nt
      have nl : l ≠ w := fun z => by rw [z, (W1.same (((n1.trans n2).trans n3).trans n4)).at_] at hl; cases hl
      refine ⟨w, l, a1, b, c1, _, rfl, W5, by omega, e5, nl, (by show 0 < 4; decide), (by show 4 < 1000; decide), fun v a2 c2 H2 hv hc2 W2 B2 => ?_⟩
      have bb := (B1.trans (But.of nt)).trans B2
      have kp : ∀ (t : Addr) (ys : List V), G5 t = some (.tup ys) → H2 t = some (.tup ys) := fun t ys e => B2 _ _ e (ne_of e W5.at_ (fun z => nomatch z))
      simp only [List.mem_cons, List.not_mem_nil, or_false] at hv
      rcases hv with rfl | rfl | rfl | rfl
      · exact fin _ (.ref "own" "key") a2 c2 _ (by omega) W2 bb (rep_its (kp _ _ (k1 _ _ e1)) (its2 (tS (by decide +kernel) (by decide +kernel)) (tS (by decide +kernel) (by decide +kernel))) (by show 2 ≤ 60; decide)) (xd_leaf (.ref (.inr rfl)) rfl rfl (by decide +kernel))
      · exact fin _ (.out "inner" "o") a2 c2 _ (by omega) W2 bb (rep_its (kp _ _ (k2 _ _ e2)) (its3 (tS (by decide +kernel) (by decide +kernel)) (tS (by decide +kernel) (by decide +kernel)) (tS (by decide +kernel) (by decide +kernel))) (by show 3 ≤ 60; decide)) (xd_leaf (.out _ _) rfl rfl (by decide +kernel))
      · exact fin _ (.of "net" "one" "x") a2 c2 _ (by omega) W2 bb (rep_its (kp _ _ (k3 _ _ e3)) (its4 (tS (by decide +kernel) (by decide +kernel)) (tS (by decide +kernel) (by decide +kernel)) (tS (by decide +kernel) (by decide +kernel)) (tS (by decide +kernel) (by decide +kernel))) (by show 4 ≤ 60; decide)) (xd_leaf (.of _ _ _) rfl rfl (by decide +kernel))
      · exact fin _ (.ref "own" "index") a2 c2 _ (by omega) W2 bb (rep_its (kp _ _ (k4 _ _ e4)) (its2 (tS (by decide +kernel) (by decide +kernel)) (tS (by decide +kernel) (by decide +kernel))) (by show 2 ≤ 60; decide)) (xd_leaf (.ref (.inr rfl)) rfl rfl (by decide +kernel))
    have e4 : (4 : Int) ^ (j + 1) = 4 ^ j * 4 := Int.pow_succ _ _
    rw [e4] at hc kk
    have q4' : (1 : Int) ≤ 4 ^ j := by rw [e4] at q4; omega
    clear fin q4
    generalize hP : (4 : Int) ^ j = P4 at q4' hc kk
    refine ⟨3, rfl, by decide, by decide, fun D hD => ?_⟩
    have nDw : D ≠ w := Ne.symm (ne_of_none W1.at_ hD)
    refine lc_it walk_range (fun i' H' => But w H1 H' ∧ ∃ a' c', Well H' w a' b c' ∧ c' ≤ c1 + (i' : Int) * (256 * P4) ∧ ∃ acc xs, H' D = some (.lst acc) ∧ acc.length = i' ∧ Its CU H' acc (toDL xs) ∧ ∀ x ∈ xs, XD j x) ?_ (fun _ _ _ _ => trivial) ?_ ?_
    · exact ⟨But.of (same_new hD), a1, c1, W1.same (same_new hD), by omega, [], [], upd_same, rfl, ⟨rfl, fun i v d h _ => nomatch h⟩, fun d h => nomatch h⟩
    · rintro i' x Ha Hb hi ⟨Bu, a', c', Wl, hcl, acc, xs, hD', hla, hI, hdp⟩ ⟨rfl, rfl⟩
      have hi2 : i' ≤ 2 := by
        have : i' < 3 := hi
        omega
      have hi3 : (i' : Int) * (256 * P4) ≤ 2 * (256 * P4) := Int.mul_le_mul_of_nonneg_right (by omega) (by omega)
      refine ⟨rfl, yes_i ⟨_, rfl, _, rfl, _, _, rfl, rfl, w, a', b, c', ?_, Wl, by rw [hP]; omega, fun r x a'' c'' H'' hc'' W'' B'' R'' G'' => ?_⟩⟩
      · show [V.ref w, V.int (((j + 1 : Nat) : Int) - 1)] = [V.ref w, V.int j]
        rw [show (((j + 1 : Nat) : Int) - 1) = (j : Int) from by omega]
      rw [hP] at hc''
      have hDD := B'' _ _ hD' nDw
      refine ⟨acc, hDD, small1000 (by omega), fun q o e nq => ?_, a'', c'', ⟨by rw [upd_ne (Ne.symm nDw)]; exact W''.at_, W''.b0, W''.b1, W''.c0, W''.c1⟩, ?_, acc ++ [r], xs ++ [x], upd_same, by rw [List.length_append, hla]; rfl, ?_, fun d' hd' => ?_⟩
      · rw [upd_ne (ne_of_none e hD)]
        exact B'' _ _ (Bu _ _ e nq) nq
      · rw [show ((i' + 1 : Nat) : Int) = (i' : Int) + 1 from by omega, Int.add_mul]
        omega
      · rw [show toDL (xs ++ [x]) = toDL xs ++ [toD x] from by rw [toDL_map, toDL_map, List.map_append]; rfl]
        exact (((hI.mono fun v d h => Wl.rep B'' h).snoc R'').mono fun v d h => h.but But.upd hDD tr_lst)
      · rcases List.mem_append.mp hd' with h | h
        · exact hdp d' h
        · rw [List.mem_singleton.mp h]
          exact G''
    rintro H4 ⟨Bu, a4, c4, W4, hc4, acc, xs, hD4, hla, hI, hXD⟩
    have B4 := B1.trans Bu
    have lxs : xs.length = 3 := by
      have := hI.1
      rw [toDL_map, List.length_map] at this
      have h3 : acc.length = 3 := hla
      omega
    obtain ⟨x0, y1, x2, rfl⟩ := three_l lxs
    obtain ⟨u0, u1, u2, rfl⟩ := three_l (show acc.length = 3 from hla)
    have R0 : Rep CU H4 u0 (toD x0) := hI.2 0 _ _ rfl rfl
    have R1 : Rep CU H4 u1 (toD y1) := hI.2 1 _ _ rfl rfl
    have R2 : Rep CU H4 u2 (toD x2) := hI.2 2 _ _ rfl rfl
    have X0 := hXD x0 (by simp)
    have X1 := hXD y1 (by simp)
    have X2 := hXD x2 (by simp)
    have hc4' : c4 ≤ c1 + 3 * (256 * P4) := hc4
    have fin : ∀ (r : V) (x : X) (a' c' : Int) (H' : Hp), c' ≤ c4 + 5 → Well H' w a' b c' → But w H4 H' → Rep CU H' r (toD x) → XD (j + 1) x → Q r H' := fun r x a' c' H' h1 h2 h3 h4 h5 => kk r x a' c' H' (by omega) h2 (B4.trans h3) h4 h5
    clear kk
    refine ⟨_, rfl, rfl, _, rfl, ite2 (fun w4 => ?_) (fun w4 => ?_)⟩
    · refine ⟨_, rfl, _, rfl, w, a4, b, c4, 4, rfl, W4, by omega, by decide, by decide, fun x5 a5 c5 H5 x50 x51 hc5 W5 B5 => ⟨x5, rfl, D, _, rfl, SqL.of (B5 _ _ hD4 nDw), fun p hp => ⟨p, _, rfl, .inl ⟨SqL.of upd_same, fun t ht => ⟨(by show 2 ≤ sizeLine; decide), fun t2 ht2 => ?_⟩⟩⟩⟩⟩
      obtain ⟨n, rfl⟩ : ∃ n : Nat, x5 = n := ⟨x5.toNat, by omega⟩
      rw [cut_take] at ht ht2 ⊢
      have m := ((same_new hp).trans (same_new ht)).trans (same_new (o := .tup [.str "tuple", .ref t]) ht2)
      have hT : (upd (upd (upd H5 p (.lst ([u0, u1, u2].take n))) t (.tup ([u0, u1, u2].take n))) t2 (.tup [.str "tuple", .ref t])) t = some (.tup ([u0, u1, u2].take n)) := same_new ht2 _ _ upd_same
      generalize hG : (upd (upd (upd H5 p (.lst ([u0, u1, u2].take n))) t (.tup ([u0, u1, u2].take n))) t2 (.tup [.str "tuple", .ref t])) = G at m hT ⊢
      have hT2 : G t2 = some (.tup [.str "tuple", .ref t]) := by rw [← hG]; exact upd_same
      have hI5 := (its_take n hI).mono fun v d h => (W4.rep B5 h).same m
      have ll : ([x0, y1, x2].take n).length ≤ 3 := by rw [List.length_take]; exact Nat.min_le_right _ _
      exact fin _ (.tup ([x0, y1, x2].take n)) a5 c5 _ (by omega) (W5.same m) (B5.trans (But.of m)) (rep_its hT2 (its2 (tS (by decide +kernel) (by decide +kernel)) (rep_its hT hI5 (by rw [toDL_map, List.length_map]; omega))) (by show 2 ≤ 60; decide)) (xd_tup (fun x hx => hXD x (List.mem_of_mem_take hx)) ll)
    refine ⟨_, rfl, rfl, _, rfl, ite2 (fun w5 => ?_) (fun w5 => ?_)⟩
    · refine ⟨_, rfl, w, a4, b, c4, 4, rfl, W4, by omega, by decide, by decide, fun x5 a5 c5 H5 x50 x51 hc5 W5 B5 => ⟨x5, rfl, by omega, by omega, fun D2 hD2 => ?_⟩⟩
      obtain ⟨n, rfl⟩ : ∃ n : Nat, x5 = n := ⟨x5.toNat, by omega⟩
      have n3 : n ≤ 3 := by omega
      have hD5 := B5 _ _ hD4 nDw
      refine lc_rel walk_range hD2 (small1000 (by omega)) (fun i H' v => ∃ t k x, v = .ref t ∧ abc[i]? = some k ∧ [u0, u1, u2][i]? = some x ∧ H' t = some (.tup [.str k, x]))
        (fun i H H' v m ⟨t, k, x, e, h1, h2, h3⟩ => ⟨t, k, x, e, h1, h2, m _ _ h3⟩)
        (fun i H H' v l bu hl ⟨t, k, x, e, h1, h2, h3⟩ => ⟨t, k, x, e, h1, h2, bu _ _ h3 (ne_of h3 hl (fun z => nomatch z))⟩)
        (fun _ _ => trivial) (fun i' x H6 H7 hi m hy N hN => ?_) mono_name (fun H6 zs m f hlz hR => ?_)
      · obtain ⟨rfl, rfl⟩ := hy
        have hi3 : i' < 3 := by
          have : i' < ((n : Int)).toNat := hi
          omega
        have ek : abc[i']? = some abc[i'] := List.getElem?_eq_getElem hi3
        have eu : [u0, u1, u2][i']? = some [u0, u1, u2][i'] := List.getElem?_eq_getElem hi3
        have ak : atI [V.str "a", .str "b", .str "c"] (i' : Int) = some (.str abc[i']) := by
          refine atI_nat ?_
          show (abc.map V.str)[i']? = _
          rw [List.getElem?_map, ek]
          rfl
        rw [show (fun i : Nat => V.int (0 + (i : Int))) i' = V.int (i' : Int) from by show V.int (0 + (i' : Int)) = _; rw [Int.zero_add]]
        refine ⟨rfl, (by show 3 ≤ sizeLine; decide), fun l hl => ⟨_, rfl, l, _, _, _, rfl, rfl, SqL.of upd_same, ak, _, rfl, _, rfl, D, _, _, _, rfl, rfl, SqL.of (same_new hl _ _ (m _ _ hD5)), atI_nat eu, (by show 2 ≤ sizeLine; decide), fun t2 ht2 => ?_⟩⟩
        exact hN _ _ ((same_new hl).trans (same_new ht2)) ⟨t2, _, _, rfl, ek, eu, upd_same⟩
      · have lz : zs.length = n := by
          rw [hlz]
          omega
        refine ⟨D2, zs, rfl, .inl ⟨SqL.of f, fun t ht => ⟨(by show 2 ≤ sizeLine; decide), fun t2 ht2 => ?_⟩⟩⟩
        have m6 := m.trans ((same_new (o := .tup zs) ht).trans (same_new (o := .tup [.str "map", .ref t]) ht2))
        have m6' := (same_new (o := .tup zs) ht).trans (same_new (o := .tup [.str "map", .ref t]) ht2)
        have hT : (upd (upd H6 t (.tup zs)) t2 (.tup [.str "map", .ref t])) t = some (.tup zs) := same_new ht2 _ _ upd_same
        generalize hG : (upd (upd H6 t (.tup zs)) t2 (.tup [.str "map", .ref t])) = G at m6 m6' hT ⊢
        have hT2 : G t2 = some (.tup [.str "map", .ref t]) := by rw [← hG]; exact upd_same
        have hI5 : Its CU G [u0, u1, u2] (toDL [x0, y1, x2]) := hI.mono fun v d h => (W4.rep B5 h).same m6
        have lk : (abc.take n).length = n := by
          rw [List.length_take]
          exact Nat.min_eq_left n3
        have lx : ([x0, y1, x2].take n).length = n := by
          rw [List.length_take]
          exact Nat.min_eq_left n3
        have lr : (rowsD (abc.take n) (toDL ([x0, y1, x2].take n))).length = n := by
          unfold rowsD
          rw [List.length_map, List.length_zip, toDL_map, List.length_map, lk, lx, Nat.min_self]
        have hrows : Rep CU G (.ref t) (.tup (rowsD (abc.take n) (toDL ([x0, y1, x2].take n)))) := by
          refine .tup hT (by rw [lz, lr]) (by rw [lr]; omega) fun i v d hv hd => ?_
          have hi : i < n := by
            rw [← lz]
            exact (List.getElem?_eq_some_iff.mp hv).1
          obtain ⟨tt, kx, xx, rfl, ek, ex, eo⟩ := hR i v hv
          have eo' := m6' _ _ eo
          have e2 : (toDL ([x0, y1, x2].take n))[i]? = (toDL [x0, y1, x2])[i]? := by
            rw [toDL_map, toDL_map, List.getElem?_map, List.getElem?_map, List.getElem?_take_of_lt hi]
          have hi3 : i < (toDL [x0, y1, x2]).length := by show i < 3; omega
          have e3 : (toDL [x0, y1, x2])[i]? = some (toDL [x0, y1, x2])[i] := List.getElem?_eq_getElem hi3
          have er : (rowsD (abc.take n) (toDL ([x0, y1, x2].take n)))[i]? = some (.tup [.str kx, (toDL [x0, y1, x2])[i]]) := by
            unfold rowsD
            rw [List.getElem?_map, (List.getElem?_zip_eq_some (z := (kx, (toDL [x0, y1, x2])[i]))).mpr ⟨by rw [List.getElem?_take_of_lt hi]; exact ek, by rw [e2]; exact e3⟩]
            rfl
          rw [er] at hd
          cases hd
          exact rep_its eo' (its2 (.str _ (abc_tx kx (List.mem_of_getElem? ek))) (hI5.2 i xx _ ex e3)) (by show 2 ≤ 60; decide)
        exact fin _ (.map (abc.take n) ([x0, y1, x2].take n)) a5 c5 _ (by omega) (W5.same m6) (B5.trans (But.of m6)) (rep_its hT2 (its2 (tS (by decide +kernel) (by decide +kernel)) hrows) (by show 2 ≤ 60; decide)) (xd_map (fun x hx => hXD x (List.mem_of_mem_take hx)) (by omega) (by omega) (List.Nodup.sublist (List.take_sublist _ _) (by decide +kernel)) fun k hk => (abc_one k (List.mem_of_mem_take hk)))
    refine ⟨_, rfl, rfl, _, rfl, ite2 (fun w6 => ?_) (fun w6 => ?_)⟩
    · refine ⟨_, rfl, _, rfl, w, a4, b, c4, 4, rfl, W4, by omega, by decide, by decide, fun x5 a5 c5 H5 x50 x51 hc5 W5 B5 => ⟨x5, rfl, D, _, rfl, SqL.of (B5 _ _ hD4 nDw), fun p hp => ⟨p, _, rfl, .inl ⟨SqL.of upd_same, fun t ht => ⟨(by show 2 ≤ sizeLine; decide), fun t2 ht2 => ?_⟩⟩⟩⟩⟩
      obtain ⟨n, rfl⟩ : ∃ n : Nat, x5 = n := ⟨x5.toNat, by omega⟩
      rw [cut_take] at ht ht2 ⊢
      have m := ((same_new hp).trans (same_new ht)).trans (same_new (o := .tup [.str "join", .ref t]) ht2)
      have hT : (upd (upd (upd H5 p (.lst ([u0, u1, u2].take n))) t (.tup ([u0, u1, u2].take n))) t2 (.tup [.str "join", .ref t])) t = some (.tup ([u0, u1, u2].take n)) := same_new ht2 _ _ upd_same
      generalize hG : (upd (upd (upd H5 p (.lst ([u0, u1, u2].take n))) t (.tup ([u0, u1, u2].take n))) t2 (.tup [.str "join", .ref t])) = G at m hT ⊢
      have hT2 : G t2 = some (.tup [.str "join", .ref t]) := by rw [← hG]; exact upd_same
      have hI5 := (its_take n hI).mono fun v d h => (W4.rep B5 h).same m
      have ll : ([x0, y1, x2].take n).length ≤ 3 := by rw [List.length_take]; exact Nat.min_le_right _ _
      exact fin _ (.join ([x0, y1, x2].take n)) a5 c5 _ (by omega) (W5.same m) (B5.trans (But.of m)) (rep_its hT2 (its2 (tS (by decide +kernel) (by decide +kernel)) (rep_its hT hI5 (by rw [toDL_map, List.length_map]; omega))) (by show 2 ≤ 60; decide)) (xd_join (fun x hx => hXD x (List.mem_of_mem_take hx)) ll)
    refine ⟨_, rfl, _, _, rfl, rfl, _, rfl, ite2 (fun w8 => ?_) (fun w8 => ?_)⟩
    · refine ⟨_, rfl, _, rfl, D, _, 2, _, rfl, rfl, SqL.of hD4, atI_nat (j := 2) rfl, _, rfl, D, _, 0, _, rfl, rfl, SqL.of hD4, atI_nat (j := 0) rfl, (by show 3 ≤ sizeLine; decide), fun t1 ht1 => ?_⟩
      have n1 := same_new (o := .tup [.str "same", u2, u0]) ht1
      have e1 := at_new (o := .tup [.str "same", u2, u0]) ht1
      generalize (upd H4 t1 (.tup [.str "same", u2, u0])) = G1 at n1 e1 ⊢
      refine ⟨(by show 2 ≤ sizeLine; decide), fun t2 ht2 => ?_⟩
      have n2 := same_new (o := .tup [.str "param", .str "c"]) ht2
      have e2 := at_new (o := .tup [.str "param", .str "c"]) ht2
      generalize (upd G1 t2 (.tup [.str "param", .str "c"])) = G2 at n2 e2 ⊢
      refine ⟨_, rfl, D, _, 2, _, rfl, rfl, SqL.of (n2 _ _ (n1 _ _ hD4)), atI_nat (j := 2) rfl, (by show 3 ≤ sizeLine; decide), fun l hl => ?_⟩
      have n3 := same_new (o := .lst [.ref t1, .ref t2, u2]) hl
      have e3 := at_new (o := .lst [.ref t1, .ref t2, u2]) hl
      generalize (upd G2 l (.lst [.ref t1, .ref t2, u2])) = G3 at n3 e3 ⊢
      have nt := (n1.trans n2).trans n3
      have WG := W4.same nt
      have nl : l ≠ w := fun z => by rw [z, (W4.same (n1.trans n2)).at_] at hl; cases hl
      refine ⟨w, l, a4, b, c4, _, rfl, WG, by omega, e3, nl, (by show 0 < 3; decide), (by show 3 < 1000; decide), fun v a5 c5 H5 hv hc5 W5 B5' => ?_⟩
      have B5 : But w H4 H5 := (But.of nt).trans B5'
      have hD5 := B5 _ _ hD4 nDw
      refine ⟨_, rfl, D, _, 0, _, rfl, rfl, SqL.of hD5, atI_nat (j := 0) rfl, _, rfl, D, _, 1, _, rfl, rfl, SqL.of hD5, atI_nat (j := 1) rfl, (by show 4 ≤ sizeLine; decide), fun t ht => ?_⟩
      have n := same_new (o := .tup [.str "if", v, u0, u1]) ht
      have eT := at_new (o := .tup [.str "if", v, u0, u1]) ht
      generalize (upd H5 t (.tup [.str "if", v, u0, u1])) = G at n eT ⊢
      have kp : ∀ (t : Addr) (ys : List V), G3 t = some (.tup ys) → G t = some (.tup ys) := fun t ys e => n _ _ (B5' _ _ e (ne_of e WG.at_ (fun z => nomatch z)))
      have S0 := (W4.rep B5 R0).same n
      have S1 := (W4.rep B5 R1).same n
      have S2 := (W4.rep B5 R2).same n
      simp only [List.mem_cons, List.not_mem_nil, or_false] at hv
      rcases hv with rfl | rfl | rfl
      · obtain ⟨g1, g2, g3, g4⟩ := xd_same X2 X0
        exact fin _ (.iff (.same x2 x0) x0 y1) a5 c5 _ (by omega) (W5.same n) (B5.trans (But.of n)) (rep_its eT (its4 (tS (by decide +kernel) (by decide +kernel)) (rep_its (kp _ _ ((n2.trans n3) _ _ e1)) (its3 (tS (by decide +kernel) (by decide +kernel)) S2 S0) (by show 3 ≤ 60; decide)) S0 S1) (by show 4 ≤ 60; decide)) (xd_if g1 g2 g3 g4 X0 X1)
      · exact fin _ (.iff (.ref "param" "c") x0 y1) a5 c5 _ (by omega) (W5.same n) (B5.trans (But.of n)) (rep_its eT (its4 (tS (by decide +kernel) (by decide +kernel)) (rep_its (kp _ _ (n3 _ _ e2)) (its2 (tS (by decide +kernel) (by decide +kernel)) (tS (by decide +kernel) (by decide +kernel))) (by show 2 ≤ 60; decide)) S0 S1) (by show 4 ≤ 60; decide)) (xd_if (.ref (.inl rfl)) (Nat.zero_le _) rfl (by
          have := LX_ge j
          have e : ln (toD (.ref "param" "c")) ≤ 1500 := by decide +kernel
          omega) X0 X1)
      · exact fin _ (.iff x2 x0 y1) a5 c5 _ (by omega) (W5.same n) (B5.trans (But.of n)) (rep_its eT (its4 (tS (by decide +kernel) (by decide +kernel)) S2 S0 S1) (by show 4 ≤ 60; decide)) (xd_if X2.g (by have := X2.xd; omega) X2.nu (by have := X2.le; omega) X0 X1)
    refine ⟨_, rfl, rfl, _, rfl, ite2 (fun w9 => ?_) (fun w9 => ?_)⟩
    · refine ⟨_, rfl, D, _, 0, _, rfl, rfl, SqL.of hD4, atI_nat (j := 0) rfl, _, rfl, D, _, 1, _, rfl, rfl, SqL.of hD4, atI_nat (j := 1) rfl, (by show 3 ≤ sizeLine; decide), fun t ht => ?_⟩
      have n := same_new (o := .tup [.str "same", u0, u1]) ht
      exact fin _ (.same x0 y1) a4 c4 _ (by omega) (W4.same n) (But.of n) (rep_its upd_same (its3 (tS (by decide +kernel) (by decide +kernel)) (R0.same n) (R1.same n)) (by show 3 ≤ 60; decide)) (xd_same' X0 X1)
    refine ⟨_, rfl, rfl, _, rfl, ite2 (fun w10 => ?_) (fun w10 => ?_)⟩
    · refine ⟨_, rfl, D, _, 0, _, rfl, rfl, SqL.of hD4, atI_nat (j := 0) rfl, (by show 2 ≤ sizeLine; decide), fun t ht => ?_⟩
      have n := same_new (o := .tup [.str "size", u0]) ht
      exact fin _ (.size x0) a4 c4 _ (by omega) (W4.same n) (But.of n) (rep_its upd_same (its2 (tS (by decide +kernel) (by decide +kernel)) (R0.same n)) (by show 2 ≤ 60; decide)) (xd_size X0)
    refine ⟨_, rfl, rfl, _, rfl, ite2 (fun w11 => ?_) (fun w11 => ?_)⟩
    · refine ⟨_, rfl, D, _, 0, _, rfl, rfl, SqL.of hD4, atI_nat (j := 0) rfl, _, rfl, _, rfl, D, _, 1, _, rfl, rfl, SqL.of hD4, atI_nat (j := 1) rfl, (by show 2 ≤ sizeLine; decide), fun t1 ht1 => ?_⟩
      have n1 := same_new (o := .tup [.str "say", .int 0]) ht1
      have e1 := at_new (o := .tup [.str "say", .int 0]) ht1
      generalize (upd H4 t1 (.tup [.str "say", .int 0])) = G1 at n1 e1 ⊢
      refine ⟨(by show 2 ≤ sizeLine; decide), fun t2 ht2 => ?_⟩
      have n2 := same_new (o := .tup [.str "say", .str "a"]) ht2
      have e2 := at_new (o := .tup [.str "say", .str "a"]) ht2
      generalize (upd G1 t2 (.tup [.str "say", .str "a"])) = G2 at n2 e2 ⊢
      refine ⟨(by show 2 ≤ sizeLine; decide), fun t3 ht3 => ?_⟩
      have n3 := same_new (o := .tup [.str "say", .int 1]) ht3
      have e3 := at_new (o := .tup [.str "say", .int 1]) ht3
      generalize (upd G2 t3 (.tup [.str "say", .int 1])) = G3 at n3 e3 ⊢
      refine ⟨(by show 4 ≤ sizeLine; decide), fun l hl => ?_⟩
      have n4 := same_new (o := .lst [u1, .ref t1, .ref t2, .ref t3]) hl
      have e4 := at_new (o := .lst [u1, .ref t1, .ref t2, .ref t3]) hl
      generalize (upd G3 l (.lst [u1, .ref t1, .ref t2, .ref t3])) = G4 at n4 e4 ⊢
      have nt := ((n1.trans n2).trans n3).trans n4
      have WG := W4.same nt
      have nl : l ≠ w := fun z => by rw [z, (W4.same ((n1.trans n2).trans n3)).at_] at hl; cases hl
      refine ⟨w, l, a4, b, c4, _, rfl, WG, by omega, e4, nl, (by show 0 < 4; decide), (by show 4 < 1000; decide), fun v a5 c5 H5 hv hc5 W5 B5' => ?_⟩
      have B5 : But w H4 H5 := (But.of nt).trans B5'
      refine ⟨(by show 3 ≤ sizeLine; decide), fun t ht => ?_⟩
      have n := same_new (o := .tup [.str "pick", u0, v]) ht
      have eT := at_new (o := .tup [.str "pick", u0, v]) ht
      generalize (upd H5 t (.tup [.str "pick", u0, v])) = G at n eT ⊢
      have kp : ∀ (t : Addr) (ys : List V), G4 t = some (.tup ys) → G t = some (.tup ys) := fun t ys e => n _ _ (B5' _ _ e (ne_of e WG.at_ (fun z => nomatch z)))
      have S0 := (W4.rep B5 R0).same n
      have S1 := (W4.rep B5 R1).same n
      simp only [List.mem_cons, List.not_mem_nil, or_false] at hv
      rcases hv with rfl | rfl | rfl | rfl
      · exact fin _ (.pick x0 y1) a5 c5 _ (by omega) (W5.same n) (B5.trans (But.of n)) (rep_its eT (its3 (tS (by decide +kernel) (by decide +kernel)) S0 S1) (by show 3 ≤ 60; decide)) (xd_pick X0 X1)
      · exact fin _ (.pick x0 (.say (.int 0))) a5 c5 _ (by omega) (W5.same n) (B5.trans (But.of n)) (rep_its eT (its3 (tS (by decide +kernel) (by decide +kernel)) S0 (rep_its (kp _ _ ((n2.trans (n3.trans n4)) _ _ e1)) (its2 (tS (by decide +kernel) (by decide +kernel)) (.int _)) (by show 2 ≤ 60; decide))) (by show 3 ≤ 60; decide)) (xd_pick X0 (xd_say ((vl_int (by decide) (by decide)).vg _ _)))
      · exact fin _ (.pick x0 (.say (.str "a"))) a5 c5 _ (by omega) (W5.same n) (B5.trans (But.of n)) (rep_its eT (its3 (tS (by decide +kernel) (by decide +kernel)) S0 (rep_its (kp _ _ ((n3.trans n4) _ _ e2)) (its2 (tS (by decide +kernel) (by decide +kernel)) (tS (by decide +kernel) (by decide +kernel))) (by show 2 ≤ 60; decide))) (by show 3 ≤ 60; decide)) (xd_pick X0 (xd_say ((vl_str (by decide +kernel) (by decide +kernel)).vg _ _)))
      · exact fin _ (.pick x0 (.say (.int 1))) a5 c5 _ (by omega) (W5.same n) (B5.trans (But.of n)) (rep_its eT (its3 (tS (by decide +kernel) (by decide +kernel)) S0 (rep_its (kp _ _ (n4 _ _ e3)) (its2 (tS (by decide +kernel) (by decide +kernel)) (.int _)) (by show 2 ≤ 60; decide))) (by show 3 ≤ 60; decide)) (xd_pick X0 (xd_say ((vl_int (by decide) (by decide)).vg _ _)))
    refine ⟨_, rfl, (by show 2 ≤ sizeLine; decide), fun lm hlm => ?_⟩
    have nlm : lm ≠ w := fun z => by rw [z, W4.at_] at hlm; cases hlm
    refine ⟨w, lm, a4, b, c4, _, rfl, W4.same (same_new hlm), by omega, upd_same, nlm, (by show 0 < 2; decide), (by show 2 < 1000; decide), fun mv a5 c5 H5 hv hc5 W5 B5' => ?_⟩
    have B5 : But w H4 H5 := (But.of (same_new hlm)).trans B5'
    have hD5 := B5 _ _ hD4 nDw
    obtain ⟨many, rfl, hm, hok⟩ : ∃ many : Str, mv = .str many ∧ many.length ≤ 5 ∧ PyData.strOk many = true := by
      simp only [List.mem_cons, List.not_mem_nil, or_false] at hv
      rcases hv with rfl | rfl <;> exact ⟨_, rfl, by decide +kernel, by decide +kernel⟩
    clear hv
    refine ⟨_, rfl, _, rfl, (by show 4 ≤ sizeLine; decide), fun t1 ht1 => ?_⟩
    have n1 := same_new (o := .tup [.str "each", .str "net", .str many, .str "x"]) ht1
    have e1 := at_new (o := .tup [.str "each", .str "net", .str many, .str "x"]) ht1
    generalize (upd H5 t1 (.tup [.str "each", .str "net", .str many, .str "x"])) = G1 at n1 e1 ⊢
    refine ⟨_, rfl, _, rfl, D, _, 0, _, rfl, rfl, SqL.of (n1 _ _ hD5), atI_nat (j := 0) rfl, (by show 5 ≤ sizeLine; decide), fun t2 ht2 => ?_⟩
    have n2 := same_new (o := .tup [.str "at", .str "net", .str many, u0, .str "x"]) ht2
    have e2 := at_new (o := .tup [.str "at", .str "net", .str many, u0, .str "x"]) ht2
    generalize (upd G1 t2 (.tup [.str "at", .str "net", .str many, u0, .str "x"])) = G2 at n2 e2 ⊢
    refine ⟨(by show 2 ≤ sizeLine; decide), fun t3 ht3 => ?_⟩
    have n3 := same_new (o := .tup [.str "say", .str "a"]) ht3
    have e3 := at_new (o := .tup [.str "say", .str "a"]) ht3
    generalize (upd G2 t3 (.tup [.str "say", .str "a"])) = G3 at n3 e3 ⊢
    refine ⟨(by show 3 ≤ sizeLine; decide), fun l hl => ?_⟩
    have n4 := same_new (o := .lst [.ref t1, .ref t2, .ref t3]) hl
    have e4 := at_new (o := .lst [.ref t1, .ref t2, .ref t3]) hl
    generalize (upd G3 l (.lst [.ref t1, .ref t2, .ref t3])) = G4 at n4 e4 ⊢
    have nt := ((n1.trans n2).trans n3).trans n4
    have WG := W5.same nt
    have nl : l ≠ w := fun z => by rw [z, (W5.same ((n1.trans n2).trans n3)).at_] at hl; cases hl
    refine ⟨w, l, a5, b, c5, _, rfl, WG, by omega, e4, nl, (by show 0 < 3; decide), (by show 3 < 1000; decide), fun v a6 c6 H6 hv hc6 W6 B6' => ?_⟩
    have B6 : But w H4 H6 := B5.trans ((But.of nt).trans B6')
    have kp : ∀ (t : Addr) (ys : List V), G4 t = some (.tup ys) → H6 t = some (.tup ys) := fun t ys e => B6' _ _ e (ne_of e WG.at_ (fun z => nomatch z))
    have S0 := W4.rep B6 R0
    have tM : ∀ {H : Hp}, Rep CU H (.str many) (.str many) := .str _ ⟨hok, by omega⟩
    simp only [List.mem_cons, List.not_mem_nil, or_false] at hv
    rcases hv with rfl | rfl | rfl
    · exact fin _ (.each "net" many "x") a6 c6 _ (by omega) W6 B6 (rep_its (kp _ _ ((n2.trans (n3.trans n4)) _ _ e1)) (its4 (tS (by decide +kernel) (by decide +kernel)) (tS (by decide +kernel) (by decide +kernel)) tM (tS (by decide +kernel) (by decide +kernel))) (by show 4 ≤ 60; decide)) (xd_each hm)
    · exact fin _ (.at "net" many x0 "x") a6 c6 _ (by omega) W6 B6 (rep_its (kp _ _ ((n3.trans n4) _ _ e2)) (its5 (tS (by decide +kernel) (by decide +kernel)) (tS (by decide +kernel) (by decide +kernel)) tM S0 (tS (by decide +kernel) (by decide +kernel))) (by show 5 ≤ 60; decide)) (xd_at hm X0)
    · exact fin _ (.say (.str "a")) a6 c6 _ (by omega) W6 B6 (rep_its (kp _ _ (n4 _ _ e3)) (its2 (tS (by decide +kernel) (by decide +kernel)) (tS (by decide +kernel) (by decide +kernel))) (by show 2 ≤ 60; decide)) (xd_say ((vl_str (by decide +kernel) (by decide +kernel)).vg _ _))
end
end K04

namespace K04
open PySem L2 XR VT
open TL
abbrev sLNames : Stmt := top 41
section
variable {P : Program} {w : World} {K : PySem.W.Frag} {mg : Str → Option Value} {base : Heap} {CU : Addr}
structure BQ (T : Nat) (d : D) : Prop where
  bd : BD T d
  gd : Gd d
theorem BQ.unk {T : Nat} : BQ T .unk := ⟨.unk, .unk⟩
theorem BQ.bl {T : Nat} (b : Bool) : BQ T (.bl b) := ⟨.bl b, .bl b⟩
theorem BQ.str {T : Nat} (s : Str) (h : PyData.strOk s = true) (l : s.length ≤ T) (h3 : 35 ∉ s.cps.toList := by decide +kernel) : BQ T (.str s) := ⟨.str s h l, .str s h3⟩
theorem BQ.tup {T : Nat} {l : List D} (h : ∀ d ∈ l, BQ T d) (hl : l.length ≤ 60) : BQ T (.tup l) := ⟨.tup (fun d hd => (h d hd).bd) hl, .tup fun d hd => (h d hd).gd⟩
theorem BQ.map {T : Nat} {ks : List Str} {ds : List D} (h : ∀ d ∈ ds, BQ T d) (hl : ds.length ≤ 60) (nd : ks.Nodup) (hk : ks.length = ds.length) : BQ T (.map ks ds) := ⟨.map (fun d hd => (h d hd).bd) hl, .map nd hk fun d hd => (h d hd).gd⟩
theorem VG.bq {j : Nat} {dim : Int} {d : D} (h : VG j dim d) : BQ 20 d := ⟨h.bd, h.gd⟩
/-- names that are drawn -/
def NH (nm : Nm) : Prop := ∀ q ∈ nm, BQ 20 q.2 ∧ dep q.2 ≤ 4
theorem NH.ng {nm : Nm} (h : NH nm) : NG nm := fun q hq => ⟨(h q hq).1.bd, Nat.le_trans (h q hq).2 (by decide)⟩
def NOk (CU : Addr) (H : Hp) (q : List L2.Key × V) : Prop := ∃ (k : List Str) (d : D), q.1 = k.map Sum.inr ∧ Rep CU H q.2 d ∧ BQ 20 d ∧ dep d ≤ 4
def NR (CU : Addr) (H : Hp) (p : Addr) (n : Nat) : Prop := ∃ kvs, H p = some (.dT kvs) ∧ kvs.length ≤ n ∧ ∀ q ∈ kvs, NOk CU H q
theorem tr_dT {kvs : List (List L2.Key × V)} : ¬ Tr CU (.dT kvs) := fun h => by
  rcases h with ⟨_, z⟩ | ⟨_, z⟩ | ⟨_, z⟩ <;> cases z
theorem NOk.mono {H H' : Hp} {q : List L2.Key × V} (m : ∀ v d, Rep CU H v d → Rep CU H' v d) (h : NOk CU H q) : NOk CU H' q := let ⟨k, d, a, b, c, e⟩ := h; ⟨k, d, a, m _ _ b, c, e⟩
theorem NR.same {H H' : Hp} {p : Addr} {n : Nat} (m : Same H H') (h : NR CU H p n) : NR CU H' p n := let ⟨kvs, a, b, c⟩ := h; ⟨kvs, m _ _ a, b, fun q hq => (c q hq).mono fun v d r => r.same m⟩
theorem NR.but {H H' : Hp} {p w : Addr} {l : List V} {n : Nat} (m : But w H H') (e : H w = some (.lst l)) (h : NR CU H p n) : NR CU H' p n := let ⟨kvs, a, b, c⟩ := h; ⟨kvs, m _ _ a (ne_of a e (fun z => nomatch z)), b, fun q hq => (c q hq).mono fun v d r => r.but m e tr_lst⟩
theorem put_mem {kvs : List (List L2.Key × V)} {k : List L2.Key} {v : V} {q : List L2.Key × V} (h : q ∈ putK kvs k v) : q ∈ kvs ∨ q = (k, v) := by
  unfold putK at h
  split at h
  · obtain ⟨kv, hkv, e⟩ := List.mem_map.mp h
    split at e
    · rename_i hk
      rw [hk] at e
      exact .inr e.symm
    · rw [← e]
      exact .inl hkv
  · rcases List.mem_append.mp h with h | h
    · exact .inl h
    · exact .inr (List.mem_singleton.mp h)
theorem put_len (kvs : List (List L2.Key × V)) (k : List L2.Key) (v : V) : (putK kvs k v).length ≤ kvs.length + 1 := by
  unfold putK
  split
  · rw [List.length_map]
    omega
  · rw [List.length_append]
    exact Nat.le_refl _
theorem NR.put {H : Hp} {p t : Addr} {n : Nat} {k : List Str} {v : V} {d : D} (h : NR CU H p n) (ht : H t = some (.tup (k.map V.str))) (r : Rep CU H v d) (b : BQ 20 d) (dd : dep d ≤ 4) (hn : n < 50) : ∃ H2, DPut H p (.ref t) v H2 ∧ But p H H2 ∧ NR CU H2 p (n + 1) := by
  obtain ⟨kvs, a, l, c⟩ := h
  have ht' : H t = some (.tup ((k.map (Sum.inr : Str → L2.Key)).map kV)) := by rw [keyMap]; exact ht
  refine ⟨_, DPut.t a ht' (by rw [sizeLine_eq]; omega), But.upd, _, upd_same, Nat.le_trans (put_len _ _ _) (by omega), fun q hq => ?_⟩
  rcases put_mem hq with hq | rfl
  · exact (c q hq).mono fun v d r => r.but But.upd a tr_dT
  · exact ⟨k, d, rfl, r.but But.upd a tr_dT, b, dd⟩
theorem nok_list {H : Hp} : ∀ {kvs : List (List L2.Key × V)}, (∀ q ∈ kvs, NOk CU H q) → ∃ (nm : Nm) (vs : List V), kvs = mkt nm vs ∧ vs.length = nm.length ∧ nm.length = kvs.length ∧ NH nm ∧ ∀ (i : Nat) (v : V) (q : List Str × D), vs[i]? = some v → nm[i]? = some q → Rep CU H v q.2
  | [], _ => ⟨[], [], rfl, rfl, rfl, (fun q hq => nomatch hq), (fun i v q h _ => nomatch h)⟩
  | (kk, v) :: kvs, h => by
    obtain ⟨nm, vs, e, l1, l2, g, r⟩ := nok_list (kvs := kvs) fun q hq => h q (List.mem_cons_of_mem _ hq)
    obtain ⟨k, d, e1, r1, b1, d1⟩ := h _ List.mem_cons_self
    have e1' : kk = k.map Sum.inr := e1
    refine ⟨(k, d) :: nm, v :: vs, ?_, by rw [List.length_cons, List.length_cons, l1], by rw [List.length_cons, List.length_cons, l2], fun q hq => ?_, fun i v' q hv hq => ?_⟩
    · show (kk, v) :: kvs = (k.map Sum.inr, v) :: mkt nm vs
      rw [e1', ← e]
    · rcases List.mem_cons.mp hq with rfl | hq
      · exact ⟨b1, d1⟩
      · exact g q hq
    · cases i with
      | zero => cases hv; cases hq; exact r1
      | succ i => exact r i v' q hv hq
theorem NR.names {H : Hp} {p : Addr} {n : Nat} (h : NR CU H p n) (hn : n ≤ 60) : ∃ nm, NRep CU H p nm ∧ NH nm := by
  obtain ⟨kvs, a, l, c⟩ := h
  obtain ⟨nm, vs, e, l1, l2, g, r⟩ := nok_list c
  exact ⟨nm, ⟨vs, by rw [← e]; exact a, l1, by omega, r⟩, g⟩
/-- the names so far -/
structure NSt (CU : Addr) (H : Hp) (w p : Addr) (b cb : Int) (n : Nat) (H' : Hp) : Prop where
  wl : ∃ a' c', Well H' w a' b c' ∧ c' ≤ cb
  bu : But w H H'
  nr : NR CU H' p n
  fr : H p = none
section
variable {H H1 H2 : Hp} {w p : Addr} {b cb cb' : Int} {n : Nat}
theorem NSt.same (h : NSt CU H w p b cb n H1) (m : Same H1 H2) : NSt CU H w p b cb n H2 := ⟨let ⟨a, c, W, hc⟩ := h.wl; ⟨a, c, W.same m, hc⟩, h.bu.trans (But.of m), h.nr.same m, h.fr⟩
theorem NSt.step (h : NSt CU H w p b cb n H1) (B : But w H1 H2) {a' c' : Int} (W : Well H2 w a' b c') (hc : c' ≤ cb') : NSt CU H w p b cb' n H2 := ⟨⟨a', c', W, hc⟩, h.bu.trans B, let ⟨_, _, W1, _⟩ := h.wl; h.nr.but B W1.at_, h.fr⟩
theorem NSt.le {n' : Nat} (h : NSt CU H w p b cb n H1) (hc : cb ≤ cb') (hn : n ≤ n') : NSt CU H w p b cb' n' H1 := ⟨let ⟨a, c, W, e⟩ := h.wl; ⟨a, c, W, by omega⟩, h.bu, let ⟨kvs, e, l, q⟩ := h.nr; ⟨kvs, e, by omega, q⟩, h.fr⟩
theorem NSt.pw (h : NSt CU H w p b cb n H1) : ∃ kvs, H1 p = some (.dT kvs) ∧ p ≠ w := by
  obtain ⟨a, c, W, _⟩ := h.wl
  obtain ⟨kvs, e, _⟩ := h.nr
  exact ⟨kvs, e, ne_of e W.at_ (fun z => nomatch z)⟩
theorem NSt.put {t : Addr} {k : List Str} {v : V} {d : D} (h : NSt CU H w p b cb n H1) (ht : H1 t = some (.tup (k.map V.str))) (r : Rep CU H1 v d) (bd : BQ 20 d) (dd : dep d ≤ 4) (hn : n < 50) : ∃ H2, DPut H1 p (.ref t) v H2 ∧ But p H1 H2 ∧ NSt CU H w p b cb (n + 1) H2 := by
  obtain ⟨H2, q1, q2, q3⟩ := h.nr.put ht r bd dd hn
  obtain ⟨a, c, W, hc⟩ := h.wl
  obtain ⟨kvs, e, nw⟩ := h.pw
  refine ⟨H2, q1, q2, ⟨a, c, ⟨q2 _ _ W.at_ (Ne.symm nw), W.b0, W.b1, W.c0, W.c1⟩, hc⟩, fun x o hx hne => ?_, q3, h.fr⟩
  exact q2 _ _ (h.bu _ _ hx hne) (ne_of_none hx h.fr)
end
theorem new_ins {H : Hp} {u dx : Addr} (h1 : H u = none) (h2 : H dx = none) (h3 : dx ≠ u) : Same H (upd (upd H dx (.own u)) u (.ins CU dx [])) := (same_new h2).trans (same_new (by rw [upd_ne (Ne.symm h3)]; exact h1))
theorem disp_but {H1 H2 : Hp} {w D : Addr} {o o' : HO} (hD : H1 D = none) (B : But w (upd H1 D o') H2) : But w H1 (upd H2 D o) := fun x u hx hne => by
  rw [upd_ne (ne_of_none hx hD)]
  exact B _ _ (same_new hD _ _ hx) hne
theorem Well.off {H : Hp} {w D : Addr} {a b c : Int} {o : HO} (W : Well H w a b c) (h : D ≠ w) : Well (upd H D o) w a b c := ⟨by rw [upd_ne (Ne.symm h)]; exact W.at_, W.b0, W.b1, W.c0, W.c1⟩
theorem rep_new {H1 H2 : Hp} {D : Addr} {o o' : HO} {v : V} {d : VT.D} (R : Rep CU (keepH (fun b => H1 b = none) H2) v d) (e : H1 D = some o') : Rep CU (upd H2 D o) v d := R.mono fun a x ea _ => by
  obtain ⟨q, ea'⟩ := keep_some ea
  rw [upd_ne (fun z => by rw [z, e] at q; cases q)]
  exact ea'
theorem rep_map1 {H : Hp} {D : Addr} {k : Str} {v : V} {d : VT.D} (h : H D = some (.dK [(Sum.inr k, v)])) (r : Rep CU H v d) (tx : TxOk k) : Rep CU H (.ref D) (.map [k] [d]) := .map (vs := [v]) h rfl rfl (by show 1 ≤ 60; decide) (by simp) (fun k' hk => by rw [List.mem_singleton.mp hk]; exact tx) (its1 r).2
theorem bd1 {k : Str} {d : D} {T : Nat} (h : BQ T d) : BQ T (.map [k] [d]) := .map (fun x hx => by rw [List.mem_singleton.mp hx]; exact h) (by show 1 ≤ 60; decide) (by simp) rfl
theorem dep1 {k : Str} {d : D} : dep (.map [k] [d]) = dep d + 1 := by
  rw [dep]
  show max (dep d) 0 + 1 = _
  omega
theorem merge1 {k : Str} {v : V} : mergeK [] [((Sum.inr k : L2.Key), v)] = [((Sum.inr k : L2.Key), v)] := merge_nd [k] [v] [] rfl (by simp) (fun _ _ p hp => nomatch hp)
theorem merge2 {v u : V} : mergeK [] [(Sum.inr "x", v), (Sum.inr "id", u)] = [((Sum.inr "x" : L2.Key), v), (Sum.inr "id", u)] := by
  have := merge_nd ["x", "id"] [v, u] [] rfl (by decide +kernel) (fun _ _ p hp => nomatch hp)
  exact this
theorem NSt.lst {H H1 : Hp} {w p D : Addr} {b cb : Int} {n : Nat} {l l' : List V} (h : NSt CU H w p b cb n H1) (fD : H D = none) (e : H1 D = some (.lst l)) (nw : D ≠ w) : NSt CU H w p b cb n (upd H1 D (.lst l')) := by
  obtain ⟨a, c, W, hc⟩ := h.wl
  obtain ⟨kvs, e2, l2, q⟩ := h.nr
  refine ⟨⟨a, c, W.off nw, hc⟩, fun x o hx hne => ?_, ⟨kvs, ?_, l2, fun x hx => (q x hx).mono fun v d r => r.but But.upd e tr_lst⟩, h.fr⟩
  · rw [upd_ne (ne_of_none hx fD)]
    exact h.bu _ _ hx hne
  · rw [upd_ne (ne_of e2 e (fun z => nomatch z))]
    exact e2
def abs : List Str := ["a", "b"]
theorem abs_tx : ∀ k ∈ abs, TxOk k := fun k hk => by
  simp only [abs, List.mem_cons, List.not_mem_nil, or_false] at hk
  rcases hk with rfl | rfl <;> exact ⟨by decide +kernel, by decide +kernel⟩
theorem scLn : FnScope ["_law_well_here", "_law_dim", "_law_found", "_law_name", "_law_some", "_law_k", "_law_one_here"] ["_law_well_here", "_law_dim"] (defScope sLNames) := ⟨rfl, rfl, rfl, by decide +kernel, rfl, by decide +kernel, by decide +kernel⟩
def spNames (CU : Addr) : Sp := fun vs H Q _ => ∃ (w : Addr) (a b c dim : Int), vs = [.ref w, .int dim] ∧ Well H w a b c ∧ c + 1000 < 1000000000000000 ∧ 0 < dim ∧
  ∀ (p : Addr) (nm : Nm) (a' c' : Int) (H' : Hp), c' ≤ c + 1000 → Well H' w a' b c' → But w H H' → NRep CU H' p nm → NH nm → Q (.ref p) H'
theorem ok_names {f fD fO fV : Addr} {fd dD dO dV : FuncData} {kv : Nat} (F : Fun K "_law_names" "_law_names" sLNames f fd) (T : Txt K mg CU) (BU : Bare K mg "Unknown" CU) (mR : mg "range" = none) (mE : mg "enumerate" = none)
    (GD : FnOk P w K mg base CX0 1 fD dD ["_law_well_here", "_law_below"] spDraw) (gD : mg "_law_draw" = some (.ref fD)) (kD : PySem.W.keepIn K (.ref fD) = true) (bD : Binds K dD ["_law_well_here", "_law_below"] [])
    (GO : FnOk P w K mg base CX0 2 fO dO ["_law_well_here", "_law_some"] (spOne K)) (gO : mg "_law_one" = some (.ref fO)) (kO : PySem.W.keepIn K (.ref fO) = true) (bO : Binds K dO ["_law_well_here", "_law_some"] [])
    (GV2 : FnOk P w K mg base CX0 kv fV dV ["_law_well_here", "_law_deep", "_law_dim"] (spV CU 3)) (GV1 : FnOk P w K mg base CX0 kv fV dV ["_law_well_here", "_law_deep", "_law_dim"] (spV CU 2)) (gV : mg "_law_value" = some (.ref fV)) (kV : PySem.W.keepIn K (.ref fV) = true) (bV : Binds K dV ["_law_well_here", "_law_deep", "_law_dim"] []) (hkv : 2 ≤ kv) :
    FnOk P w K mg base CX0 (kv + 1) f fd ["_law_well_here", "_law_dim"] (spNames CU) := by
  refine F.ok scLn (fun vs H Q E h => ?_) (fun cdv A outer s H vs Q E hr h => ?_)
  · obtain ⟨w, a, b, c, dim, rfl, _⟩ := h
    rfl
  obtain ⟨w, a, b, c, dim, rfl, W, hc, hdim, kk⟩ := h
  have hr1 : Room 1 _ := hr.mono (Nat.le_trans (by decide) hkv)
  have hr2 : Room 2 _ := hr.mono hkv
  have hu := hu_of hr
  have huN : _ := Nat.lt_of_succ_lt hu
  refine ⟨_, (pss_cons (ps_via (ps_set (i := 2) scLn.nd rfl (Or.inl rfl) (pe_dispT hu (pe_tup (pa_cons pe_str (pa_cons pe_str pa_nil))) (pe_call GO hr2 rfl gO kO bO .nil pass0 (pa_cons (pv 0) (pa_cons (pe_lst (pa_cons pe_str (pa_cons pe_str pa_nil))) pa_nil))))))
      (pss_cons (ps_for PassesOwn.never rfl (pi_list (pe_lst (pa_cons pe_str (pa_cons pe_str (pa_cons pe_str pa_nil))))) (pg_name (i := 3) scLn.nd rfl (Or.inl rfl))
        (pss_one (ps_dput hu (pv 2) (pe_tup (pa_cons pe_str (pa_cons (pv 3) pa_nil))) (pe_call GV2 hr rfl gV kV bV .nil pass0 (pa_cons (pv 0) (pa_cons pe_int (pa_cons (pv 1) pa_nil)))) rfl)))
      (pss_cons (ps_via (ps_dput hu (pv 2) (pe_tup (pa_cons pe_str (pa_cons pe_str pa_nil))) (pe_ifExp (pt_cmpR op_lt (pe_call GD hr1 rfl gD kD bD .nil pass0 (pa_cons (pv 0) (pa_cons pe_int pa_nil))) (pv 1) (nomark _)) (pe_bare BU rfl) (pe_cmpR op_eq (pe_call GD hr1 rfl gD kD bD .nil pass0 (pa_cons (pv 0) (pa_cons pe_int pa_nil))) pe_int (nomark _))) rfl))
      (pss_cons (ps_via (ps_dput hu (pv 2) (pe_tup (pa_cons pe_str (pa_cons pe_str pa_nil))) (pe_disp (pps_cons pe_str (pe_call GV1 hr rfl gV kV bV .nil pass0 (pa_cons (pv 0) (pa_cons pe_int (pa_cons (pv 1) pa_nil)))) pps_nil) (by rfl) (by rfl) (fun z => by cases z) (by decide)) rfl))
      (pss_cons (ps_via (ps_if (PW.pt (pw_and (pt_cmpR op_gt (pv 1) pe_int (nomark _)) (pw_and1 (pt_cmpR op_eq (pe_call GD hr1 rfl gD kD bD .nil pass0 (pa_cons (pv 0) (pa_cons pe_int pa_nil))) pe_int (nomark _))))) (pss_one (ps_dput hu (pv 2) (pe_tup (pa_cons pe_str (pa_cons pe_str pa_nil))) (pe_bare BU rfl) rfl)) pss_nil))
      (pss_cons (ps_via (ps_dput hu (pv 2) (pe_tup (pa_cons pe_str (pa_cons pe_str (pa_cons pe_str pa_nil)))) (pe_disp (pps_cons pe_str (pe_call GV1 hr rfl gV kV bV .nil pass0 (pa_cons (pv 0) (pa_cons pe_int (pa_cons (pv 1) pa_nil)))) (pps_cons pe_str (pe_tup (pa_cons pe_str (pa_cons pe_str (pa_cons pe_int pa_nil)))) pps_nil)) (by rfl) (by rfl) (fun z => by cases z) (by decide)) rfl))
      (pss_cons (ps_via (ps_setLc (i := 4) (own := [("_law_k", 5)]) (g := gName 5) (tt := tYes) rfl scLn.nd rfl rfl (sw_true rfl rfl rfl (by decide +kernel)) (pi_range1 (by rfl) mR (pa_cons (pe_call GD hr1 rfl gD kD bD .nil pass0 (pa_cons (pv 0) (pa_cons pe_int pa_nil))) pa_nil)) (blkOk_by (own := [("_law_k", 5)]) (N := ["_law_well_here", "_law_dim", "_law_found", "_law_name", "_law_some", "_law_k", "_law_one_here"]) (sc := (defScope sLNames)) (by decide +kernel)) (fun _ _ _ _ _ => pg_name (i := 5) scLn.nd rfl (Or.inl rfl)) (fun _ _ _ _ _ => pts_nil) (fun _ _ _ _ _ => (pe_disp (pps_cons pe_str (pe_call GV1 hr rfl gV kV bV .nil pass0 (pa_cons (pv 0) (pa_cons pe_int (pa_cons (pv 1) pa_nil)))) pps_nil) (by rfl) (by rfl) (fun z => by cases z) (by decide)))))
      (pss_cons (ps_via (ps_if (PW.pt (pw_and (pt_cmpR op_gt (pv 1) pe_int (nomark _)) (pw_and (pt_cmpR (op_neNil huN) (pv 4) (pe_lst pa_nil) (nomark _)) (pw_and1 (pt_cmpR op_eq (pe_call GD hr1 rfl gD kD bD .nil pass0 (pa_cons (pv 0) (pa_cons pe_int pa_nil))) pe_int (nomark _)))))) (pss_one (ps_asg (pe_bare BU rfl) (pg_sub (pv 4) pe_int set_list))) pss_nil))
      (pss_cons (ps_via (ps_dput hu (pv 2) (pe_tup (pa_cons pe_str (pa_cons pe_str (pa_cons pe_str pa_nil)))) (pe_callTy call_tuple_of (by rfl) T.tuple (by decide +kernel) (pa_cons (pv 4) pa_nil)) rfl))
      (pss_cons (ps_via (ps_dput hu (pv 2) (pe_tup (pa_cons pe_str (pa_cons pe_str (pa_cons pe_str pa_nil)))) (pe_callTy (call_dictP rfl) (by rfl) T.dict (by decide +kernel) (pa_cons (pe_lc (own := [("_law_k", 5), ("_law_one_here", 6)]) (g := gTup K 2 (gCons (gName 5) (gCons (gName 6) gNil))) (tt := tYes) (te := tTup (tCons (tOp (rIxL K) (tLst (tCons (tC (.str "a")) (tCons (tC (.str "b")) tNil))) (tVar 5)) (tCons (tVar 6) tNil))) rfl scLn.nd (pi_enum (by rfl) mE (pa_cons (pv 4) pa_nil)) (blkOk_by (own := [("_law_k", 5), ("_law_one_here", 6)]) (N := ["_law_well_here", "_law_dim", "_law_found", "_law_name", "_law_some", "_law_k", "_law_one_here"]) (sc := (defScope sLNames)) (by decide +kernel)) (fun _ _ _ _ _ => (pg_tup rfl (pgs_cons (pg_name (i := 5) scLn.nd rfl (Or.inl rfl)) (pgs_cons (pg_name (i := 6) scLn.nd rfl (Or.inl rfl)) pgs_nil)))) (fun _ _ _ _ _ => pts_nil) (fun _ _ _ _ _ => (pe_tup (pa_cons (pe_ix ix_list (pe_lst (pa_cons pe_str (pa_cons pe_str pa_nil))) (pv 5) (fun _ _ => rfl)) (pa_cons (pv 6) pa_nil))))) pa_nil)) rfl))
      (pss_cons (ps_via (ps_if (PW.pt (pw_and (pt_cmpR op_gt (pv 1) pe_int (nomark _)) (pw_and1 (pt_cmpR op_eq (pe_call GD hr1 rfl gD kD bD .nil pass0 (pa_cons (pv 0) (pa_cons pe_int pa_nil))) pe_int (nomark _))))) (pss_one (ps_dput hu (pv 2) (pe_tup (pa_cons pe_str (pa_cons pe_str (pa_cons (pe_call GO hr2 rfl gO kO bO .nil pass0 (pa_cons (pv 0) (pa_cons (pe_lst (pa_cons pe_str (pa_cons pe_str (pa_cons pe_str pa_nil)))) pa_nil))) pa_nil)))) (pe_bare BU rfl) rfl)) pss_nil))
      (pss_one (ps_ret (pv 2)))))))))))))), ?_⟩
  -- found
  refine ⟨fun σ' H' => ∃ p, σ' = [some (.ref w), some (.int dim), some (.ref p), none, none, none, none] ∧ NSt CU H w p b (c + 1) 1 H', ?_, ?_⟩
  · refine fun p hp => ⟨(by show 2 ≤ sizeLine; decide), fun t ht => ⟨_, rfl, (by show 2 ≤ sizeLine; decide), fun l hl => ?_⟩⟩
    have n1 := same_new (o := .dT []) hp
    have e1 := at_new (o := .dT []) hp
    generalize (upd H p (.dT [])) = H1 at n1 e1 ht hl ⊢
    have n2 := same_new (o := .tup [.str "own", .str "key"]) ht
    have e2 := at_new (o := .tup [.str "own", .str "key"]) ht
    generalize (upd H1 t (.tup [.str "own", .str "key"])) = H2 at n2 e2 hl ⊢
    have n3 := same_new (o := .lst [.str "a", .str "b"]) hl
    have nt := (n1.trans n2).trans n3
    have W3 := W.same nt
    have nl : l ≠ w := fun z => by rw [z, (W.same (n1.trans n2)).at_] at hl; cases hl
    refine ⟨w, l, a, b, c, _, rfl, W3, by omega, upd_same, nl, (by show 0 < 2; decide), (by show 2 < 1000; decide), fun v a4 c4 H4 hv hc4 W4 B4 => ?_⟩
    have ep := (n2.trans n3) _ _ e1
    have np : p ≠ w := ne_of ep W3.at_ (fun z => nomatch z)
    have et := n3 _ _ e2
    have ep4 := B4 _ _ ep np
    have et4 := B4 _ _ et (ne_of et W3.at_ (fun z => nomatch z))
    refine ⟨ep4, (["own", "key"] : List Str).map Sum.inr, t, rfl, et4, p, rfl, ⟨a4, c4, ⟨by rw [upd_ne (Ne.symm np)]; exact W4.at_, W4.b0, W4.b1, W4.c0, W4.c1⟩, by omega⟩, fun x o hx hne => ?_, ⟨_, upd_same, Nat.le_refl _, fun q hq => ?_⟩, hp⟩
    · rw [upd_ne (ne_of_none hx hp)]
      exact B4 _ _ (nt _ _ hx) hne
    · rw [List.mem_singleton.mp hq]
      simp only [List.mem_cons, List.not_mem_nil, or_false] at hv
      rcases hv with rfl | rfl <;> exact ⟨["own", "key"], .str _, rfl, tS (by decide +kernel) (by decide +kernel), .str _ (by decide +kernel) (by decide +kernel), Nat.zero_le _⟩
  rintro σ H0 ⟨p, rfl, S0⟩
  -- params
  refine ⟨(by show 3 ≤ sizeLine; decide), fun q hq => ⟨q, rfl, ⟨_, SqL.of upd_same⟩, for_list (K := K) (a := q) (xs := [.str "p", .str "q", .str "r"])
      (fun i σ H' => i ≤ 3 ∧ H' q = some (.lst [.str "p", .str "q", .str "r"]) ∧ NSt CU H w p b (c + 1 + 64 * (i : Int)) (1 + i) H' ∧ ∃ x3, σ = [some (.ref w), some (.int dim), some (.ref p), x3, none, none, none])
      ⟨by omega, upd_same, (S0.same (same_new hq)).le (by omega) (by omega), none, rfl⟩ (fun i σ H' _ ⟨_, m, _⟩ => SqL.of m) ?_ ?_⟩⟩
  · rintro i y σ H1 hi ⟨i3, fq, S1, x3, rfl⟩
    have hi3 : i < 3 := (List.getElem?_eq_some_iff.mp hi).1
    obtain ⟨a1, c1, W1, hc1⟩ := S1.wl
    obtain ⟨nm, rfl⟩ : ∃ nm : Str, y = .str nm := by
      have := List.mem_of_getElem? hi
      simp only [List.mem_cons, List.not_mem_nil, or_false] at this
      rcases this with rfl | rfl | rfl <;> exact ⟨_, rfl⟩
    refine ⟨_, rfl, _, rfl, w, a1, b, c1, dim, rfl, W1, (by show c1 + 64 < _; omega), fun r d a2 c2 H2 hc2 W2 B2 R2 G2 => ⟨_, rfl, _, rfl, (by show 2 ≤ sizeLine; decide), fun t ht => ?_⟩⟩
    have hc2' : c2 ≤ c1 + 64 := hc2
    have S2 := (S1.step (cb' := c + 1 + 64 * ((i + 1 : Nat) : Int)) B2 W2 (by omega)).same (same_new (o := .tup [.str "param", .str nm]) ht)
    obtain ⟨H3, g1, g2, S3⟩ := S2.put (k := ["param", nm]) upd_same (R2.ofKeep.same (same_new ht)) G2.bq (Nat.le_trans G2.dp (by decide)) (by omega)
    obtain ⟨kvs, e2, _⟩ := S2.pw
    have nqw : q ≠ w := fun z => by
      rw [z, W1.at_] at fq
      cases fq
    have fq2 := same_new (o := .tup [.str "param", .str nm]) ht _ _ (B2 _ _ fq nqw)
    exact ⟨p, H3, rfl, g1, by omega, g2 _ _ fq2 (ne_of fq2 e2 (fun z => nomatch z)), by rw [show 1 + (i + 1) = 1 + i + 1 from by omega]; exact S3, _, rfl⟩
  rintro σ H1 ⟨_, _, S1, x3, rfl⟩
  have S1 : NSt CU H w p b (c + 193) 4 H1 := S1.le (by show c + 1 + 64 * ((3 : Nat) : Int) ≤ c + 193; omega) (by show 1 + 3 ≤ 4; decide)
  -- param c
  refine ⟨fun σ' H' => σ' = [some (.ref w), some (.int dim), some (.ref p), x3, none, none, none] ∧ NSt CU H w p b (c + 195) 5 H', ?_, ?_⟩
  · obtain ⟨a1, c1, W1, hc1⟩ := S1.wl
    refine ⟨_, rfl, w, a1, b, c1, 10, rfl, W1, by omega, by decide, by decide, fun x2 a2 c2 H2 _ _ hc2 W2 B2 => ⟨_, rfl, _, _, rfl, rfl, _, rfl, ite2 (fun _ => ?_) (fun _ => ?_)⟩⟩
    · intro u dx h1 h2 h3
      have m := new_ins (CU := CU) h1 h2 h3
      refine ⟨_, rfl, (by show 2 ≤ sizeLine; decide), fun t ht => ?_⟩
      have S2 := ((S1.step (cb' := c + 195) B2 W2 (by omega)).same m).same (same_new (o := .tup [.str "param", .str "c"]) ht)
      obtain ⟨H3, g1, g2, S3⟩ := S2.put (k := ["param", "c"]) upd_same ((Rep.unk upd_same).same (same_new ht)) .unk (Nat.zero_le _) (by decide)
      exact ⟨p, H3, rfl, g1, rfl, S3⟩
    · refine ⟨_, rfl, w, a2, b, c2, 2, rfl, W2, by omega, by decide, by decide, fun x4 a4 c4 H4 _ _ hc4 W4 B4 => ⟨rfl, _, rfl, (by show 2 ≤ sizeLine; decide), fun t ht => ?_⟩⟩
      have S2 := (S1.step (cb' := c + 195) (B2.trans B4) W4 (by omega)).same (same_new (o := .tup [.str "param", .str "c"]) ht)
      obtain ⟨H3, g1, g2, S3⟩ := S2.put (k := ["param", "c"]) upd_same (.bl _) (.bl _) (Nat.zero_le _) (by decide)
      exact ⟨p, H3, rfl, g1, rfl, S3⟩
  rintro σ H1 ⟨rfl, S1⟩
  -- call inner
  refine ⟨fun σ' H' => σ' = [some (.ref w), some (.int dim), some (.ref p), x3, none, none, none] ∧ NSt CU H w p b (c + 211) 6 H', ?_, ?_⟩
  · obtain ⟨a1, c1, W1, hc1⟩ := S1.wl
    refine fun D hD => ⟨_, rfl, _, rfl, w, a1, b, c1, dim, rfl, W1.same (same_new hD), (by show c1 + 16 < _; omega), fun r d a2 c2 H2 hc2 W2 B2 R2 G2 => ?_⟩
    have hc2' : c2 ≤ c1 + 16 := hc2
    have nDw : D ≠ w := Ne.symm (ne_of_none W1.at_ hD)
    have eD2 := B2 _ _ upd_same nDw
    refine ⟨eD2, [(Sum.inr "o", r)], rfl, (by show 1 ≤ 15; decide), _, rfl, (by show 2 ≤ sizeLine; decide), fun t ht => ?_⟩
    have S2 := (S1.step (cb' := c + 211) (disp_but hD B2) (W2.off nDw) (by omega)).same (same_new (o := .tup [.str "call", .str "inner"]) ht)
    have rm : Rep CU (upd H2 D (.dK [(Sum.inr "o", r)])) (.ref D) (.map ["o"] [d]) := rep_map1 upd_same (rep_new R2 upd_same) ⟨by decide +kernel, by decide +kernel⟩
    obtain ⟨H3, g1, g2, S3⟩ := S2.put (k := ["call", "inner"]) upd_same (rm.same (same_new ht)) (bd1 G2.bq) (by rw [dep1]; have := Nat.le_trans G2.dp (by decide : _ ≤ 2); omega) (by decide)
    exact ⟨p, H3, rfl, g1, rfl, S3⟩
  rintro σ H1 ⟨rfl, S1⟩
  refine ⟨fun σ' H' => σ' = [some (.ref w), some (.int dim), some (.ref p), x3, none, none, none] ∧ NSt CU H w p b (c + 212) 7 H', ?_, ?_⟩
  · obtain ⟨a1, c1, W1, hc1⟩ := S1.wl
    refine ⟨_, rfl, _, _, rfl, rfl, _, rfl, ?_⟩
    rw [decide_eq_true hdim]
    refine iteT ⟨_, rfl, w, a1, b, c1, 6, rfl, W1, by omega, by decide, by decide, fun x2 a2 c2 H2 _ _ hc2 W2 B2 => ⟨rfl, _, rfl, ite2 (fun _ => ?_) (fun _ => ?_)⟩⟩
    · intro u dx h1 h2 h3
      have m := new_ins (CU := CU) h1 h2 h3
      refine ⟨_, rfl, (by show 2 ≤ sizeLine; decide), fun t ht => ?_⟩
      have S2 := ((S1.step (cb' := c + 212) B2 W2 (by omega)).same m).same (same_new (o := .tup [.str "call", .str "inner"]) ht)
      obtain ⟨H3, g1, g2, S3⟩ := S2.put (k := ["call", "inner"]) upd_same ((Rep.unk upd_same).same (same_new ht)) .unk (Nat.zero_le _) (by decide)
      exact ⟨p, H3, rfl, g1, rfl, S3⟩
    · exact ⟨rfl, (S1.step (cb' := c + 212) B2 W2 (by omega)).le (by omega) (by omega)⟩
  rintro σ H1 ⟨rfl, S1⟩
  -- block one
  refine ⟨fun σ' H' => σ' = [some (.ref w), some (.int dim), some (.ref p), x3, none, none, none] ∧ NSt CU H w p b (c + 228) 8 H', ?_, ?_⟩
  · obtain ⟨a1, c1, W1, hc1⟩ := S1.wl
    refine fun D hD => ⟨_, rfl, _, rfl, w, a1, b, c1, dim, rfl, W1.same (same_new hD), (by show c1 + 16 < _; omega), fun r d a2 c2 H2 hc2 W2 B2 R2 G2 => ⟨(by show 3 ≤ sizeLine; decide), fun t0 ht0 => ?_⟩⟩
    have hc2' : c2 ≤ c1 + 16 := hc2
    have nDw : D ≠ w := Ne.symm (ne_of_none W1.at_ hD)
    have eD2 := B2 _ _ upd_same nDw
    have n0 := same_new (o := .tup [.str "#", .str "net", .int 4]) ht0
    have e0 := at_new (o := .tup [.str "#", .str "net", .int 4]) ht0
    generalize (upd H2 t0 (.tup [.str "#", .str "net", .int 4])) = G0 at n0 e0 ⊢
    have eD3 := n0 _ _ eD2
    refine ⟨eD3, [(Sum.inr "x", r), (Sum.inr "id", .ref t0)], rfl, (by show 2 ≤ 15; decide), _, rfl, (by show 3 ≤ sizeLine; decide), fun t ht => ?_⟩
    rw [merge2] at ht ⊢
    have S2 := (S1.step (cb' := c + 228) (disp_but hD (B2.trans (But.of n0))) ((W2.same n0).off nDw) (by omega)).same (same_new (o := .tup [.str "block", .str "net", .str "one"]) ht)
    have rt : Rep CU (upd G0 D (.dK [(Sum.inr "x", r), (Sum.inr "id", .ref t0)])) (.ref t0) (.tup [.str "#", .str "net", .int 4]) := rep_tag (by rw [upd_ne (ne_of e0 eD3 (fun z => nomatch z))]; exact e0) ⟨by decide +kernel, by decide +kernel⟩ ⟨by decide +kernel, by decide +kernel⟩
    have rm : Rep CU (upd G0 D (.dK [(Sum.inr "x", r), (Sum.inr "id", .ref t0)])) (.ref D) (.map ["x", "id"] [d, .tup [.str "#", .str "net", .int 4]]) := .map upd_same rfl rfl (by show 2 ≤ 60; decide) (by decide +kernel) (fun k hk => by
        simp only [List.mem_cons, List.not_mem_nil, or_false] at hk
        rcases hk with rfl | rfl <;> exact ⟨by decide +kernel, by decide +kernel⟩) (its2 (rep_new (R2.keepS n0) upd_same) rt).2
    have vt : VL (.tup [.str "#", .str "net", .int 4]) := vl_tag (by decide) (by decide +kernel) (by decide +kernel) (by decide +kernel) (by decide +kernel)
    obtain ⟨H3, g1, g2, S3⟩ := S2.put (k := ["block", "net", "one"]) upd_same (rm.same (same_new ht)) (.map (fun x hx => by
        simp only [List.mem_cons, List.not_mem_nil, or_false] at hx
        rcases hx with rfl | rfl
        · exact G2.bq
        · exact ⟨vt.1, vt.2.2.2.2.1⟩) (by show 2 ≤ 60; decide) (by decide +kernel) rfl) (by
        rw [dep]
        have h1 := Nat.le_trans G2.dp (by decide : _ ≤ 2)
        have h2 := vt.2.1
        have : depL [d, .tup [.str "#", .str "net", .int 4]] ≤ 2 := depL_le fun x hx => by
          simp only [List.mem_cons, List.not_mem_nil, or_false] at hx
          rcases hx with rfl | rfl
          · exact h1
          · exact Nat.le_trans h2 (by decide)
        omega) (by decide)
    exact ⟨p, H3, rfl, g1, rfl, S3⟩
  rintro σ H1 ⟨rfl, S1⟩
  -- some
  refine ⟨fun σ' H' => ∃ l ys ds, σ' = [some (.ref w), some (.int dim), some (.ref p), x3, some (.ref l), none, none] ∧ NSt CU H w p b (c + 261) 8 H' ∧ H' l = some (.lst ys) ∧ H l = none ∧ Its CU H' ys ds ∧ ds.length ≤ 2 ∧ ∀ d ∈ ds, BQ 20 d ∧ dep d ≤ 3, ?_, ?_⟩
  · obtain ⟨a1, c1, W1, hc1⟩ := S1.wl
    refine ⟨_, rfl, w, a1, b, c1, 3, rfl, W1, by omega, by decide, by decide, fun x2 a2 c2 H2 x20 x21 hc2 W2 B2 => ⟨x2, rfl, by omega, by omega, fun L hL => ?_⟩⟩
    obtain ⟨n, rfl⟩ : ∃ n : Nat, x2 = n := ⟨x2.toNat, by omega⟩
    have S2 := S1.step (cb' := c + 229) B2 W2 (by omega)
    have fL : H L = none := but_none S2.bu W2.at_ hL
    have nLw : L ≠ w := Ne.symm (ne_of_none W2.at_ hL)
    refine lc_it walk_range (fun i H' => i ≤ 2 ∧ NSt CU H w p b (c + 229 + 16 * (i : Int)) 8 H' ∧ ∃ acc ds, H' L = some (.lst acc) ∧ acc.length = i ∧ Its CU H' acc ds ∧ ∀ d ∈ ds, BQ 20 d ∧ dep d ≤ 3) ?_ (fun _ _ _ _ => trivial) ?_ ?_
    · exact ⟨by omega, (S2.same (same_new hL)).le (by omega) (by omega), [], [], upd_same, rfl, ⟨rfl, fun i v d h _ => nomatch h⟩, fun d h => nomatch h⟩
    · rintro i x Ha Hb hi ⟨i2, Sa, acc, ds, eL, la, hI, hds⟩ ⟨rfl, rfl⟩
      have hi2 : i < 2 := by
        have : i < ((n : Int)).toNat := hi
        omega
      obtain ⟨a3, c3, W3, hc3⟩ := Sa.wl
      refine ⟨rfl, yes_i fun D hD => ⟨_, rfl, _, rfl, w, a3, b, c3, dim, rfl, W3.same (same_new hD), (by show c3 + 16 < _; omega), fun r d a4 c4 H4 hc4 W4 B4 R4 G4 => ?_⟩⟩
      have hc4' : c4 ≤ c3 + 16 := hc4
      have nDw : D ≠ w := Ne.symm (ne_of_none W3.at_ hD)
      have eD2 := B4 _ _ upd_same nDw
      refine ⟨eD2, [(Sum.inr "x", r)], rfl, (by show 1 ≤ 15; decide), ?_⟩
      rw [merge1]
      have Bd : But w Hb (upd H4 D (.dK [(Sum.inr "x", r)])) := disp_but hD B4
      have Sb := Sa.step (cb' := c + 229 + 16 * ((i + 1 : Nat) : Int)) Bd (W4.off nDw) (by omega)
      have rm : Rep CU (upd H4 D (.dK [(Sum.inr "x", r)])) (.ref D) (.map ["x"] [d]) := rep_map1 upd_same (rep_new R4 upd_same) ⟨by decide +kernel, by decide +kernel⟩
      have eL2 := Bd _ _ eL nLw
      generalize (upd H4 D (.dK [(Sum.inr "x", r)])) = Hc at Bd Sb rm eL2 ⊢
      refine ⟨acc, eL2, small1000 (by omega), by omega, Sb.lst fL eL2 nLw, acc ++ [.ref D], ds ++ [.map ["x"] [d]], upd_same, by rw [List.length_append, la]; rfl, ?_, fun d' hd' => ?_⟩
      · exact ((hI.mono fun v d h => W3.rep Bd h).snoc rm).mono fun v d h => h.but But.upd eL2 tr_lst
      · rcases List.mem_append.mp hd' with h | h
        · exact hds d' h
        · rw [List.mem_singleton.mp h]
          exact ⟨bd1 G4.bq, by rw [dep1]; have := Nat.le_trans G4.dp (by decide : _ ≤ 2); omega⟩
    · rintro H3 ⟨n2, S3, acc, ds, eL, la, hI, hds⟩
      exact ⟨L, acc, ds, rfl, S3.le (by omega) (by omega), eL, fL, hI, by rw [← hI.1, la]; exact n2, hds⟩
  rintro σ H1 ⟨l, ys, ds, rfl, S1, el, fl, hI, l2, hds⟩
  -- some[0]
  refine ⟨fun σ' H' => ∃ ys ds, σ' = [some (.ref w), some (.int dim), some (.ref p), x3, some (.ref l), none, none] ∧ NSt CU H w p b (c + 262) 8 H' ∧ H' l = some (.lst ys) ∧ Its CU H' ys ds ∧ ds.length ≤ 2 ∧ ∀ d ∈ ds, BQ 20 d ∧ dep d ≤ 3, ?_, ?_⟩
  · obtain ⟨a1, c1, W1, hc1⟩ := S1.wl
    refine ⟨_, rfl, _, _, rfl, rfl, _, rfl, ?_⟩
    rw [decide_eq_true hdim]
    refine iteT ⟨_, rfl, (by show 0 ≤ sizeLine; decide), fun q hq => ⟨l, q, ys, rfl, rfl, SqL.of (same_new hq _ _ el), SqL.of upd_same, _, rfl, ?_⟩⟩
    have Sq := S1.same (same_new (o := .lst []) hq)
    have elq := same_new (o := .lst []) hq _ _ el
    have hIq := hI.mono fun v d h => h.same (same_new (o := .lst []) hq)
    generalize (upd H1 q (.lst [])) = Hq at Sq elq hIq ⊢
    obtain ⟨a3, c3, W3, hc3⟩ := Sq.wl
    have nlw : l ≠ w := Ne.symm (ne_of_none W.at_ fl)
    refine ite2 (fun hne => ?_) (fun hne => ?_)
    · refine ⟨_, rfl, w, a3, b, c3, 3, rfl, W3, by omega, by decide, by decide, fun x2 a2 c2 H2 _ _ hc2 W2 B2 => ⟨rfl, _, rfl, ite2 (fun _ => ?_) (fun _ => ?_)⟩⟩
      · intro u dx h1 h2 h3
        have m := new_ins (CU := CU) h1 h2 h3
        have S2 := (Sq.step (cb' := c + 262) B2 W2 (by omega)).same m
        have e2 := m _ _ (B2 _ _ elq nlw)
        have hI2 := hIq.mono fun v d h => (W3.rep B2 h).same m
        have ru : Rep CU (upd (upd H2 dx (.own u)) u (.ins CU dx [])) (.ref u) .unk := .unk upd_same
        generalize (upd (upd H2 dx (.own u)) u (.ins CU dx [])) = H4 at S2 e2 hI2 ru ⊢
        cases ys with
        | nil => cases hne
        | cons y0 ys =>
        cases ds with
        | nil => cases hI.1
        | cons d0 ds =>
        refine ⟨_, rfl, l, _, 0, 0, rfl, rfl, e2, (by unfold ixN; rw [if_pos (by decide), if_pos (by rw [List.length_cons]; omega)]; rfl), V.ref u :: ys, .unk :: ds, rfl, S2.lst fl e2 nlw, upd_same, ?_, l2, fun d hd => ?_⟩
        · refine ⟨hI2.1, fun i v d hv hd => ?_⟩
          cases i with
          | zero => cases hv; cases hd; exact ru.but But.upd e2 tr_lst
          | succ i => exact (hI2.2 (i + 1) v d hv hd).but But.upd e2 tr_lst
        · rcases List.mem_cons.mp hd with rfl | hd
          · exact ⟨.unk, Nat.zero_le _⟩
          · exact hds d (List.mem_cons_of_mem _ hd)
      · exact ⟨ys, ds, rfl, Sq.step (cb' := c + 262) B2 W2 (by omega), B2 _ _ elq nlw, hIq.mono fun v d h => W3.rep B2 h, l2, hds⟩
    · exact ⟨ys, ds, rfl, Sq.le (by omega) (by omega), elq, hIq, l2, hds⟩
  clear hI l2 hds el S1
  rintro σ H1 ⟨ys, ds, rfl, S1, el, hI, l2, hds⟩
  -- block list
  have nlw : l ≠ w := Ne.symm (ne_of_none W.at_ fl)
  refine ⟨fun σ' H' => σ' = [some (.ref w), some (.int dim), some (.ref p), x3, some (.ref l), none, none] ∧ NSt CU H w p b (c + 262) 9 H' ∧ H' l = some (.lst ys) ∧ Its CU H' ys ds, ?_, ?_⟩
  · refine ⟨_, rfl, l, ys, rfl, .inl ⟨SqL.of el, fun t0 ht0 => ⟨_, rfl, (by show 3 ≤ sizeLine; decide), fun t ht => ?_⟩⟩⟩
    have m := (same_new (o := .tup ys) ht0).trans (same_new (o := .tup [.str "block", .str "net", .str "list"]) ht)
    have S2 := S1.same m
    have rt : Rep CU (upd (upd H1 t0 (.tup ys)) t (.tup [.str "block", .str "net", .str "list"])) (.ref t0) (.tup ds) := rep_its (same_new ht _ _ upd_same) (hI.mono fun v d h => h.same m) (by omega)
    have el2 := m _ _ el
    have hI2 := hI.mono fun v d h => h.same m
    obtain ⟨H3, g1, g2, S3⟩ := S2.put (k := ["block", "net", "list"]) upd_same rt (.tup (fun d hd => (hds d hd).1) (by omega)) (by
      rw [dep]
      have := depL_le fun d hd => (hds d hd).2
      omega) (by decide)
    obtain ⟨kvs, ep, _⟩ := S2.pw
    exact ⟨p, H3, rfl, g1, rfl, S3, g2 _ _ el2 (ne_of el2 ep (fun z => nomatch z)), hI2.mono fun v d h => h.but g2 ep tr_dT⟩
  rintro σ H1 ⟨rfl, S1, el, hI⟩
  -- block keyed
  refine ⟨fun σ' H' => σ' = [some (.ref w), some (.int dim), some (.ref p), x3, some (.ref l), none, none] ∧ NSt CU H w p b (c + 262) 10 H', ?_, ?_⟩
  · have lys : ys.length ≤ 2 := by rw [hI.1]; exact l2
    refine ⟨_, rfl, l, ys, rfl, SqL.of el, fun D2 hD2 => ?_⟩
    refine lc_rel walk_enum hD2 (small1000 (by omega)) (fun i H' v => ∃ t k x, v = .ref t ∧ abs[i]? = some k ∧ ys[i]? = some x ∧ H' t = some (.tup [.str k, x]))
      (fun i H H' v m ⟨t, k, x, e, h1, h2, h3⟩ => ⟨t, k, x, e, h1, h2, m _ _ h3⟩)
      (fun i H H' v l bu hl ⟨t, k, x, e, h1, h2, h3⟩ => ⟨t, k, x, e, h1, h2, bu _ _ h3 (ne_of h3 hl (fun z => nomatch z))⟩)
      (fun H' m => SqL.of (m _ _ el)) (fun i' x H6 H7 hi m hy N hN => ?_) mono_pair (fun H5 zs m f hlz hR => ?_)
    · obtain ⟨t, x1, y1, rfl, ht, rfl, ex, ey⟩ := hy
      cases ex
      have hi' : i' < abs.length := by show i' < 2; omega
      have ek : abs[i']? = some abs[i'] := List.getElem?_eq_getElem hi'
      have ak : atI [V.str "a", .str "b"] (i' : Int) = some (.str abs[i']) := by
        refine atI_nat ?_
        show (abs.map V.str)[i']? = _
        rw [List.getElem?_map, ek]
        rfl
      refine ⟨t, _, rfl, SqT.of upd_same, rfl, _, _, rfl, _, _, rfl, rfl, rfl, (by show 2 ≤ sizeLine; decide), fun l hl => ⟨_, rfl, l, _, _, _, rfl, rfl, SqL.of upd_same, ak, _, rfl, (by show 2 ≤ sizeLine; decide), fun t2 ht2 => ?_⟩⟩
      exact hN _ _ (((same_new ht).trans (same_new hl)).trans (same_new ht2)) ⟨t2, _, _, rfl, ek, ey, upd_same⟩
    · obtain ⟨ts, rfl⟩ := refs_of fun i v e => let ⟨t, _, _, h, _⟩ := hR i v e; ⟨t, h⟩
      rw [List.length_map] at hlz
      have lk : (abs.take ys.length).length = ys.length := by
        rw [List.length_take]
        exact Nat.min_eq_left lys
      have ndk : (abs.take ys.length).Nodup := List.Nodup.sublist (List.take_sublist _ _) (by decide +kernel)
      refine ⟨D2, ts, mkv (abs.take ys.length) ys, rfl, SqL.of f, paired_of (by rw [mkv_length lk, lk]; exact hlz) (fun q t kv ht hkv => ?_), fun D3 hD3 => ?_⟩
      · obtain ⟨t', k, x, et, ek, ex, eo⟩ := hR q (.ref t) (by rw [List.getElem?_map, ht]; rfl)
        cases et
        obtain ⟨k0, v0⟩ := kv
        obtain ⟨k', ek', rfl, ev'⟩ := mkv_get hkv
        rw [ex] at ev'
        cases ev'
        have hq : q < ys.length := (List.getElem?_eq_some_iff.mp ex).1
        rw [List.getElem?_take_of_lt hq, ek] at ek'
        cases ek'
        exact SqT.of eo
      · have em := merge_nd (abs.take ys.length) ys [] lk ndk (fun _ _ p hp => nomatch hp)
        rw [List.nil_append] at em
        rw [em]
        refine ⟨_, rfl, (by show 3 ≤ sizeLine; decide), fun t ht => ?_⟩
        have n5 := (m.trans (same_new (o := .dK (mkv (abs.take ys.length) ys)) hD3)).trans (same_new (o := .tup [.str "block", .str "net", .str "keyed"]) ht)
        have S2 := S1.same n5
        have rm : Rep CU (upd (upd H5 D3 (.dK (mkv (abs.take ys.length) ys))) t (.tup [.str "block", .str "net", .str "keyed"])) (.ref D3) (.map (abs.take ys.length) ds) := .map (same_new ht _ _ upd_same) hI.1 (lk.trans hI.1) (by omega) ndk (fun k hk => abs_tx k (List.mem_of_mem_take hk)) (fun i v d h1 h2 => (hI.2 i v d h1 h2).same n5)
        obtain ⟨H3, g1, g2, S3⟩ := S2.put (k := ["block", "net", "keyed"]) upd_same rm (.map (fun d hd => (hds d hd).1) (by omega) ndk (lk.trans hI.1)) (by
          rw [dep]
          have := depL_le fun d hd => (hds d hd).2
          omega) (by decide)
        exact ⟨p, H3, rfl, g1, rfl, S3⟩
  rintro σ H1 ⟨rfl, S1⟩
  refine ⟨fun σ' H' => σ' = [some (.ref w), some (.int dim), some (.ref p), x3, some (.ref l), none, none] ∧ NSt CU H w p b (c + 264) 11 H', ?_, ?_⟩
  · obtain ⟨a1, c1, W1, hc1⟩ := S1.wl
    refine ⟨_, rfl, _, _, rfl, rfl, _, rfl, ?_⟩
    rw [decide_eq_true hdim]
    refine iteT ⟨_, rfl, w, a1, b, c1, 4, rfl, W1, by omega, by decide, by decide, fun x2 a2 c2 H2 _ _ hc2 W2 B2 => ⟨rfl, _, rfl, ite2 (fun _ => ?_) (fun _ => ?_)⟩⟩
    · intro u dx h1 h2 h3
      have m := new_ins (CU := CU) h1 h2 h3
      have S2 := (S1.step (cb' := c + 263) B2 W2 (by omega)).same m
      have ru : Rep CU (upd (upd H2 dx (.own u)) u (.ins CU dx [])) (.ref u) .unk := .unk upd_same
      generalize (upd (upd H2 dx (.own u)) u (.ins CU dx [])) = H4 at S2 ru ⊢
      obtain ⟨a4, c4, W4, hc4⟩ := S2.wl
      refine ⟨_, rfl, _, rfl, (by show 3 ≤ sizeLine; decide), fun l3 hl3 => ?_⟩
      have nl3 : l3 ≠ w := fun z => by rw [z, W4.at_] at hl3; cases hl3
      refine ⟨w, l3, a4, b, c4, _, rfl, W4.same (same_new hl3), by omega, upd_same, nl3, (by show 0 < 3; decide), (by show 3 < 1000; decide), fun v a5 c5 H5 hv hc5 W5 B5 => ⟨(by show 3 ≤ sizeLine; decide), fun t ht => ?_⟩⟩
      obtain ⟨kx, rfl⟩ : ∃ kx : Str, v = .str kx := by
        simp only [List.mem_cons, List.not_mem_nil, or_false] at hv
        rcases hv with rfl | rfl | rfl <;> exact ⟨_, rfl⟩
      have S5 := ((S2.same (same_new hl3)).step (cb' := c + 264) B5 W5 (by omega)).same (same_new (o := .tup [.str "block", .str "net", .str kx]) ht)
      have ru5 := ((W4.same (same_new hl3)).rep B5 (ru.same (same_new hl3))).same (same_new (o := .tup [.str "block", .str "net", .str kx]) ht)
      obtain ⟨H3, g1, g2, S3⟩ := S5.put (k := ["block", "net", kx]) upd_same ru5 .unk (Nat.zero_le _) (by decide)
      exact ⟨p, H3, rfl, g1, rfl, S3⟩
    · exact ⟨rfl, (S1.step (cb' := c + 264) B2 W2 (by omega)).le (by omega) (by omega)⟩
  rintro σ H1 ⟨rfl, S1⟩
  obtain ⟨a1, c1, W1, hc1⟩ := S1.wl
  obtain ⟨nm, h1, h2⟩ := S1.nr.names (by decide)
  exact ⟨_, rfl, kk p nm a1 c1 H1 (by omega) W1 S1.bu h1 h2⟩
end
end K04

namespace K04
open PySem L2 XR VT
abbrev sLFill : Stmt := top 47
def FC : Nat → Int
  | 0 => 20
  | n + 1 => 61 * FC n
theorem FC_pos : ∀ n, 20 ≤ FC n
  | 0 => Int.le_refl _
  | n + 1 => by
    have := FC_pos n
    show 20 ≤ 61 * FC n
    omega
/-- d' is a filling of d -/
structure Fl (n : Nat) (d d' : D) : Prop where
  rf : Rf d d'
  bq : BQ 20 d'
  dp : dep d' ≤ n + 2
def spFill (CU : Addr) : Nat → Sp
  | 0 => fun vs _ _ _ => vs.length = 2 ∧ False
  | n + 1 => fun vs H Q _ => ∃ (w : Addr) (v : V) (d : D) (a b c : Int), vs = [.ref w, v] ∧ Well H w a b c ∧ Rep CU H v d ∧ dep d ≤ n ∧ BQ 20 d ∧ c + FC n < 1000000000000000 ∧
      ∀ (r : V) (d' : D) (a' c' : Int) (H' : Hp), c' ≤ c + FC n → Well H' w a' b c' → But w H H' → Rep CU H' r d' → Fl n d d' → Q r H'
section
variable {P : Program} {w : World} {K : PySem.W.Frag} {mg : Str → Option Value} {base : Heap} {CU : Addr}
theorem spFill_len {n : Nat} {vs : List V} {H : Hp} {Q : VK} {E : XK} (h : spFill CU n vs H Q E) : vs.length = 2 := by
  cases n with
  | zero => exact h.1
  | succ n =>
    obtain ⟨_, _, _, _, _, _, rfl, _⟩ := h
    rfl
theorem fill0 {k : Nat} {f : Addr} {fd : FuncData} : FnOk P w K mg base CX0 k f fd ["_law_well_here", "_law_value_here"] (spFill CU 0) := ⟨fun _ _ _ _ h => h.1, fun _ _ _ _ _ _ _ _ _ _ _ _ _ h => h.2.elim⟩
theorem but_lock {H H' : Hp} {w a : Addr} {od : Obj} {u : HO} (h : H a = some u) (m : But w (upd H a (.frz od u)) H') : But w H (upd H' a u) := fun b o e n => by
  by_cases hb : b = a
  · subst hb
    rw [upd_same, ← h, e]
  · rw [upd_ne hb]
    exact m b o (by rw [upd_ne hb]; exact e) n
theorem rep_unlock {H : Hp} {a : Addr} {od : Obj} {u w : HO} {v : V} {d : D} (e : H a = some (.frz od w)) (h : Rep CU H v d) : Rep CU (upd H a u) v d := h.mono fun b o e2 t => by
  have nb : b ≠ a := fun z => by
    rw [z, e] at e2
    cases e2
    rcases t with ⟨_, q⟩ | ⟨_, q⟩ | ⟨_, q⟩ <;> cases q
  rw [upd_ne nb]
  exact e2
/-- the filled items so far -/
structure FIt (CU : Addr) (n : Nat) (ds : List D) (H : Hp) (rs : List V) (ds' : List D) : Prop where
  its : Its CU H rs ds'
  fl : ∀ (i : Nat) (d d' : D), ds[i]? = some d → ds'[i]? = some d' → Fl n d d'
theorem FIt.mono {n : Nat} {ds : List D} {H H' : Hp} {rs : List V} {ds' : List D} (h : FIt CU n ds H rs ds') (m : ∀ v d, Rep CU H v d → Rep CU H' v d) : FIt CU n ds H' rs ds' := ⟨h.its.mono m, h.fl⟩
theorem FIt.snoc {n : Nat} {ds : List D} {H : Hp} {rs : List V} {ds' : List D} {v : V} {d d' : D} (h : FIt CU n ds H rs ds') (e : ds[rs.length]? = some d) (r : Rep CU H v d') (f : Fl n d d') : FIt CU n ds H (rs ++ [v]) (ds' ++ [d']) := by
  refine ⟨h.its.snoc r, fun i x y hx hy => ?_⟩
  by_cases hi : i < ds'.length
  · rw [List.getElem?_append_left hi] at hy
    exact h.fl i x y hx hy
  · have hlt := (List.getElem?_eq_some_iff.mp hy).1
    rw [List.length_append] at hlt
    have hlt2 : i < ds'.length + 1 := hlt
    have : i = ds'.length := by omega
    subst this
    rw [List.getElem?_append_right (Nat.le_refl _), Nat.sub_self] at hy
    cases hy
    rw [← h.its.1, e] at hx
    cases hx
    exact f
theorem FIt.kids {n : Nat} {ds : List D} {H : Hp} {rs : List V} {ds' : List D} (h : FIt CU n ds H rs ds') (hl : ds.length = ds'.length) : ∀ d' ∈ ds', ∃ d ∈ ds, Fl n d d' := fun d' hd => by
  obtain ⟨i, hi, rfl⟩ := List.mem_iff_getElem.mp hd
  have e : ds[i]? = some ds[i] := List.getElem?_eq_getElem (by omega)
  exact ⟨_, List.mem_of_getElem? e, h.fl i _ _ e (List.getElem?_eq_getElem hi)⟩
theorem fl_tup {n : Nat} {ds ds' : List D} (ht : isTag ds = false) (hl : ds.length = ds'.length) (hz : ds.length ≤ 60) (h : ∀ (i : Nat) (d d' : D), ds[i]? = some d → ds'[i]? = some d' → Fl n d d') (g : BQ 20 (.tup ds)) : Fl (n + 1) (.tup ds) (.tup ds') := by
  have k : ∀ d' ∈ ds', ∃ d, Fl n d d' := fun d' hd => by
    obtain ⟨i, hi, rfl⟩ := List.mem_iff_getElem.mp hd
    have e : ds[i]? = some ds[i] := List.getElem?_eq_getElem (by omega)
    exact ⟨_, h i _ _ e (List.getElem?_eq_getElem hi)⟩
  have gl : ∀ x ∈ ds, Gd x := by
    cases g.gd with
    | tag z => rw [ht] at z; cases z
    | tup g => exact g
  have gl' : ∀ x ∈ ds', Gd x := fun x hx => let ⟨_, f⟩ := k x hx; f.bq.gd
  refine ⟨Gd.rf_tup gl gl' hl fun i a b ha hb => (h i a b ha hb).rf, .tup (fun x hx => let ⟨_, f⟩ := k x hx; f.bq) (by omega), ?_⟩
  rw [dep]
  have := depL_le (n := n + 2) fun x hx => let ⟨_, f⟩ := k x hx; f.dp
  omega
theorem fl_map {n : Nat} {ks : List Str} {ds ds' : List D} (nd : ks.Nodup) (hk : ks.length = ds.length) (hl : ds.length = ds'.length) (hz : ds.length ≤ 60) (h : ∀ (i : Nat) (d d' : D), ds[i]? = some d → ds'[i]? = some d' → Fl n d d') : Fl (n + 1) (.map ks ds) (.map ks ds') := by
  have k : ∀ d' ∈ ds', ∃ d, Fl n d d' := fun d' hd => by
    obtain ⟨i, hi, rfl⟩ := List.mem_iff_getElem.mp hd
    have e : ds[i]? = some ds[i] := List.getElem?_eq_getElem (by omega)
    exact ⟨_, h i _ _ e (List.getElem?_eq_getElem hi)⟩
  refine ⟨.map (.refl _) nd hk (hk.trans hl) fun x hx => ?_, .map (fun x hx => let ⟨_, f⟩ := k x hx; f.bq) (by omega) nd (hk.trans hl), ?_⟩
  · obtain ⟨i, hi, rfl⟩ := List.mem_iff_getElem.mp hx
    have c1 : ds[i]? = some ds[i] := List.getElem?_eq_getElem (by omega)
    have c2 : ds'[i]? = some ds'[i] := List.getElem?_eq_getElem (by omega)
    rw [get_at nd (List.getElem?_eq_getElem hi) c1, get_at nd (List.getElem?_eq_getElem hi) c2]
    exact (h i _ _ c1 c2).rf
  · rw [dep]
    have := depL_le (n := n + 2) fun x hx => let ⟨_, f⟩ := k x hx; f.dp
    omega
theorem scLf : FnScope ["_law_well_here", "_law_value_here", "_law_sort_here", "_law_part", "_law_key"] ["_law_well_here", "_law_value_here"] (defScope sLFill) := ⟨rfl, rfl, rfl, by decide +kernel, rfl, by decide +kernel, by decide +kernel⟩
theorem ok_fill {f fS fO fV : Addr} {fd dS dO dV : FuncData} {n k kv : Nat} (F : Fun K "_law_filled" "_law_filled" sLFill f fd) (T : Txt K mg CU)
    (GS : FnOk P w K mg base CX0 2 fS dS ["_law_value_here"] (spD CU fun d => .str (lsort d))) (gS : mg "_law_sort" = some (.ref fS)) (kS : PySem.W.keepIn K (.ref fS) = true) (bS : Binds K dS ["_law_value_here"] [])
    (GO : FnOk P w K mg base CX0 2 fO dO ["_law_well_here", "_law_some"] (spOne K)) (gO : mg "_law_one" = some (.ref fO)) (kO : PySem.W.keepIn K (.ref fO) = true) (bO : Binds K dO ["_law_well_here", "_law_some"] [])
    (GV : FnOk P w K mg base CX0 kv fV dV ["_law_well_here", "_law_deep", "_law_dim"] (spV CU 2)) (gV : mg "_law_value" = some (.ref fV)) (kV' : PySem.W.keepIn K (.ref fV) = true) (bV : Binds K dV ["_law_well_here", "_law_deep", "_law_dim"] [])
    (gK : mg "_law_filled" = some (.ref f)) (bK : Binds K fd ["_law_well_here", "_law_value_here"] []) (hk : 2 ≤ k) (hkv : kv ≤ k) (GK : FnOk P w K mg base CX0 k f fd ["_law_well_here", "_law_value_here"] (spFill CU n)) :
    FnOk P w K mg base CX0 (k + 1) f fd ["_law_well_here", "_law_value_here"] (spFill CU (n + 1)) := by
  have kK := F.kp
  refine F.ok scLf (fun vs H Q E h => spFill_len h) (fun cdv A outer s H vs Q E hr h => ?_)
  obtain ⟨w, v, d, a, b, c, rfl, W, hd, hn, hg, hc, kk⟩ := h
  have hr2 : Room 2 _ := hr.mono hk
  have hrV : Room kv _ := hr.mono hkv
  have hu := hu_of hr
  have fp := FC_pos n
  refine ⟨_, (pss_cons (ps_set (i := 2) scLf.nd rfl (Or.inl rfl) (pe_call GS hr2 rfl gS kS bS .nil pass0 (pa_cons (pv 1) pa_nil)))
      (pss_cons (ps_if (pt_cmpR op_eq (pv 2) pe_str (nomark _)) (pss_one (ps_ret (pe_call GO hr2 rfl gO kO bO .nil pass0 (pa_cons (pv 0) (pa_cons (pe_lst (pa_cons (pe_call GV hrV rfl gV kV' bV .nil pass0 (pa_cons (pv 0) (pa_cons pe_int (pa_cons pe_int pa_nil)))) (pa_cons pe_str (pa_cons pe_int (pa_cons pe_int (pa_cons (pe_cmpR op_eq pe_int pe_int (nomark _)) (pa_cons (pe_tup (pa_cons pe_str (pa_cons pe_str pa_nil))) (pa_cons (pe_disp (pps_cons pe_str pe_str pps_nil) (by rfl) (by rfl) (fun z => by cases z) (by decide)) pa_nil)))))))) pa_nil))))) pss_nil)
      (pss_cons (ps_if (pt_cmpR op_eq (pv 2) pe_str (nomark _)) (pss_one (ps_ret (pe_callTy call_tuple_of (by rfl) T.tuple (by decide +kernel) (pa_cons (pe_lc (own := [("_law_part", 3)]) (g := gName 3) (tt := tYes) rfl scLf.nd (pi_tup (pv 1)) (blkOk_by (own := [("_law_part", 3)]) (N := ["_law_well_here", "_law_value_here", "_law_sort_here", "_law_part", "_law_key"]) (sc := (defScope sLFill)) (by decide +kernel)) (fun _ _ _ _ _ => pg_name (i := 3) scLf.nd rfl (Or.inl rfl)) (fun _ _ _ _ _ => pts_nil) (fun _ _ _ _ _ => (pe_call GK hr rfl gK kK bK .nil pass0 (pa_cons (pv 0) (pa_cons (pv 3) pa_nil))))) pa_nil)))) pss_nil)
      (pss_cons (ps_if (pt_cmpR op_eq (pv 2) pe_str (nomark _)) (pss_one (ps_ret (pe_callTy (call_dictP rfl) (by rfl) T.dict (by decide +kernel) (pa_cons (pe_lock (pe_lc (own := [("_law_key", 4)]) (g := gName 4) (tt := tYes) rfl scLf.nd (pi_keys (pv 1)) (blkOk_by (own := [("_law_key", 4)]) (N := ["_law_well_here", "_law_value_here", "_law_sort_here", "_law_part", "_law_key"]) (sc := (defScope sLFill)) (by decide +kernel)) (fun _ _ _ _ _ => pg_name (i := 4) scLf.nd rfl (Or.inl rfl)) (fun _ _ _ _ _ => pts_nil) (fun _ _ _ _ _ => (pe_tup (pa_cons (pv 4) (pa_cons (pe_call GK hr rfl gK kK bK .nil pass0 (pa_cons (pv 0) (pa_cons (pe_dget hu (pv 1) (pv 4) (fun _ _ => rfl)) pa_nil))) pa_nil)))))) pa_nil)))) pss_nil)
      (pss_one (ps_ret (pv 1))))))), ?_⟩
  refine ⟨_, rfl, v, d, rfl, hd, fun H1 m1 => ?_⟩
  have W1 := W.same m1
  have known : ∀ (v : V) (d : D), Rep CU H v d → Kn d → BQ 20 d → dep d ≤ n → (∀ (r : V) (d' : D) (a' c' : Int) (H' : Hp), c' ≤ c + FC n → Well H' w a' b c' → But w H H' → Rep CU H' r d' → Fl n d d' → Q r H') → Q v H1 := fun v d r k g hn kk =>
    kk v d a c H1 (by omega) W1 (But.of m1) (r.same m1) ⟨Rf.refl k g.gd.wf, g, by omega⟩
  cases hd with
  | @unk p dx h =>
    refine ⟨_, rfl, rfl, _, rfl, st_yes rfl ?_⟩
    refine ⟨_, rfl, _, rfl, w, a, b, c, 0, rfl, W1, (by show c + 16 < _; omega), fun r d2 a2 c2 H2 hc2 W2 B2 R2 G2 => ?_⟩
    have hc2' : c2 ≤ c + 16 := hc2
    refine ⟨rfl, (by show 2 ≤ sizeLine; decide), fun t ht => ?_⟩
    have n3 := same_new (o := .tup [.str "a", .str "b"]) ht
    have e3 := at_new (o := .tup [.str "a", .str "b"]) ht
    generalize (upd H2 t (.tup [.str "a", .str "b"])) = H3 at n3 e3 ⊢
    intro DD hD
    refine ⟨upd_same, [(Sum.inr "x", .str "a")], rfl, (by show 1 ≤ 15; decide), (by show 7 ≤ sizeLine; decide), fun l hl => ?_⟩
    have n4 : Same H3 (upd (upd H3 DD (.dK [])) DD (.dK (mergeK [] [(Sum.inr "x", .str "a")]))) := fun b o e => by
      rw [upd_ne (ne_of_none e hD), upd_ne (ne_of_none e hD)]
      exact e
    have e4 : (upd (upd H3 DD (.dK [])) DD (.dK (mergeK [] [(Sum.inr "x", .str "a")]))) DD = some (.dK [(Sum.inr "x", .str "a")]) := by
      rw [upd_same, merge1]
    generalize (upd (upd H3 DD (.dK [])) DD (.dK (mergeK [] [(Sum.inr "x", .str "a")]))) = H4 at n4 e4 hl ⊢
    have n5 := same_new (o := .lst [r, .str "a", .int 0, .int 1, .bl (decide (V.int 1 = V.int 1)), .ref t, .ref DD]) hl
    have nn := (n3.trans n4).trans n5
    have nl : l ≠ w := fun z => by rw [z, (W2.same (n3.trans n4)).at_] at hl; cases hl
    refine ⟨w, l, a2, b, c2, _, rfl, W2.same nn, by omega, upd_same, nl, (by show 0 < 7; decide), (by show 7 < 1000; decide), fun u a6 c6 H6 hv hc6 W6 B6 => ?_⟩
    have bb := (But.of m1).trans (B2.trans ((But.of nn).trans B6))
    have fin : ∀ (d' : D), Rep CU H6 u d' → Kn d' → BQ 20 d' → dep d' ≤ 2 → Q u H6 := fun d' r' k' g' p' => kk u d' a6 c6 H6 (by omega) W6 bb r' ⟨.unk k', g', by omega⟩
    have Wn := W2.same nn
    have tS : ∀ x : Str, TxOk x → Rep CU H6 (.str x) (.str x) := fun x hx => .str x hx
    have txa : TxOk "a" := ⟨by decide +kernel, by decide +kernel⟩
    have txb : TxOk "b" := ⟨by decide +kernel, by decide +kernel⟩
    simp only [List.mem_cons, List.not_mem_nil, or_false] at hv
    rcases hv with rfl | rfl | rfl | rfl | rfl | rfl | rfl
    · exact fin d2 (Wn.rep B6 (R2.ofKeep.same nn)) (G2.kn (Int.le_refl _)) G2.bq (by have := G2.dp; omega)
    · exact fin _ (tS _ txa) (.str _) (.str _ (by decide +kernel) (by decide +kernel)) (Nat.zero_le _)
    · exact fin _ (.int _) (.int _) ⟨.int _ (by decide), .int _⟩ (Nat.zero_le _)
    · exact fin _ (.int _) (.int _) ⟨.int _ (by decide), .int _⟩ (Nat.zero_le _)
    · exact fin _ (.bl _) (.bl _) (.bl _) (Nat.zero_le _)
    · have et := (n4.trans n5) _ _ e3
      have ea : BQ 20 (.str "a") := .str _ (by decide +kernel) (by decide +kernel)
      have eb : BQ 20 (.str "b") := .str _ (by decide +kernel) (by decide +kernel)
      refine fin (.tup [.str "a", .str "b"]) (rep_its (B6 _ _ et (ne_of et Wn.at_ (fun z => nomatch z))) (its2 (tS _ txa) (tS _ txb)) (by show 2 ≤ 60; decide)) (.tup fun x hx => ?_) (.tup (fun x hx => ?_) (by show 2 ≤ 60; decide)) (by decide)
      · simp only [List.mem_cons, List.not_mem_nil, or_false] at hx
        rcases hx with rfl | rfl <;> exact .str _
      · simp only [List.mem_cons, List.not_mem_nil, or_false] at hx
        rcases hx with rfl | rfl
        · exact ea
        · exact eb
    · have eD := n5 _ _ e4
      refine fin (.map ["x"] [.str "a"]) (rep_map1 (B6 _ _ eD (ne_of eD Wn.at_ (fun z => nomatch z))) (tS _ txa) ⟨by decide +kernel, by decide +kernel⟩) (.map fun x hx => ?_) (bd1 (.str _ (by decide +kernel) (by decide +kernel))) (by decide)
      rw [List.mem_singleton.mp hx]
      exact .str _
  | @tup p xs ds h hl hz hs =>
    cases htag : isTag ds with
    | true =>
      have es : lsort (.tup ds) = "tag" := by simp [lsort, isU, sort, htag]
      refine ⟨_, rfl, rfl, _, rfl, st_no (by rw [es]; decide +kernel) ⟨_, rfl, rfl, _, rfl, st_no (by rw [es]; decide +kernel) ⟨_, rfl, rfl, _, rfl, st_no (by rw [es]; decide +kernel) ⟨_, rfl, ?_⟩⟩⟩⟩
      exact known _ _ (.tup h hl hz hs) (.tup (tag_kn htag)) hg hn kk
    | false =>
      have es : lsort (.tup ds) = "tuple" := by simp [lsort, isU, sort, htag]
      refine ⟨_, rfl, rfl, _, rfl, st_no (by rw [es]; decide +kernel) ⟨_, rfl, rfl, _, rfl, st_yes es ?_⟩⟩
      rw [dep] at hn
      obtain ⟨i0, rfl⟩ : ∃ i0, n = i0 + 1 := ⟨n - 1, by omega⟩
      have h1 := m1 _ _ h
      have np : p ≠ w := ne_of h1 W1.at_ (fun z => nomatch z)
      have q0 := FC_pos i0
      have eF : FC (i0 + 1) = 61 * FC i0 := rfl
      rw [eF] at hc kk
      generalize hq : FC i0 = q at q0 hc kk
      have hdl : depL ds ≤ i0 := by omega
      have gi : ∀ x ∈ ds, BQ 20 x := fun x hx => ⟨by
        cases hg.bd with
        | tup z _ => exact z x hx, by
        cases hg.gd with
        | tag z => rw [htag] at z; cases z
        | tup z => exact z x hx⟩
      refine ⟨_, rfl, p, rfl, ⟨_, SqT.of h1⟩, fun D hD => ?_⟩
      have nDw : D ≠ w := Ne.symm (ne_of_none W1.at_ hD)
      refine lc_it walk_tup (fun i H' => But w H1 H' ∧ ∃ a' c', Well H' w a' b c' ∧ c' ≤ c + (i : Int) * q ∧ ∃ acc ds', H' D = some (.lst acc) ∧ acc.length = i ∧ FIt CU i0 ds H' acc ds') ?_ (fun i H' _ z => SqT.of (z.1 _ _ h1 np)) ?_ ?_
      · exact ⟨But.of (same_new hD), a, c, W1.same (same_new hD), by omega, [], [], upd_same, rfl, ⟨rfl, fun i v d h _ => nomatch h⟩, fun i d d' _ h => nomatch h⟩
      · rintro i x Ha Hb hi ⟨Bu, a', c', Wl, hcl, acc, ds', hD', hla, hF⟩ ⟨rfl, hx⟩
        have dj : ds[i]? = some ds[i] := List.getElem?_eq_getElem (by omega)
        have mi := List.mem_of_getElem? dj
        have hi3 : (i : Int) * q ≤ 59 * q := Int.mul_le_mul_of_nonneg_right (by omega) (by omega)
        refine ⟨rfl, yes_i ⟨_, rfl, _, rfl, w, x, ds[i], a', b, c', rfl, Wl, W1.rep Bu ((hs i x _ hx dj).same m1), Nat.le_trans (dep_mem mi) hdl, gi _ mi, by rw [hq]; omega, fun r d' a'' c'' H'' hc'' W'' B'' R'' F'' => ?_⟩⟩
        rw [hq] at hc''
        have hDD := B'' _ _ hD' nDw
        refine ⟨acc, hDD, small1000 (by omega), fun y o e nq => ?_, a'', c'', ⟨by rw [upd_ne (Ne.symm nDw)]; exact W''.at_, W''.b0, W''.b1, W''.c0, W''.c1⟩, ?_, acc ++ [r], ds' ++ [d'], upd_same, by rw [List.length_append, hla]; rfl, ?_⟩
        · rw [upd_ne (ne_of_none e hD)]
          exact B'' _ _ (Bu _ _ e nq) nq
        · rw [show ((i + 1 : Nat) : Int) = (i : Int) + 1 from by omega, Int.add_mul]
          omega
        · exact ((hF.mono fun v d h => Wl.rep B'' h).snoc (by rw [hla]; exact dj) R'' F'').mono fun v d h => h.but But.upd hDD tr_lst
      rintro H4 ⟨Bu, a4, c4, W4, hc4, acc, ds', hD4, hla, hF⟩
      have ll : (xs.length : Int) * q ≤ 60 * q := Int.mul_le_mul_of_nonneg_right (by omega) (by omega)
      have el : ds.length = ds'.length := by have := hF.its.1; omega
      refine ⟨D, acc, rfl, .inl ⟨SqL.of hD4, fun l hl' => ?_⟩⟩
      have n5 := same_new (o := .tup acc) hl'
      exact kk _ (.tup ds') a4 c4 _ (by omega) (W4.same n5) ((But.of m1).trans (Bu.trans (But.of n5))) (rep_its upd_same (hF.its.mono fun v d h => h.same n5) (by omega)) (fl_tup htag el hz hF.fl hg)
  | @map p vs ks ds h hv hk' hz nd ko hs =>
    have es : lsort (.map ks ds) = "map" := rfl
    refine ⟨_, rfl, rfl, _, rfl, st_no (by rw [es]; decide +kernel) ⟨_, rfl, rfl, _, rfl, st_no (by rw [es]; decide +kernel) ⟨_, rfl, rfl, _, rfl, st_yes es ?_⟩⟩⟩
    rw [dep] at hn
    obtain ⟨i0, rfl⟩ : ∃ i0, n = i0 + 1 := ⟨n - 1, by omega⟩
    have h1 := m1 _ _ h
    have np : p ≠ w := ne_of h1 W1.at_ (fun z => nomatch z)
    have q0 := FC_pos i0
    have eF : FC (i0 + 1) = 61 * FC i0 := rfl
    rw [eF] at hc kk
    generalize hq : FC i0 = q at q0 hc kk
    have hdl : depL ds ≤ i0 := by omega
    have gi : ∀ x ∈ ds, BQ 20 x := fun x hx => ⟨by
      cases hg.bd with
      | map z _ => exact z x hx, by
      cases hg.gd with
      | map _ _ z => exact z x hx⟩
    have hrep : Rep CU H1 (.ref p) (.map ks ds) := (Rep.map h hv hk' hz nd ko hs).same m1
    have lkv : (mkv ks vs).length = ks.length := mkv_length (hk'.trans hv.symm)
    refine ⟨p, _, h1, trivial, fun od => ?_⟩
    have WL : Well (upd H1 p (.frz od (.dK (mkv ks vs)))) w a b c := W1.off np
    have hp0 : (upd H1 p (.frz od (.dK (mkv ks vs)))) p = some (.frz od (.dK (mkv ks vs))) := upd_same
    have off : ∀ (i : Nat) (v : V) (d : D), vs[i]? = some v → ds[i]? = some d → Rep CU (upd H1 p (.frz od (.dK (mkv ks vs)))) v d := fun i v d e1 e2 => Rep.off hrep ((hs i v d e1 e2).same m1) (by rw [sz]; have := sz_mem (List.mem_of_getElem? e2); omega)
    generalize hHL : upd H1 p (.frz od (.dK (mkv ks vs))) = HL at WL hp0 off ⊢
    refine ⟨_, rfl, p, od, rfl, .inl ⟨_, hp0, fun D hD => ?_⟩⟩
    have nDw : D ≠ w := Ne.symm (ne_of_none WL.at_ hD)
    have nDp : D ≠ p := Ne.symm (ne_of_none hp0 hD)
    refine lc_it walk_keys (fun i H' => But w HL H' ∧ ∃ a' c', Well H' w a' b c' ∧ c' ≤ c + (i : Int) * q ∧ ∃ (ts : List Addr) (rs : List V) (ds' : List VT.D), H' D = some (.lst (ts.map V.ref)) ∧ ts.length = i ∧ rs.length = i ∧ FIt CU i0 ds H' rs ds' ∧ ∀ (j : Nat) (t : Addr), ts[j]? = some t → ∃ k r, ks[j]? = some k ∧ rs[j]? = some r ∧ H' t = some (.tup [.str k, r])) ?_ (fun i H' _ z => z.1 _ _ hp0 np) ?_ ?_
    · exact ⟨But.of (same_new hD), a, c, WL.same (same_new hD), by omega, [], [], [], upd_same, rfl, rfl, ⟨⟨rfl, fun i v d h _ => nomatch h⟩, fun i d d' _ h => nomatch h⟩, fun j t h => nomatch h⟩
    · rintro i x Ha Hb hi ⟨Bu, a', c', Wl, hcl, ts, rs, ds', hD', hlt, hlr, hF, hT⟩ ⟨rfl, ky, vy, hx, rfl⟩
      obtain ⟨k1, hk1, rfl, hv1⟩ := mkv_get hx
      rw [lkv] at hi
      have dj : ds[i]? = some ds[i] := List.getElem?_eq_getElem (by omega)
      have mi := List.mem_of_getElem? dj
      have hi3 : (i : Int) * q ≤ 59 * q := Int.mul_le_mul_of_nonneg_right (by omega) (by omega)
      refine ⟨rfl, yes_i ⟨_, rfl, _, rfl, _, rfl, _, rfl, p, vy, rfl, .inl ⟨_, Sum.inr k1, .inr ⟨od, Bu _ _ hp0 np⟩, rfl, (mkv_val nd hk1 hv1).symm⟩, w, vy, ds[i], a', b, c', rfl, Wl, WL.rep Bu (off i vy _ hv1 dj), Nat.le_trans (dep_mem mi) hdl, gi _ mi, by rw [hq]; omega, fun r d' a'' c'' H'' hc'' W'' B'' R'' F'' => ?_⟩⟩
      rw [hq] at hc''
      have hDD := B'' _ _ hD' nDw
      refine ⟨(by show 2 ≤ sizeLine; decide), fun t ht => ?_⟩
      have n5 := same_new (o := .tup [kV (Sum.inr k1), r]) ht
      have e5 : upd H'' t (.tup [kV (Sum.inr k1), r]) t = some (.tup [.str k1, r]) := at_new ht
      generalize (upd H'' t (.tup [kV (Sum.inr k1), r])) = H5 at n5 e5 ⊢
      have hD5 := n5 _ _ hDD
      have mono5 : ∀ v d, Rep CU Hb v d → Rep CU (upd H5 D (.lst (ts.map V.ref ++ [.ref t]))) v d := fun v d h => ((Wl.rep B'' h).same n5).but But.upd hD5 tr_lst
      refine ⟨_, hD5, small1000 (by rw [List.length_map]; omega), fun y o e nq => ?_, a'', c'', (W''.same n5).off nDw, ?_, ts ++ [t], rs ++ [r], ds' ++ [d'], ?_, by rw [List.length_append, hlt]; rfl, by rw [List.length_append, hlr]; rfl, ?_, fun j t' hj => ?_⟩
      · rw [upd_ne (ne_of_none e hD)]
        exact n5 _ _ (B'' _ _ (Bu _ _ e nq) nq)
      · rw [show ((i + 1 : Nat) : Int) = (i : Int) + 1 from by omega, Int.add_mul]
        omega
      · rw [upd_same, List.map_append]
        rfl
      · exact (hF.mono mono5).snoc (by rw [hlr]; exact dj) ((R''.same n5).but But.upd hD5 tr_lst) F''
      · by_cases hjl : j < ts.length
        · rw [List.getElem?_append_left hjl] at hj
          obtain ⟨k, r', e1, e2, e3⟩ := hT j t' hj
          refine ⟨k, r', e1, by rw [List.getElem?_append_left (by omega)]; exact e2, ?_⟩
          have e4 := n5 _ _ (B'' _ _ e3 (ne_of e3 Wl.at_ (fun z => nomatch z)))
          rw [upd_ne (ne_of e4 hD5 (fun z => nomatch z))]
          exact e4
        · have hlt' := (List.getElem?_eq_some_iff.mp hj).1
          rw [List.length_append] at hlt'
          have hlt2 : j < ts.length + 1 := hlt'
          have : j = ts.length := by omega
          subst this
          rw [List.getElem?_append_right (Nat.le_refl _), Nat.sub_self] at hj
          cases hj
          refine ⟨k1, r, by rw [hlt]; exact hk1, ?_, ?_⟩
          · rw [hlt, ← hlr, List.getElem?_append_right (Nat.le_refl _), Nat.sub_self]
            rfl
          · rw [upd_ne (ne_of e5 hD5 (fun z => nomatch z))]
            exact e5
    rintro H4 ⟨Bu, a4, c4, W4, hc4, ts, rs, ds', hD4, hlt, hlr, hF, hT⟩
    rw [lkv] at hc4 hlt hlr
    have fr := Bu _ _ hp0 np
    have bl : But w H1 (upd H4 p (.dK (mkv ks vs))) := by
      subst hHL
      exact but_lock h1 Bu
    refine ⟨fr, ?_⟩
    have ll : (ks.length : Int) * q ≤ 60 * q := Int.mul_le_mul_of_nonneg_right (by omega) (by omega)
    have el : ds.length = ds'.length := by have := hF.its.1; omega
    have hF5 : FIt CU i0 ds (upd H4 p (.dK (mkv ks vs))) rs ds' := hF.mono fun v d h => rep_unlock fr h
    have hD5 : (upd H4 p (.dK (mkv ks vs))) D = some (.lst (ts.map V.ref)) := by rw [upd_ne nDp]; exact hD4
    have hT5 : ∀ (j : Nat) (t : Addr), ts[j]? = some t → ∃ k r, ks[j]? = some k ∧ rs[j]? = some r ∧ (upd H4 p (.dK (mkv ks vs))) t = some (.tup [.str k, r]) := fun j t hj => by
      obtain ⟨k, r, e1, e2, e3⟩ := hT j t hj
      exact ⟨k, r, e1, e2, by rw [upd_ne (ne_of e3 fr (fun z => nomatch z))]; exact e3⟩
    have W5 : Well (upd H4 p (.dK (mkv ks vs))) w a4 b c4 := W4.off np
    generalize (upd H4 p (.dK (mkv ks vs))) = H5 at bl hF5 hD5 hT5 W5 ⊢
    have lk : ks.length = rs.length := hlr.symm
    refine ⟨D, ts, mkv ks rs, rfl, SqL.of hD5, paired_of (by rw [mkv_length lk]; exact hlt) (fun j t kv ht hkv => ?_), fun z hz' => ?_⟩
    · obtain ⟨k, r, e1, e2, e3⟩ := hT5 j t ht
      obtain ⟨k0, v0⟩ := kv
      obtain ⟨k', ek', rfl, ev'⟩ := mkv_get hkv
      rw [e1] at ek'
      rw [e2] at ev'
      cases ek'
      cases ev'
      exact SqT.of e3
    · have em := merge_nd ks rs [] lk nd (fun _ _ p hp => nomatch hp)
      rw [List.nil_append] at em
      rw [em]
      have n6 := same_new (o := .dK (mkv ks rs)) hz'
      exact kk _ (.map ks ds') a4 c4 _ (by omega) (W5.same n6) ((But.of m1).trans (bl.trans (But.of n6))) (.map upd_same hF5.its.1 (hk'.trans el) (by omega) nd ko fun i v d e1 e2 => (hF5.its.2 i v d e1 e2).same n6) (fl_map nd hk' el hz hF.fl)
  | non =>
    refine ⟨_, rfl, rfl, _, rfl, st_no (by decide +kernel) ⟨_, rfl, rfl, _, rfl, st_no (by decide +kernel) ⟨_, rfl, rfl, _, rfl, st_no (by decide +kernel) ⟨_, rfl, ?_⟩⟩⟩⟩
    exact known _ _ .non .non hg hn kk
  | bl x =>
    refine ⟨_, rfl, rfl, _, rfl, st_no (by show ("bool" : Str) ≠ _; decide +kernel) ⟨_, rfl, rfl, _, rfl, st_no (by show ("bool" : Str) ≠ _; decide +kernel) ⟨_, rfl, rfl, _, rfl, st_no (by show ("bool" : Str) ≠ _; decide +kernel) ⟨_, rfl, ?_⟩⟩⟩⟩
    exact known _ _ (.bl x) (.bl x) hg hn kk
  | int x =>
    refine ⟨_, rfl, rfl, _, rfl, st_no (by show ("integer" : Str) ≠ _; decide +kernel) ⟨_, rfl, rfl, _, rfl, st_no (by show ("integer" : Str) ≠ _; decide +kernel) ⟨_, rfl, rfl, _, rfl, st_no (by show ("integer" : Str) ≠ _; decide +kernel) ⟨_, rfl, ?_⟩⟩⟩⟩
    exact known _ _ (.int x) (.int x) hg hn kk
  | str x hx =>
    refine ⟨_, rfl, rfl, _, rfl, st_no (by show ("text" : Str) ≠ _; decide +kernel) ⟨_, rfl, rfl, _, rfl, st_no (by show ("text" : Str) ≠ _; decide +kernel) ⟨_, rfl, rfl, _, rfl, st_no (by show ("text" : Str) ≠ _; decide +kernel) ⟨_, rfl, ?_⟩⟩⟩⟩
    exact known _ _ (.str x hx) (.str x) hg hn kk
end
end K04

namespace K04
open PySem L2 XR VT
abbrev sReckon : Stmt := top 19
abbrev sLTold : Stmt := top 48
section
variable {P : Program} {w : World} {K : PySem.W.Frag} {mg : Str → Option Value} {base : Heap} {CU : Addr}
variable {CM CP : Addr}
theorem wk0 {N k : Nat} {f : Addr} {fd : FuncData} : FnOk P w K mg base (L2.CX P w) k f fd ["expression", "names"] (spWk CU CM N 0) := ⟨fun _ _ _ _ h => spWx_len h, fun _ _ _ _ _ _ _ _ _ _ _ _ _ ⟨_, _, _, _, _, _, _, _, _, _, z, _⟩ => absurd z (Nat.not_lt_zero _)⟩
theorem scRk : FnScope ["expression", "names"] ["expression", "names"] (defScope sReckon) := ⟨rfl, rfl, rfl, by decide +kernel, rfl, by decide +kernel, by decide +kernel⟩
theorem ok_reckon {f fW fC : Addr} {fd dW dC : FuncData} {N n k kc : Nat} (F : Fun K "reckon" "reckon" sReckon f fd)
    (GW : FnOk P w K mg base (L2.CX P w) k fW dW ["expression", "names"] (spWk CU CM N n)) (gW : mg "worked" = some (.ref fW)) (kW : PySem.W.keepIn K (.ref fW) = true) (bW : Binds K dW ["expression", "names"] [])
    (GC : FnOk P w K mg base CX0 kc fC dC ["value"] (spCop CU 22)) (gC : mg "copied" = some (.ref fC)) (kC : PySem.W.keepIn K (.ref fC) = true) (bC : Binds K dC ["value"] []) (hk : kc ≤ k) :
    FnOk P w K mg base (L2.CX P w) (k + 1) f fd ["expression", "names"] (spWk CU CM N n) := by
  refine F.okX scRk (fun vs H Q E h => spWx_len h) (fun cdv A outer s H vs Q E hr h => ?_)
  obtain ⟨v, p, x, nm, rfl, hx, hN, gx, gn, _, xn, x10, kok, kno⟩ := h
  have hrW : Room k _ := hr
  have hrC : Room kc _ := hr.mono hk
  refine ⟨_, (pss_one (ps_ret (pe_call GC hrC rfl gC kC bC .nil pass0 (pa_cons (pe_callS GW hrW rfl gW kW bW (fun σ => passAt (takes_of rfl rfl rfl rfl) σ) (pa_cons (pv 0) (pa_cons (pv 1) pa_nil))) pa_nil)))), ?_⟩
  refine ⟨_, rfl, _, rfl, v, p, x, nm, rfl, hx, hN, gx, gn, trivial, xn, x10, fun d r H1 e1 m1 r1 => ?_, kno⟩
  refine ⟨r, d, rfl, r1, ?_, fun r2 H2 m2 q2 => kok d r2 H2 e1 (m1.trans m2) (q2 (fun _ => True) r1.all fun _ _ => trivial).ofKeep⟩
  have := (wk_good gn n x d gx (by omega) e1).2
  omega
def TL4 (CU : Addr) (H : Hp) (l : Addr) : Except X D → Prop
  | .ok d => ∃ r, H l = some (.lst [r]) ∧ Rep CU H r d
  | .error _ => H l = some (.lst [])
def spTold (CU : Addr) (N n : Nat) : Sp := fun vs H Q _ => ∃ (v : V) (p : Addr) (x : X) (nm : Nm), vs = [v, .ref p] ∧ Rep CU H v (toD x) ∧ NRep CU H p nm ∧ XG x ∧ NG nm ∧ xd x < n ∧ xd x ≤ 10 ∧
  ∀ (l : Addr) (H' : Hp), Same H H' → H l = none → TL4 CU H' l (wk N nm n x) → Q (.ref l) H'
theorem scLto : FnScope ["_law_expression_here", "_law_names_here"] ["_law_expression_here", "_law_names_here"] (defScope sLTold) := ⟨rfl, rfl, rfl, by decide +kernel, rfl, by decide +kernel, by decide +kernel⟩
theorem ok_told {f fR fM : Addr} {fd dR dM : FuncData} {N n k : Nat} (F : Fun K "_law_told" "_law_told" sLTold f fd) (NM : New1 P w K mg base CP "Misfit" "expression" CM fM dM) (nP : CM ≠ CP)
    (GR : FnOk P w K mg base (L2.CX P w) k fR dR ["expression", "names"] (spWk CU CM N n)) (gR : mg "reckon" = some (.ref fR)) (kR : PySem.W.keepIn K (.ref fR) = true) (bR : Binds K dR ["expression", "names"] []) :
    FnOk P w K mg base CX0 (k + 1) f fd ["_law_expression_here", "_law_names_here"] (spTold CU N n) := by
  refine F.ok scLto (fun vs H Q E h => ?_) (fun cdv A outer s H vs Q E hr h => ?_)
  · obtain ⟨v, p, x, nm, rfl, _⟩ := h
    rfl
  obtain ⟨v, p, x, nm, rfl, hx, hN, gx, gn, xn, x10, kk⟩ := h
  refine ⟨_, pss_one (ps_try_only (c := .ref CM) rfl rfl ⟨rfl, by decide, .inl NM.g⟩ LamX.takes0
    (fun W pn xe tk _ => pss_one (ps_ret (pe_lst (pa_cons (pe_callS GR hr rfl gR kR bR (fun σ => passAt tk σ) (pa_cons (pv 0) (pa_cons (pv 1) pa_nil))) pa_nil))))
    (fun a oe cls d pn _ _ => pss_one (ps_ret (pe_lst pa_nil)))), ?_⟩
  refine ⟨_, rfl, _, rfl, v, p, x, nm, rfl, hx, hN, gx, gn, trivial, xn, x10, fun d r H1 e1 m1 r1 => ⟨(by show 1 ≤ sizeLine; decide), fun t ht => ?_⟩, fun e ee u H1 m1 ru dx H2 m2 f2 => ?_⟩
  · refine kk _ _ (m1.trans (same_new ht)) (same_none m1 ht) ?_
    rw [e1]
    exact ⟨r, upd_same, r1.same (same_new ht)⟩
  · refine ⟨true, (NM.xc.exm NM.xc nP).trans (congrArg some (decide_eq_true rfl)), fun _ a ha => ?_, fun z => Bool.noConfusion z⟩
    refine ⟨(by show 0 ≤ sizeLine; decide), fun t ht => ?_⟩
    refine kk _ _ ((m1.trans m2).trans (same_new ht)) (same_none (m1.trans m2) ht) ?_
    rw [ee]
    exact upd_same
end
end K04

namespace K04
open PySem L2 XR VT
abbrev sLAl : Stmt := top 39
theorem rf_kids {d e : D} (h : Rf d e) (k : Kn d) : isU d = false ∧ isU e = false ∧ sort d = sort e ∧ ∃ ps, kids d e = some ps ∧ ∀ q ∈ ps, Rf q.1 q.2 ∧ Kn q.1 := by
  cases h with
  | unk _ => cases k
  | non => exact ⟨rfl, rfl, rfl, [], rfl, fun q h => nomatch h⟩
  | bl b => exact ⟨rfl, rfl, rfl, [], (by show (if b = b then _ else _) = _; rw [if_pos rfl]), fun q h => nomatch h⟩
  | int b => exact ⟨rfl, rfl, rfl, [], (by show (if b = b then _ else _) = _; rw [if_pos rfl]), fun q h => nomatch h⟩
  | str b => exact ⟨rfl, rfl, rfl, [], (by show (if b = b then _ else _) = _; rw [if_pos rfl]), fun q h => nomatch h⟩
  | @tag l ht =>
    refine ⟨rfl, rfl, rfl, [], ?_, fun q h => nomatch h⟩
    show (if isTag l then (if leqT l l then some [] else none) else _) = _
    rw [if_pos ht, if_pos (leqT_self ht)]
  | @tup l l' h1 h2 hl h =>
    refine ⟨rfl, rfl, by rw [sort_t h1, sort_t h2], l.zip l', ?_, fun q hq => ?_⟩
    · show (if isTag l then _ else if l.length = l'.length then some (l.zip l') else none) = _
      rw [if_neg (by rw [h1]; decide), if_pos hl]
    · obtain ⟨i, hi⟩ := List.mem_iff_getElem?.mp hq
      obtain ⟨a1, a2⟩ := List.getElem?_zip_eq_some.mp hi
      cases k with
      | tup k => exact ⟨h i _ _ a1 a2, k _ (List.mem_of_getElem? a1)⟩
  | @map ks ks' ds ds' hp nd hl hl' h =>
    refine ⟨rfl, rfl, rfl, ks.map (pairAt ks ds ks' ds'), ?_, fun q hq => ?_⟩
    · show (if ks.Perm ks' then some ((ks.zip ds).map fun p => (p.2, get ks' ds' p.1)) else none) = _
      rw [if_pos hp, zip_pairs nd hl]
    · obtain ⟨x, hx, rfl⟩ := List.mem_map.mp hq
      cases k with
      | map k => exact ⟨h x hx, k _ (get_mem nd hl hx)⟩
theorem lsort_k {d : D} (h : isU d = false) : lsort d = sort d := by simp [lsort, h]
theorem sort_not_u (d : D) : sort d ≠ "unknown" := by
  cases d with
  | tup l =>
    cases h : isTag l <;> simp only [sort, h] <;> decide +kernel
  | non => show ("none" : Str) ≠ _; decide +kernel
  | unk => show ("none" : Str) ≠ _; decide +kernel
  | bl b => show ("bool" : Str) ≠ _; decide +kernel
  | int b => show ("integer" : Str) ≠ _; decide +kernel
  | str b => show ("text" : Str) ≠ _; decide +kernel
  | map ks ds => show ("map" : Str) ≠ _; decide +kernel
def spAl (CU : Addr) (n : Nat) : Sp := fun vs H Q _ => ∃ (v u : V) (d e : D), vs = [v, u] ∧ Rep CU H v d ∧ Rep CU H u e ∧ dep d < n ∧ Rf d e ∧ Kn d ∧ ∀ H', Same H H' → Q (.bl true) H'
theorem spAl_len {CU : Addr} {n : Nat} {vs : List V} {H : Hp} {Q : VK} {E : XK} (h : spAl CU n vs H Q E) : vs.length = 2 := by
  obtain ⟨v, u, a, b, rfl, _⟩ := h
  rfl
section
variable {P : Program} {w : World} {K : PySem.W.Frag} {mg : Str → Option Value} {base : Heap} {CU : Addr}
theorem al0 {k : Nat} {f : Addr} {fd : FuncData} : FnOk P w K mg base CX0 k f fd ["_law_one_here", "_law_other"] (spAl CU 0) := ⟨fun _ _ _ _ h => spAl_len h, fun _ _ _ _ _ _ _ _ _ _ _ _ _ ⟨_, _, _, _, _, _, _, z, _⟩ => absurd z (Nat.not_lt_zero _)⟩
theorem scLa : FnScope ["_law_one_here", "_law_other", "_law_some", "_law_mine", "_law_its"] ["_law_one_here", "_law_other"] (defScope sLAl) := ⟨rfl, rfl, rfl, by decide +kernel, rfl, by decide +kernel, by decide +kernel⟩
theorem ok_lalike {f fS fP : Addr} {fd dS dP : FuncData} {n k : Nat} (F : Fun K "_law_alike" "_law_alike" sLAl f fd) (T : Txt K mg CU) (GS : FnOk P w K mg base CX0 2 fS dS ["_law_value_here"] (spD CU fun d => .str (lsort d))) (gS : mg "_law_sort" = some (.ref fS)) (kS : PySem.W.keepIn K (.ref fS) = true) (bS : Binds K dS ["_law_value_here"] [])
    (GP : FnOk P w K mg base CX0 3 fP dP ["_law_one_here", "_law_other"] (spParts CU)) (gP : mg "_law_pairs" = some (.ref fP)) (kP : PySem.W.keepIn K (.ref fP) = true) (bP : Binds K dP ["_law_one_here", "_law_other"] [])
    (gK : mg "_law_alike" = some (.ref f)) (bK : Binds K fd ["_law_one_here", "_law_other"] []) (hk : 3 ≤ k) (GK : FnOk P w K mg base CX0 k f fd ["_law_one_here", "_law_other"] (spAl CU n)) : FnOk P w K mg base CX0 (k + 1) f fd ["_law_one_here", "_law_other"] (spAl CU (n + 1)) := by
  have kK := F.kp
  refine F.ok scLa (fun vs H Q E h => spAl_len h) (fun cdv A outer s H vs Q E hr h => ?_)
  obtain ⟨v, u, d, e, rfl, ha, hb, na, rf, kd, kk⟩ := h
  obtain ⟨u1, u2, es, ps, kps, hq⟩ := rf_kids rf kd
  have hr2 : Room 2 _ := hr.mono (Nat.le_trans (by decide) hk)
  have hr3 : Room 3 _ := hr.mono hk
  refine ⟨_, (pss_cons (ps_if (pt_cmpR op_ne (pe_call GS hr2 rfl gS kS bS .nil pass0 (pa_cons (pv 0) pa_nil)) (pe_call GS hr2 rfl gS kS bS .nil pass0 (pa_cons (pv 1) pa_nil)) (nomark _)) (pss_one (ps_ret pe_bl)) pss_nil)
      (pss_cons (ps_if (pt_cmpR op_eq (pe_call GS hr2 rfl gS kS bS .nil pass0 (pa_cons (pv 0) pa_nil)) pe_str (nomark _)) (pss_one (ps_ret pe_bl)) pss_nil)
      (pss_cons (ps_set (i := 2) scLa.nd rfl (Or.inl rfl) (pe_call GP hr3 rfl gP kP bP .nil pass0 (pa_cons (pv 0) (pa_cons (pv 1) pa_nil))))
      (pss_one (ps_ret (pe_and (pe_cmpR op_notN (pv 2) pe_non (nomark _)) (pe_one (pe_callB (cr_all rfl) (by rfl) T.all (by decide +kernel) (pa_cons (pe_lc (own := [("_law_mine", 3), ("_law_its", 4)]) (g := gTup K 2 (gCons (gName 3) (gCons (gName 4) gNil))) (tt := tYes) rfl scLa.nd (pi_list (pv 2)) (blkOk_by (own := [("_law_mine", 3), ("_law_its", 4)]) (N := ["_law_one_here", "_law_other", "_law_some", "_law_mine", "_law_its"]) (sc := (defScope sLAl)) (by decide +kernel)) (fun _ _ _ _ _ => (pg_tup rfl (pgs_cons (pg_name (i := 3) scLa.nd rfl (Or.inl rfl)) (pgs_cons (pg_name (i := 4) scLa.nd rfl (Or.inl rfl)) pgs_nil)))) (fun _ _ _ _ _ => pts_nil) (fun _ _ _ _ _ => (pe_call GK hr rfl gK kK bK .nil pass0 (pa_cons (pv 3) (pa_cons (pv 4) pa_nil))))) pa_nil))))))))), ?_⟩
  refine ⟨_, rfl, v, d, rfl, ha, fun H1 m1 => ⟨_, rfl, u, e, rfl, hb.same m1, fun H2 m2 => ⟨rfl, _, rfl, ?_⟩⟩⟩
  have m12 := m1.trans m2
  rw [decide_eq_true (show V.str (lsort d) = V.str (lsort e) by rw [lsort_k u1, lsort_k u2, es])]
  refine iteF ⟨_, rfl, v, d, rfl, ha.same m12, fun H3 m3 => ⟨rfl, _, rfl, ?_⟩⟩
  have m13 := m12.trans m3
  refine st_no (by rw [lsort_k u1]; exact sort_not_u d) ?_
  refine ⟨_, rfl, _, rfl, v, u, d, e, rfl, ha.same m13, hb.same m13, u1, u2, es, (fun kn => by rw [kps] at kn; cases kn), fun ps2 kps2 p ps' H6 m6 hperm hPL => ?_⟩
  rw [kps] at kps2
  cases kps2
  have ko := kids_of ha.wf hb.wf kps
  refine ⟨_, rfl, rfl, _, rfl, iteT ?_⟩
  obtain ⟨ts, fp, ltp, hpr⟩ := hPL
  refine ⟨_, rfl, p, rfl, ⟨_, SqL.of fp⟩, fun D hD => ?_⟩
  have lps : ts.length ≤ 60 := by rw [ltp, hperm.length_eq]; exact kids_len ha kps
  refine lc_pure walk_list hD (ps'.map fun q => V.bl true) (by rw [List.length_map, List.length_map, ltp]) (by rw [List.length_map]; exact small1000 (by omega)) (fun H' m => SqL.of (m _ _ fp)) (fun i x H7 H8 z hz m hy N hN => ?_) mono_pair (fun H' m f => ?_)
  · obtain ⟨rfl, hx⟩ := hy
    rw [List.getElem?_map] at hx hz
    obtain ⟨t, ht, rfl⟩ := Option.map_eq_some_iff.mp hx
    obtain ⟨q, hqq, rfl⟩ := Option.map_eq_some_iff.mp hz
    obtain ⟨x, y, ft, rx, ry⟩ := hpr i t _ ht hqq
    have mem := hperm.mem_iff.mp (List.mem_of_getElem? hqq)
    obtain ⟨_, _, d1, d2⟩ := ko _ mem
    exact ⟨t, _, rfl, SqT.of (m _ _ ft), rfl, _, _, rfl, _, _, rfl, rfl, rfl, _, rfl, _, rfl, x, y, _, _, rfl, rx.same m, ry.same m, by omega, (hq q mem).1, (hq q mem).2, fun H9 m9 => hN H9 m9⟩
  · rw [show ps'.map (fun q => V.bl true) = (ps'.map fun _ => true).map V.bl from by rw [List.map_map]; rfl] at f
    refine ⟨D, _, rfl, SqL.of f, ?_⟩
    have e : (ps'.map fun _ => true).all id = true := by
      rw [List.all_map, List.all_eq_true]
      intro _ _
      rfl
    rw [e]
    exact kk H' ((m13.trans m6).trans m)
end
end K04

namespace K04
open PySem L2 XR VT
section
variable {CU : Addr}
theorem puts_mem : ∀ {m acc : List (List L2.Key × V)} {q : List L2.Key × V}, q ∈ putsT acc m → q ∈ acc ∨ q ∈ m
  | [], acc, q, h => .inl h
  | p :: m, acc, q, h => by
    rcases puts_mem (m := m) h with h | h
    · rcases put_mem h with h | h
      · exact .inl h
      · exact .inr (by rw [h]; exact List.mem_cons_self)
    · exact .inr (List.mem_cons_of_mem _ h)
theorem put_key {kvs : List (List L2.Key × V)} {k key : List L2.Key} {v : V} (h : (∃ q ∈ kvs, q.1 = key) ∨ k = key) : ∃ q ∈ putK kvs k v, q.1 = key := by
  unfold putK
  split
  · rename_i hk
    rcases h with ⟨q, hq, e⟩ | e
    · refine ⟨_, List.mem_map.mpr ⟨q, hq, rfl⟩, ?_⟩
      split
      · exact e
      · exact e
    · obtain ⟨p, hp, e2⟩ := List.any_eq_true.mp hk
      have e3 := of_decide_eq_true e2
      refine ⟨_, List.mem_map.mpr ⟨p, hp, rfl⟩, ?_⟩
      rw [if_pos e3]
      exact e3.trans e
  · rcases h with ⟨q, hq, e⟩ | e
    · exact ⟨q, List.mem_append_left _ hq, e⟩
    · exact ⟨(k, v), List.mem_append_right _ List.mem_cons_self, e⟩
theorem puts_key {key : List L2.Key} : ∀ {m acc : List (List L2.Key × V)}, (∃ q ∈ acc, q.1 = key) ∨ (∃ q ∈ m, q.1 = key) → ∃ q ∈ putsT acc m, q.1 = key
  | [], acc, h => by
    rcases h with h | ⟨q, hq, _⟩
    · exact h
    · cases hq
  | p :: m, acc, h => by
    refine puts_key (m := m) (acc := putK acc p.1 p.2) ?_
    rcases h with h | ⟨q, hq, e⟩
    · exact .inl (put_key (.inl h))
    · rcases List.mem_cons.mp hq with rfl | hq
      · exact .inl (put_key (.inr e))
      · exact .inr ⟨q, hq, e⟩
theorem look_in : ∀ {nm : Nm} {k : List Str} {d : D}, look nm k = some d → (k, d) ∈ nm
  | (k0, d0) :: nm, k, d, h => by
    unfold look at h
    rw [List.lookup_cons] at h
    split at h
    · rename_i e
      cases h
      rw [eq_of_beq e]
      exact List.mem_cons_self
    · exact List.mem_cons_of_mem _ (look_in (nm := nm) h)
theorem look_some : ∀ {nm : Nm} {k : List Str}, (∃ q ∈ nm, q.1 = k) → ∃ d, look nm k = some d
  | [], k, ⟨_, h, _⟩ => nomatch h
  | (k0, d0) :: nm, k, ⟨q, hq, e⟩ => by
    unfold look
    rw [List.lookup_cons]
    split
    · exact ⟨_, rfl⟩
    · rename_i ne
      rcases List.mem_cons.mp hq with rfl | hq
      · have e' : k0 = k := e
        rw [e', beq_self_eq_true] at ne
        cases ne
      · exact look_some (nm := nm) ⟨q, hq, e⟩
theorem mkt_get : ∀ {nm : Nm} {vs : List V} {i : Nat} {k : List L2.Key} {v : V}, (mkt nm vs)[i]? = some (k, v) → ∃ q, nm[i]? = some q ∧ k = q.1.map Sum.inr ∧ vs[i]? = some v
  | [], _, i, k, v, h => by cases h
  | _ :: _, [], i, k, v, h => by cases h
  | q :: nm, v0 :: vs, 0, k, v, h => by
    have h' : some (q.1.map (Sum.inr : Str → L2.Key), v0) = some (k, v) := h
    cases h'
    exact ⟨q, rfl, rfl, rfl⟩
  | q :: nm, v0 :: vs, i + 1, k, v, h => mkt_get (nm := nm) (vs := vs) (i := i) h
theorem mkt_length {nm : Nm} {vs : List V} (h : vs.length = nm.length) : (mkt nm vs).length = nm.length := by
  unfold mkt
  rw [List.length_map, List.length_zip, h, Nat.min_self]
theorem nok_listP {H : Hp} {Pr : List Str → D → Prop} : ∀ {kvs : List (List L2.Key × V)}, (∀ q ∈ kvs, ∃ (k : List Str) (d : D), q.1 = k.map Sum.inr ∧ Rep CU H q.2 d ∧ Pr k d) → ∃ (nm : Nm) (vs : List V), kvs = mkt nm vs ∧ vs.length = nm.length ∧ nm.length = kvs.length ∧ (∀ q ∈ nm, Pr q.1 q.2) ∧ ∀ (i : Nat) (v : V) (q : List Str × D), vs[i]? = some v → nm[i]? = some q → Rep CU H v q.2
  | [], _ => ⟨[], [], rfl, rfl, rfl, (fun q hq => nomatch hq), (fun i v q h _ => nomatch h)⟩
  | (kk, v) :: kvs, h => by
    obtain ⟨nm, vs, e, l1, l2, g, r⟩ := nok_listP (kvs := kvs) fun q hq => h q (List.mem_cons_of_mem _ hq)
    obtain ⟨k, d, e1, r1, b1⟩ := h _ List.mem_cons_self
    have e1' : kk = k.map Sum.inr := e1
    refine ⟨(k, d) :: nm, v :: vs, ?_, by rw [List.length_cons, List.length_cons, l1], by rw [List.length_cons, List.length_cons, l2], fun q hq => ?_, fun i v' q hv hq => ?_⟩
    · show (kk, v) :: kvs = (k.map Sum.inr, v) :: mkt nm vs
      rw [e1', ← e]
    · rcases List.mem_cons.mp hq with rfl | hq
      · exact b1
      · exact g q hq
    · cases i with
      | zero => cases hv; cases hq; exact r1
      | succ i => exact r i v' q hv hq
theorem mkt_key {nm : Nm} {vs : List V} {key : List L2.Key} (h : ∃ q ∈ mkt nm vs, q.1 = key) : ∃ q ∈ nm, q.1.map Sum.inr = key := by
  obtain ⟨q, hq, e⟩ := h
  obtain ⟨i, hi⟩ := List.mem_iff_getElem?.mp hq
  obtain ⟨q', h1, h2, _⟩ := mkt_get (k := q.1) (v := q.2) hi
  exact ⟨q', List.mem_of_getElem? h1, h2.symm.trans e⟩
/-- a pair of a key and a filled value -/
def FP (CU : Addr) (nm : Nm) (H : Hp) (kk : List Str) (t : Addr) (r : V) : Prop := ∃ (q : Addr) (d d' : D), H t = some (.tup [.ref q, r]) ∧ H q = some (.tup (kk.map V.str)) ∧ Rep CU H r d' ∧ look nm kk = some d ∧ Fl 4 d d'
theorem FP.mono {nm : Nm} {H H' : Hp} {kk : List Str} {t : Addr} {r : V} (h : FP CU nm H kk t r) (m : ∀ a o, H a = some o → Tr CU o → H' a = some o) : FP CU nm H' kk t r :=
  let ⟨q, d, d', h1, h2, h3, h4, h5⟩ := h
  ⟨q, d, d', m _ _ h1 (.inr (.inl ⟨_, rfl⟩)), m _ _ h2 (.inr (.inl ⟨_, rfl⟩)), h3.mono m, h4, h5⟩
theorem fill_names {H : Hp} {nm : Nm} {rs : List V} {ts : List Addr} {pf : Addr} (hn : NH nm) (h60 : nm.length ≤ 60) (lr : rs.length = nm.length) (lt : ts.length = nm.length) (hT : ∀ (j : Nat) (t : Addr) (r : V) (kd : List Str × D), ts[j]? = some t → rs[j]? = some r → nm[j]? = some kd → FP CU nm H kd.1 t r)
    (hp : H pf = some (.dT (putsT [] (mkt nm rs)))) : ∃ nm', NRep CU H pf nm' ∧ NF nm nm' := by
  have all : ∀ q ∈ putsT [] (mkt nm rs), ∃ (k : List Str) (d : D), q.1 = k.map Sum.inr ∧ Rep CU H q.2 d ∧ ∃ d0, look nm k = some d0 ∧ Fl 4 d0 d := fun q hq => by
    rcases puts_mem hq with h | h
    · cases h
    · obtain ⟨i, hi⟩ := List.mem_iff_getElem?.mp h
      obtain ⟨kd, e1, e2, e3⟩ := mkt_get (k := q.1) (v := q.2) hi
      have il : i < ts.length := by rw [lt]; exact (List.getElem?_eq_some_iff.mp e1).1
      obtain ⟨q', d, d', h1, h2, h3, h4, h5⟩ := hT i ts[i] q.2 kd (List.getElem?_eq_getElem il) e3 e1
      exact ⟨kd.1, d', e2, h3, d, h4, h5⟩
  obtain ⟨nm', vs', e, l1, l2, g, r⟩ := nok_listP all
  have l60 : nm'.length ≤ 60 := by
    rw [l2]
    have := length_putsT (mkt nm rs) []
    rw [mkt_length lr, List.length_nil] at this
    omega
  refine ⟨nm', ⟨vs', by rw [← e]; exact hp, l1, l60, r⟩, fun q hq => (hn q hq).1.gd, fun q hq => ?_, hn.ng, fun q hq => ?_, fun k v hk => ?_⟩
  · obtain ⟨d0, _, f⟩ := g q hq
    exact f.bq.gd
  · obtain ⟨d0, _, f⟩ := g q hq
    exact ⟨f.bq.bd, f.dp⟩
  · have hin := look_in hk
    obtain ⟨i, hi⟩ := List.mem_iff_getElem?.mp hin
    have il : i < rs.length := by rw [lr]; exact (List.getElem?_eq_some_iff.mp hi).1
    have hz : (mkt nm rs)[i]? = some (k.map Sum.inr, rs[i]) := by
      unfold mkt
      rw [List.getElem?_map, (List.getElem?_zip_eq_some (z := ((k, v), rs[i]))).mpr ⟨hi, List.getElem?_eq_getElem il⟩]
      rfl
    have hk' := puts_key (key := k.map (Sum.inr : Str → L2.Key)) (acc := []) (m := mkt nm rs) (.inr ⟨_, List.mem_of_getElem? hz, rfl⟩)
    rw [e] at hk'
    obtain ⟨q, hq, eq⟩ := mkt_key hk'
    obtain ⟨v', hv'⟩ := look_some (nm := nm') (k := k) ⟨q, hq, inr_inj eq⟩
    obtain ⟨d0, e0, f⟩ := g _ (look_in hv')
    rw [hk] at e0
    cases e0
    exact ⟨v', hv', f.rf⟩
/-- agrees is True -/
theorem agr_rf {N : Nat} {d d' : D} (h : Rf d d') (w : Wf d) (w' : Wf d') (n : dep d < N) (n' : dep d' < N) : agr (same N d d') = true := by
  rw [same_is N d d' w w' n n', h.may2 (Rf.refl h.kn w') n n']
  unfold res
  rw [if_pos rfl]
  split <;> rfl
theorem known_rf {N : Nat} {d : D} (h : Kn d) (n : dep d < N) : known N d = true := by
  rw [known_is N d n, kn_opn h]
  rfl
theorem TL4.but {H H' : Hp} {w l : Addr} {a b c : V} {o : Except X D} (h : TL4 CU H l o) (m : But w H H') (e : H w = some (.lst [a, b, c])) : TL4 CU H' l o := by
  cases o with
  | ok d =>
    obtain ⟨r, h1, h2⟩ := h
    exact ⟨r, m _ _ h1 (ne_of h1 e (fun z => nomatch z)), h2.but m e tr_lst⟩
  | error x => exact m _ _ h (ne_of h e (fun z => nomatch z))
theorem TL4.same {H H' : Hp} {l : Addr} {o : Except X D} (h : TL4 CU H l o) (m : Same H H') : TL4 CU H' l o := by
  cases o with
  | ok d =>
    obtain ⟨r, h1, h2⟩ := h
    exact ⟨r, m _ _ h1, h2.same m⟩
  | error x => exact m _ _ h
theorem nrep_but {H H' : Hp} {w p : Addr} {l : List V} {nm : Nm} (h : NRep CU H p nm) (m : But w H H') (e : H w = some (.lst l)) : NRep CU H' p nm := let ⟨vs, a, b, c, d⟩ := h; ⟨vs, m _ _ a (ne_of a e (fun z => nomatch z)), b, c, fun i v q h1 h2 => (d i v q h1 h2).but m e tr_lst⟩
end
end K04

namespace K04
open PySem L2 XR VT
abbrev sLaw : Stmt := top 49
def spXU (CU : Addr) : Sp := fun vs H Q E => ∃ j, j ≤ 4 ∧ spX CU (j + 1) vs H Q E
def spLaw (K : PySem.W.Frag) : Sp := fun vs H Q _ => ∃ (a : Addr) (ns : List Int), vs = [.ref a] ∧ SqL K H a (ns.map V.int) ∧ ns.length ≤ 63 ∧ ∀ H', Q (.bl true) H'
theorem cut_ints {ns : List Int} {y : V} {lo hi : Option Int} (h : y ∈ cutV (ns.map V.int) lo hi) : ∃ z, y = V.int z := by
  unfold cutV at h
  obtain ⟨z, _, e⟩ := List.mem_map.mp (List.mem_of_mem_drop (List.mem_of_mem_take h))
  exact ⟨z, e.symm⟩
/-- what stands through the ways -/
structure WSt (CU : Addr) (p pn la : Addr) (v : V) (b0 cb : Int) (nm : Nm) (x : X) (o : Except X D) (q2 : Addr) (L : List V) (H : Hp) : Prop where
  wl : ∃ a' c', Well H p a' b0 c' ∧ c' ≤ cb
  q : H q2 = some (.lst L)
  nr : NRep CU H pn nm
  rv : Rep CU H v (toD x)
  tl : TL4 CU H la o
section
variable {P : Program} {w : World} {K : PySem.W.Frag} {mg : Str → Option Value} {base : Heap} {CU : Addr}
theorem WSt.same {p pn la : Addr} {v : V} {b0 cb : Int} {nm : Nm} {x : X} {o : Except X D} {q2 : Addr} {L : List V} {H H' : Hp} (h : WSt CU p pn la v b0 cb nm x o q2 L H) (m : Same H H') : WSt CU p pn la v b0 cb nm x o q2 L H' :=
  ⟨let ⟨a, c, W, hc⟩ := h.wl; ⟨a, c, W.same m, hc⟩, m _ _ h.q, h.nr.same m, h.rv.same m, h.tl.same m⟩
theorem WSt.step {p pn la : Addr} {v : V} {b0 cb cb' : Int} {nm : Nm} {x : X} {o : Except X D} {q2 : Addr} {L : List V} {H H' : Hp} (h : WSt CU p pn la v b0 cb nm x o q2 L H) (nq : q2 ≠ p) (B : But p H H') {a' c' : Int} (W : Well H' p a' b0 c') (hc : c' ≤ cb') : WSt CU p pn la v b0 cb' nm x o q2 L H' :=
  let ⟨_, _, W0, _⟩ := h.wl
  ⟨⟨a', c', W, hc⟩, B _ _ h.q nq, nrep_but h.nr B W0.at_, W0.rep B h.rv, h.tl.but B W0.at_⟩
theorem FnOk.up {CXX : CXT} {k k' : Nat} {f : Addr} {fd : FuncData} {ps : List Str} {sp : Sp} (h : k ≤ k') (G : FnOk P w K mg base CXX k f fd ps sp) : FnOk P w K mg base CXX k' f fd ps sp :=
  ⟨G.len, fun A o s H args us vs Q E hr e0 hb r hs => G.run A o s H args us vs Q E (hr.mono h) e0 hb r hs⟩
theorem ok_expU {k : Nat} {f : Addr} {fd : FuncData} (G : ∀ j, j ≤ 4 → FnOk P w K mg base CX0 k f fd ["_law_well_here", "_law_deep"] (spX CU (j + 1))) : FnOk P w K mg base CX0 k f fd ["_law_well_here", "_law_deep"] (spXU CU) :=
  ⟨fun vs H Q E ⟨j, hj, h⟩ => spX_len h, fun A o s H args us vs Q E hr e0 hb r ⟨j, hj, h⟩ => (G j hj).run A o s H args us vs Q E hr e0 hb r h⟩
theorem scLw : FnScope ["_law_script", "_law_cell", "_law_well_here", "_law_turn", "_law_names_here", "_law_expression_here", "_law_ahead", "_law_way", "_law_full", "_law_behind", "_law_key"] ["_law_script"] (defScope sLaw) := ⟨rfl, rfl, rfl, by decide +kernel, rfl, by decide +kernel, by decide +kernel⟩
theorem ok_law {f fW fD fN fX fT fF fI fG fP fA : Addr} {fd dW dD dN dX dT dF dI dG dP dA : FuncData} {N n kN kX kT kF kI kG kP kA L : Nat} (F : Fun K "law" "law" sLaw f fd) (T : Txt K mg CU) (mR : mg "range" = none) (hn : 8 < n) (hN : 20 < N)
    (GW : FnOk P w K mg base CX0 1 fW dW ["_law_cell"] spWell) (gW : mg "_law_well" = some (.ref fW)) (kW : PySem.W.keepIn K (.ref fW) = true) (bW : Binds K dW ["_law_cell"] [])
    (GD : FnOk P w K mg base CX0 1 fD dD ["_law_well_here", "_law_below"] spDraw) (gD : mg "_law_draw" = some (.ref fD)) (kD : PySem.W.keepIn K (.ref fD) = true) (bD : Binds K dD ["_law_well_here", "_law_below"] [])
    (GN : FnOk P w K mg base CX0 kN fN dN ["_law_well_here", "_law_dim"] (spNames CU)) (gN : mg "_law_names" = some (.ref fN)) (kN' : PySem.W.keepIn K (.ref fN) = true) (bN : Binds K dN ["_law_well_here", "_law_dim"] [])
    (GX : FnOk P w K mg base CX0 kX fX dX ["_law_well_here", "_law_deep"] (spXU CU)) (gX : mg "_law_expression" = some (.ref fX)) (kX' : PySem.W.keepIn K (.ref fX) = true) (bX : Binds K dX ["_law_well_here", "_law_deep"] [])
    (GT : FnOk P w K mg base CX0 kT fT dT ["_law_expression_here", "_law_names_here"] (spTold CU N n)) (gT : mg "_law_told" = some (.ref fT)) (kT' : PySem.W.keepIn K (.ref fT) = true) (bT : Binds K dT ["_law_expression_here", "_law_names_here"] [])
    (GF : FnOk P w K mg base CX0 kF fF dF ["_law_well_here", "_law_value_here"] (spFill CU 5)) (gF : mg "_law_filled" = some (.ref fF)) (kF' : PySem.W.keepIn K (.ref fF) = true) (bF : Binds K dF ["_law_well_here", "_law_value_here"] [])
    (GI : FnOk P w K mg base CX0 kI fI dI ["value"] (spN CU N fun d => .bl (known N d))) (gI : mg "is_known" = some (.ref fI)) (kI' : PySem.W.keepIn K (.ref fI) = true) (bI : Binds K dI ["value"] [])
    (GG : FnOk P w K mg base CX0 kG fG dG ["planned", "value"] (spAgrees CU N)) (gG : mg "agrees" = some (.ref fG)) (kG' : PySem.W.keepIn K (.ref fG) = true) (bG : Binds K dG ["planned", "value"] [])
    (GP : FnOk P w K mg base CX0 kP fP dP ["_law_value_here"] (spN CU N fun d => .int (opn N d))) (gP : mg "_law_open" = some (.ref fP)) (kP' : PySem.W.keepIn K (.ref fP) = true) (bP : Binds K dP ["_law_value_here"] [])
    (GA : FnOk P w K mg base CX0 kA fA dA ["_law_one_here", "_law_other"] (spAl CU N)) (gA : mg "_law_alike" = some (.ref fA)) (kA' : PySem.W.keepIn K (.ref fA) = true) (bA : Binds K dA ["_law_one_here", "_law_other"] [])
    (l1 : 1 ≤ L) (lN : kN ≤ L) (lX : kX ≤ L) (lT : kT ≤ L) (lF : kF ≤ L) (lI : kI ≤ L) (lG : kG ≤ L) (lP : kP ≤ L) (lA : kA ≤ L) : FnOk P w K mg base CX0 (L + 1) f fd ["_law_script"] (spLaw K) := by
  refine F.ok scLw (fun vs H Q E h => ?_) (fun cdv A outer s H vs Q E hr h => ?_)
  · obtain ⟨a, ns, rfl, _⟩ := h
    rfl
  obtain ⟨a, ns, rfl, hS, hlen, k⟩ := h
  have hr1 : Room 1 _ := hr.mono l1
  have hrN : Room kN _ := hr.mono lN
  have hrX : Room kX _ := hr.mono lX
  have hrT : Room kT _ := hr.mono lT
  have hrF : Room kF _ := hr.mono lF
  have hrI : Room kI _ := hr.mono lI
  have hrG : Room kG _ := hr.mono lG
  have hrP : Room kP _ := hr.mono lP
  have hrA : Room kA _ := hr.mono lA
  have hu := hu_of hr
  have hun := hr.un
  have hu3 : (A.deeper (PyProof.Rows.envOfC "law" (defScope sLaw) s.heap.objs.size f cdv)).units + 3 < cLine := by omega
  have huN : (A.deeper (PyProof.Rows.envOfC "law" (defScope sLaw) s.heap.objs.size f cdv)).units < cLine := by omega
  refine ⟨_, (pss_cons (ps_for PassesOwn.never rfl (pi_list (pe_op op_cat (pe_slice sl_list (pv 0) po_none (po_some pe_int)) (pe_lst (pa_cons pe_int pa_nil)))) (pg_name (i := 1) scLw.nd rfl (Or.inl rfl))
        (pss_cons (ps_set (i := 2) scLw.nd rfl (Or.inr rfl) (pe_call GW hr1 rfl gW kW bW .nil pass0 (pa_cons (pv 1) pa_nil)))
        (pss_one (ps_for PassesOwn.never rfl (pi_range1 (by rfl) mR (pa_cons pe_int pa_nil)) (pg_name (i := 3) scLw.nd rfl (Or.inl rfl))
          (pss_cons (ps_via (ps_set (i := 4) scLw.nd rfl (Or.inr rfl) (pe_call GN hrN rfl gN kN' bN .nil pass0 (pa_cons (pv 2) (pa_cons (pe_op op_add pe_int (pe_call GD hr1 rfl gD kD bD .nil pass0 (pa_cons (pv 2) (pa_cons pe_int pa_nil)))) pa_nil)))))
          (pss_cons (ps_via (ps_set (i := 5) scLw.nd rfl (Or.inl rfl) (pe_call GX hrX rfl gX kX' bX .nil pass0 (pa_cons (pv 2) (pa_cons (pe_op op_add pe_int (pe_call GD hr1 rfl gD kD bD .nil pass0 (pa_cons (pv 2) (pa_cons pe_int pa_nil)))) pa_nil)))))
          (pss_cons (ps_via (ps_set (i := 6) scLw.nd rfl (Or.inl rfl) (pe_call GT hrT rfl gT kT' bT .nil pass0 (pa_cons (pv 5) (pa_cons (pv 4) pa_nil)))))
          (pss_one (ps_for PassesOwn.never rfl (pi_range1 (by rfl) mR (pa_cons pe_int pa_nil)) (pg_name (i := 7) scLw.nd rfl (Or.inl rfl))
            (pss_cons (ps_via (ps_set (i := 8) scLw.nd rfl (Or.inl rfl) (pe_callTy (call_dictPT rfl hu3) (by rfl) T.dict (by decide +kernel) (pa_cons (pe_lock (pe_lc (own := [("_law_key", 10)]) (g := gName 10) (tt := tYes) rfl scLw.nd (pi_keys (pv 4)) (blkOk_by (own := [("_law_key", 10)]) (N := ["_law_script", "_law_cell", "_law_well_here", "_law_turn", "_law_names_here", "_law_expression_here", "_law_ahead", "_law_way", "_law_full", "_law_behind", "_law_key"]) (sc := (defScope sLaw)) (by decide +kernel)) (fun _ _ _ _ _ => pg_name (i := 10) scLw.nd rfl (Or.inl rfl)) (fun _ _ _ _ _ => pts_nil) (fun _ _ _ _ _ => (pe_tup (pa_cons (pv 10) (pa_cons (pe_call GF hrF rfl gF kF' bF .nil pass0 (pa_cons (pv 2) (pa_cons (pe_dget hu (pv 4) (pv 10) (fun _ _ => rfl)) pa_nil))) pa_nil)))))) pa_nil))))
            (pss_cons (ps_via (ps_set (i := 9) scLw.nd rfl (Or.inl rfl) (pe_call GT hrT rfl gT kT' bT .nil pass0 (pa_cons (pv 5) (pa_cons (pv 8) pa_nil)))))
            (pss_cons (ps_if (PW.pt (pw_or (pt_cmpR (op_eqNil huN) (pv 6) (pe_lst pa_nil) (nomark _)) (pw_or1 (pt_cmpR (op_eqNil huN) (pv 9) (pe_lst pa_nil) (nomark _))))) (pss_one ps_continue) pss_nil)
            (pss_cons (ps_if (PW.pt (pw_or (pt_not (pt_val (pe_call GI hrI rfl gI kI' bI .nil pass0 (pa_cons (pe_ix ix_list (pv 9) pe_int (fun _ _ => rfl)) pa_nil)))) (pw_or1 (pt_cmpR op_ne (pe_call GG hrG rfl gG kG' bG .nil pass0 (pa_cons (pe_ix ix_list (pv 6) pe_int (fun _ _ => rfl)) (pa_cons (pe_ix ix_list (pv 9) pe_int (fun _ _ => rfl)) pa_nil))) (pe_cmpR op_eq pe_int pe_int (nomark _)) (nomark _))))) (pss_one (ps_ret pe_bl)) pss_nil)
            (pss_one (ps_if (PW.pt (pw_and (pt_cmpR op_eq (pe_call GP hrP rfl gP kP' bP .nil pass0 (pa_cons (pe_ix ix_list (pv 6) pe_int (fun _ _ => rfl)) pa_nil)) pe_int (nomark _)) (pw_and1 (pt_not (pt_val (pe_call GA hrA rfl gA kA' bA .nil pass0 (pa_cons (pe_ix ix_list (pv 6) pe_int (fun _ _ => rfl)) (pa_cons (pe_ix ix_list (pv 9) pe_int (fun _ _ => rfl)) pa_nil)))))))) (pss_one (ps_ret pe_bl)) pss_nil)))))))))))))))
      (pss_one (ps_ret pe_bl))), ?_⟩
  refine ⟨_, rfl, 8, rfl, a, _, rfl, hS, fun q0 hq0 => ?_⟩
  have m0 := same_new (o := .lst (cutV (ns.map V.int) none (some 8))) hq0
  refine ⟨(by show 1 ≤ sizeLine; decide), fun q1 hq1 => ?_⟩
  have m1 := same_new (o := .lst [.int 0]) hq1
  have lc := cutV_length (ns.map V.int) none (some 8)
  rw [List.length_map] at lc
  refine ⟨q0, q1, _, _, rfl, rfl, m1 _ _ upd_same, upd_same, ?_, fun q2 hq2 => ?_⟩
  · rw [sizeLine_eq]
    show _ + 1 ≤ _
    omega
  have hints : ∀ y ∈ cutV (ns.map V.int) none (some 8) ++ [.int 0], ∃ z, y = V.int z := fun y hy => by
    rcases List.mem_append.mp hy with h | h
    · exact cut_ints h
    · exact ⟨0, by simpa using h⟩
  generalize hLs : cutV (ns.map V.int) none (some 8) ++ [.int 0] = Ls at hints ⊢
  have f2 : (upd _ q2 (.lst Ls)) q2 = _ := at_new hq2
  generalize (upd _ q2 (.lst Ls)) = G2 at f2 ⊢
  clear m0 m1
  refine ⟨q2, rfl, ⟨_, SqL.of f2⟩, for_list (K := K) (a := q2) (xs := Ls)
    (fun i σ H' => H' q2 = some (.lst Ls) ∧ ∃ x1 x2 x3 x4 x5 x6 x7 x8 x9 : Option V, σ = [some (.ref a), x1, x2, x3, x4, x5, x6, x7, x8, x9, none])
    ⟨f2, none, none, none, none, none, none, none, none, none, rfl⟩ (fun i σ H' _ ⟨m, _⟩ => SqL.of m) ?_ ?_⟩
  rotate_left
  · rintro σ H3 ⟨_, x1, x2, x3, x4, x5, x6, x7, x8, x9, rfl⟩
    exact k H3
  rintro i y σ H3 hi ⟨q3, x1, x2, x3, x4, x5, x6, x7, x8, x9, rfl⟩
  obtain ⟨z, rfl⟩ := hints y (List.mem_of_getElem? hi)
  refine ⟨_, rfl, z, rfl, fun p a0 b0 H0 m0 np W0 => ?_⟩
  have nq : q2 ≠ p := ne_of_none q3 np
  have q0' := m0 _ _ q3
  refine ⟨3, rfl, by decide, by decide, for_range (lo := 0) (n := 3)
    (fun j σ H' => ∃ (a' c' : Int) (x3 x4 x5 x6 x7 x8 x9 : Option V), σ = [some (.ref a), some (.int z), some (.ref p), x3, x4, x5, x6, x7, x8, x9, none] ∧ H' q2 = some (.lst Ls) ∧ Well H' p a' b0 c' ∧ c' ≤ 90000000000 * (j : Int))
    ⟨a0, 0, _, _, _, _, _, _, _, rfl, q0', W0, by omega⟩ ?_ ?_⟩
  rotate_left
  · rintro σ H4 ⟨a', c', x3, x4, x5, x6, x7, x8, x9, rfl, hq, _⟩
    exact ⟨hq, _, _, _, _, _, _, _, _, _, rfl⟩
  rintro j σ H4 hj ⟨a4, c4, y3, y4, y5, y6, y7, y8, y9, rfl, fq4, W4, hc4⟩
  have hj3 : (j : Int) ≤ 2 := by omega
  -- names
  refine ⟨fun σ' H' => ∃ (pn : Addr) (nm : Nm) (a' c' : Int), σ' = [some (.ref a), some (.int z), some (.ref p), some (.int (0 + (j : Int))), some (.ref pn), y5, y6, y7, y8, y9, none] ∧ H' q2 = some (.lst Ls) ∧ Well H' p a' b0 c' ∧ c' ≤ c4 + 1001 ∧ NRep CU H' pn nm ∧ NH nm, ?_, ?_⟩
  · refine ⟨_, rfl, _, rfl, p, a4, b0, c4, 4, rfl, W4, by omega, by decide, by decide, fun d1 a5 c5 H5 d10 d15 hc5 W5 B5 => ⟨_, _, rfl, rfl, p, a5, b0, c5, 3 + d1, rfl, W5, by omega, by omega, fun pn nm a6 c6 H6 hc6 W6 B6 hN gn => ?_⟩⟩
    exact ⟨pn, nm, a6, c6, rfl, B6 _ _ (B5 _ _ fq4 nq) nq, W6, by omega, hN, gn⟩
  rintro σ H5 ⟨pn, nm, a5, c5, rfl, fq5, W5, hc5, hN5, hh⟩
  have gn := hh.ng
  -- expression
  refine ⟨fun σ' H' => ∃ (v : V) (x : X) (j' : Nat) (a' c' : Int), σ' = [some (.ref a), some (.int z), some (.ref p), some (.int (0 + (j : Int))), some (.ref pn), some v, y6, y7, y8, y9, none] ∧ H' q2 = some (.lst Ls) ∧ Well H' p a' b0 c' ∧ c' ≤ c5 + 65537 ∧ NRep CU H' pn nm ∧ Rep CU H' v (toD x) ∧ XD j' x ∧ j' ≤ 4, ?_, ?_⟩
  · refine ⟨_, rfl, _, rfl, p, a5, b0, c5, 3, rfl, W5, by omega, by decide, by decide, fun d1 a6 c6 H6 d10 d14 hc6 W6 B6 => ⟨_, _, rfl, rfl, ?_⟩⟩
    obtain ⟨dn, rfl⟩ : ∃ dn : Nat, d1 = dn := ⟨d1.toNat, by omega⟩
    have p4 : (4 : Int) ^ (dn + 2) ≤ 256 := by
      match dn, d14 with
      | 0, _ => decide
      | 1, _ => decide
      | 2, _ => decide
      | n + 3, h => exact absurd h (by omega)
    refine ⟨dn + 2, by omega, p, a6, b0, c6, by show [V.ref p, V.int (2 + (dn : Int))] = [V.ref p, V.int ((dn + 2 : Nat) : Int)]; rw [show (2 : Int) + (dn : Int) = ((dn + 2 : Nat) : Int) from by omega], W6, by omega, fun r x a7 c7 H7 hc7 W7 B7 R7 X7 => ?_⟩
    exact ⟨r, x, dn + 2, a7, c7, rfl, B7 _ _ (B6 _ _ fq5 nq) nq, W7, by omega, nrep_but (nrep_but hN5 B6 W5.at_) B7 W6.at_, R7, X7, by omega⟩
  rintro σ H6 ⟨v, x, j', a6, c6, rfl, fq6, W6, hc6, hN6, Rv, XX, hj'⟩
  have xx := XX.xd
  -- ahead
  refine ⟨fun σ' H' => ∃ la : Addr, σ' = [some (.ref a), some (.int z), some (.ref p), some (.int (0 + (j : Int))), some (.ref pn), some v, some (.ref la), y7, y8, y9, none] ∧ WSt CU p pn la v b0 c6 nm x (wk N nm n x) q2 Ls H', ?_, ?_⟩
  · refine ⟨_, rfl, _, rfl, v, pn, x, nm, rfl, Rv, hN6, XX.g, gn, by omega, by omega, fun la H7 m7 _ T7 => ?_⟩
    exact ⟨la, rfl, ⟨a6, c6, W6.same m7, Int.le_refl _⟩, m7 _ _ fq6, hN6.same m7, Rv.same m7, T7⟩
  rintro σ H7 ⟨la, rfl, S7⟩
  have e4 : FC 4 = 276916820 := by decide
  refine ⟨5, rfl, by decide, by decide, for_range (lo := 0) (n := 5)
    (fun i σ H' => ∃ (x7 x8 x9 : Option V), σ = [some (.ref a), some (.int z), some (.ref p), some (.int (0 + (j : Int))), some (.ref pn), some v, some (.ref la), x7, x8, x9, none] ∧ WSt CU p pn la v b0 (c6 + 16615009200 * (i : Int)) nm x (wk N nm n x) q2 Ls H')
    ⟨_, _, _, rfl, by rw [show c6 + 16615009200 * ((0 : Nat) : Int) = c6 from by omega]; exact S7⟩ ?_ ?_⟩
  rotate_left
  · rintro σ H8 ⟨x7, x8, x9, rfl, S8⟩
    obtain ⟨a8, c8, W8, hc8⟩ := S8.wl
    exact ⟨a8, c8, _, _, _, _, _, _, _, rfl, S8.q, W8, by omega⟩
  rintro i' σ H8 hi' ⟨x7, x8, x9, rfl, S8⟩
  -- full
  refine ⟨fun σ' H' => ∃ (pf : Addr) (nm' : Nm), σ' = [some (.ref a), some (.int z), some (.ref p), some (.int (0 + (j : Int))), some (.ref pn), some v, some (.ref la), some (.int (0 + (i' : Int))), some (.ref pf), x9, none] ∧ WSt CU p pn la v b0 (c6 + 16615009200 * ((i' + 1 : Nat) : Int)) nm x (wk N nm n x) q2 Ls H' ∧ NRep CU H' pf nm' ∧ NF nm nm', ?_, ?_⟩
  · obtain ⟨a8, c8, W8, hc8⟩ := S8.wl
    obtain ⟨vs, hpn, lvs, h60, hrs⟩ := id S8.nr
    have lkv : (mkt nm vs).length = nm.length := mkt_length lvs
    have npw : pn ≠ p := ne_of hpn W8.at_ (fun z => nomatch z)
    refine ⟨pn, _, hpn, trivial, fun od => ?_⟩
    have WL : Well (upd H8 pn (.frz od (.dT (mkt nm vs)))) p a8 b0 c8 := W8.off npw
    have hp0 : (upd H8 pn (.frz od (.dT (mkt nm vs)))) pn = some (.frz od (.dT (mkt nm vs))) := upd_same
    have off : ∀ (i : Nat) (v : V) (q : List Str × D), vs[i]? = some v → nm[i]? = some q → Rep CU (upd H8 pn (.frz od (.dT (mkt nm vs)))) v q.2 := fun i v q e1 e2 => (hrs i v q e1 e2).but But.upd hpn tr_dT
    have bl0 : ∀ H' : Hp, But p (upd H8 pn (.frz od (.dT (mkt nm vs)))) H' → But p H8 (upd H' pn (.dT (mkt nm vs))) := fun H' B => but_lock hpn B
    generalize (upd H8 pn (.frz od (.dT (mkt nm vs)))) = HL at WL hp0 off bl0 ⊢
    refine ⟨_, rfl, pn, od, rfl, .inr ⟨_, hp0, fun D hD => ?_⟩⟩
    have nDw : D ≠ p := Ne.symm (ne_of_none WL.at_ hD)
    have nDp : D ≠ pn := Ne.symm (ne_of_none hp0 hD)
    refine lc_it walk_keysT (fun i H' => But p HL H' ∧ ∃ a' c', Well H' p a' b0 c' ∧ c' ≤ c8 + (i : Int) * 276916820 ∧ ∃ (ts : List Addr) (rs : List V), H' D = some (.lst (ts.map V.ref)) ∧ ts.length = i ∧ rs.length = i ∧ ∀ (j : Nat) (t : Addr) (r : V) (kd : List Str × VT.D), ts[j]? = some t → rs[j]? = some r → nm[j]? = some kd → FP CU nm H' kd.1 t r) ?_ (fun i H' _ z => z.1 _ _ hp0 npw) ?_ ?_
    · exact ⟨But.of (same_new hD), a8, c8, WL.same (same_new hD), by omega, [], [], upd_same, rfl, rfl, fun j t r kd h => nomatch h⟩
    · rintro i xk Ha Hb hi ⟨Bu, a', c', Wl, hcl, ts, rs, hD', hlt, hlr, hT⟩ ⟨rfl, ky, vy, qy, hx, rfl, hqy⟩
      obtain ⟨kd, hkd, rfl, hv1⟩ := mkt_get hx
      rw [lkv] at hi
      have frz := Bu _ _ hp0 npw
      have hrb : ∀ (i : Nat) (v : V) (q : List Str × VT.D), vs[i]? = some v → nm[i]? = some q → Rep CU Hb v q.2 := fun i v q e1 e2 => WL.rep Bu (off i v q e1 e2)
      obtain ⟨d, v', e1, e2, r1⟩ : ∃ d v', look nm kd.1 = some d ∧ valV (mkt nm vs) (kd.1.map Sum.inr) = some v' ∧ Rep CU Hb v' d := by
        rcases mkt_look (k := kd.1) lvs hrb with h | ⟨h, _⟩
        · exact h
        · obtain ⟨d, hd⟩ := look_some ⟨kd, List.mem_of_getElem? hkd, rfl⟩
          rw [hd] at h
          cases h
      obtain ⟨g1, g2⟩ := hh _ (look_in e1)
      have hi60 : (i : Int) ≤ 59 := by omega
      refine ⟨rfl, yes_i ⟨_, rfl, _, rfl, _, rfl, _, rfl, pn, v', rfl, .inr ⟨_, _, qy, .inr ⟨od, frz⟩, rfl, hqy, e2.symm⟩, p, v', d, a', b0, c', rfl, Wl, r1, g2, g1, by rw [e4]; omega, fun r d' a'' c'' H'' hc'' W'' B'' R'' F'' => ?_⟩⟩
      rw [e4] at hc''
      have hDD := B'' _ _ hD' nDw
      refine ⟨(by show 2 ≤ sizeLine; decide), fun t ht => ?_⟩
      have n5 := same_new (o := .tup [.ref qy, r]) ht
      have e5 := at_new (o := .tup [.ref qy, r]) ht
      generalize (upd H'' t (.tup [.ref qy, r])) = H9 at n5 e5 ⊢
      have hD5 := n5 _ _ hDD
      have mD : ∀ y o, H9 y = some o → Tr CU o → (upd H9 D (.lst (ts.map V.ref ++ [.ref t]))) y = some o := fun y o e tr => by
        rw [upd_ne (fun z => by rw [z, hD5] at e; cases e; exact tr_lst tr)]
        exact e
      have mB : ∀ y o, Hb y = some o → Tr CU o → H9 y = some o := fun y o e tr => n5 _ _ (B'' _ _ e (fun z => by rw [z, Wl.at_] at e; cases e; exact tr_lst tr))
      refine ⟨_, hD5, small1000 (by rw [List.length_map]; omega), fun y o e nq => ?_, a'', c'', (W''.same n5).off nDw, ?_, ts ++ [t], rs ++ [r], ?_, by rw [List.length_append, hlt]; rfl, by rw [List.length_append, hlr]; rfl, fun j t' r' kd' hj hj2 hj3 => ?_⟩
      · rw [upd_ne (ne_of_none e hD)]
        exact n5 _ _ (B'' _ _ (Bu _ _ e nq) nq)
      · rw [show ((i + 1 : Nat) : Int) = (i : Int) + 1 from by omega, Int.add_mul]
        omega
      · rw [upd_same, List.map_append]
        rfl
      · by_cases hjl : j < ts.length
        · rw [List.getElem?_append_left hjl] at hj
          rw [List.getElem?_append_left (by omega)] at hj2
          exact (hT j t' r' kd' hj hj2 hj3).mono fun y o e tr => mD y o (mB y o e tr) tr
        · have hlt' := (List.getElem?_eq_some_iff.mp hj).1
          rw [List.length_append] at hlt'
          have hlt2 : j < ts.length + 1 := hlt'
          have : j = i := by omega
          subst this
          rw [List.getElem?_append_right (by omega), hlt, Nat.sub_self] at hj
          rw [List.getElem?_append_right (by omega), hlr, Nat.sub_self] at hj2
          cases hj
          cases hj2
          rw [hkd] at hj3
          cases hj3
          have hq9 := mB _ _ hqy (.inr (.inl ⟨_, rfl⟩))
          rw [keyMap] at hq9
          exact ⟨qy, d, d', mD _ _ e5 (.inr (.inl ⟨_, rfl⟩)), mD _ _ hq9 (.inr (.inl ⟨_, rfl⟩)), (R''.same n5).mono fun y o e tr => mD y o e tr, e1, F''⟩
    rintro H9 ⟨Bu, a9, c9, W9, hc9, ts, rs, hD9, hlt, hlr, hT⟩
    rw [lkv] at hc9 hlt hlr
    have fr := Bu _ _ hp0 npw
    have bl := bl0 _ Bu
    refine ⟨fr, ?_⟩
    have nml : (nm.length : Int) ≤ 60 := by omega
    have hD5 : (upd H9 pn (.dT (mkt nm vs))) D = some (.lst (ts.map V.ref)) := by rw [upd_ne nDp]; exact hD9
    have hT5 : ∀ (j : Nat) (t : Addr) (r : V) (kd : List Str × VT.D), ts[j]? = some t → rs[j]? = some r → nm[j]? = some kd → FP CU nm (upd H9 pn (.dT (mkt nm vs))) kd.1 t r := fun j t r kd h1 h2 h3 => (hT j t r kd h1 h2 h3).mono fun y o e tr => by
      rw [upd_ne (fun z => by rw [z, fr] at e; cases e; rcases tr with ⟨_, q⟩ | ⟨_, q⟩ | ⟨_, q⟩ <;> cases q)]
      exact e
    have S9 : WSt CU p pn la v b0 (c6 + 16615009200 * ((i' + 1 : Nat) : Int)) nm x (wk N nm n x) q2 Ls (upd H9 pn (.dT (mkt nm vs))) := S8.step nq bl (W9.off npw) (by omega)
    generalize (upd H9 pn (.dT (mkt nm vs))) = HU at S9 hD5 hT5 ⊢
    refine ⟨D, ts, mkt nm rs, rfl, SqL.of hD5, paired_of (by rw [mkt_length hlr]; exact hlt) (fun j t kv ht hkv => ?_), fun pf hpf => ?_⟩
    · obtain ⟨k0, v0⟩ := kv
      obtain ⟨kd, g1, rfl, g3⟩ := mkt_get hkv
      obtain ⟨q, d, d', h1, h2, _⟩ := hT5 j t v0 kd ht g3 g1
      exact ⟨q, h1, by rw [keyMap]; exact h2⟩
    · have n6 := same_new (o := .dT (putsT [] (mkt nm rs))) hpf
      have e6 := at_new (o := .dT (putsT [] (mkt nm rs))) hpf
      generalize (upd HU pf (.dT (putsT [] (mkt nm rs)))) = HV at n6 e6 ⊢
      obtain ⟨nm', g1, g2⟩ := fill_names hh h60 hlr hlt (fun j t r kd h1 h2 h3 => (hT5 j t r kd h1 h2 h3).mono fun y o e _ => n6 _ _ e) e6
      exact ⟨pf, nm', rfl, S9.same n6, g1, g2⟩
  rintro σ H9 ⟨pf, nm', rfl, S9, hNf, nf⟩
  -- behind
  refine ⟨fun σ' H' => ∃ lb : Addr, σ' = [some (.ref a), some (.int z), some (.ref p), some (.int (0 + (j : Int))), some (.ref pn), some v, some (.ref la), some (.int (0 + (i' : Int))), some (.ref pf), some (.ref lb), none] ∧ WSt CU p pn la v b0 (c6 + 16615009200 * ((i' + 1 : Nat) : Int)) nm x (wk N nm n x) q2 Ls H' ∧ TL4 CU H' lb (wk N nm' n x), ?_, ?_⟩
  · refine ⟨_, rfl, _, rfl, v, pf, x, nm', rfl, S9.rv, hNf, XX.g, nf.ng', by omega, by omega, fun lb Ht mt _ Tt => ?_⟩
    exact ⟨lb, rfl, S9.same mt, Tt⟩
  rintro σ HA ⟨lb, rfl, SA, TB⟩
  have fin : ∀ H', Same HA H' → ∃ (x7 x8 x9 : Option V), [some (V.ref a), some (.int z), some (.ref p), some (.int (0 + (j : Int))), some (.ref pn), some v, some (.ref la), some (.int (0 + (i' : Int))), some (.ref pf), some (.ref lb), none] = [some (.ref a), some (.int z), some (.ref p), some (.int (0 + (j : Int))), some (.ref pn), some v, some (.ref la), x7, x8, x9, none] ∧ WSt CU p pn la v b0 (c6 + 16615009200 * ((i' + 1 : Nat) : Int)) nm x (wk N nm n x) q2 Ls H' := fun H' m => ⟨_, _, _, rfl, SA.same m⟩
  have TA := SA.tl
  cases e1 : wk N nm n x with
  | error e =>
    rw [e1] at TA
    have TA' : HA la = some (.lst []) := TA
    refine ⟨_, rfl, (by show 0 ≤ sizeLine; decide), fun q hq => ⟨la, q, [], rfl, rfl, SqL.of (same_new hq _ _ TA'), SqL.of upd_same, _, rfl, iteT ?_⟩⟩
    have := fin _ (same_new (o := .lst []) hq)
    rw [e1] at this
    exact this
  | ok d =>
    rw [e1] at TA
    obtain ⟨r, hla, rd⟩ := TA
    refine ⟨_, rfl, (by show 0 ≤ sizeLine; decide), fun q hq => ⟨la, q, [r], rfl, rfl, SqL.of (same_new hq _ _ hla), SqL.of upd_same, _, rfl, iteF ?_⟩⟩
    have n1 := same_new (o := .lst []) hq
    generalize (upd HA q (.lst [])) = HB at n1 ⊢
    cases e2 : wk N nm' n x with
    | error e =>
      rw [e2] at TB
      have TB' : HA lb = some (.lst []) := TB
      refine ⟨_, rfl, (by show 0 ≤ sizeLine; decide), fun q' hq' => ⟨lb, q', [], rfl, rfl, SqL.of (same_new hq' _ _ (n1 _ _ TB')), SqL.of upd_same, _, rfl, iteT ?_⟩⟩
      have := fin _ (n1.trans (same_new (o := .lst []) hq'))
      rw [e1] at this
      exact this
    | ok d' =>
      rw [e2] at TB
      obtain ⟨r', hlb, rd'⟩ := TB
      refine ⟨_, rfl, (by show 0 ≤ sizeLine; decide), fun q' hq' => ⟨lb, q', [r'], rfl, rfl, SqL.of (same_new hq' _ _ (n1 _ _ hlb)), SqL.of upd_same, _, rfl, iteF ?_⟩⟩
      have n2 := n1.trans (same_new (o := .lst []) hq')
      generalize (upd HB q' (.lst [])) = HC at n2 ⊢
      have rf := wk_rf nf n x d d' XX.g XX.g.xk (by omega) hN e1 e2
      have dd := (wk_good gn n x d XX.g (by omega) e1).2
      have dd' := (wk_good nf.ng' n x d' XX.g (by omega) e2).2
      have wd := rd.wf
      have wd' := rd'.wf
      refine ⟨_, rfl, lb, _, 0, _, rfl, rfl, SqL.of (n2 _ _ hlb), atI_nat (j := 0) rfl, r', d', rfl, rd'.same n2, by omega, fun HD m3 => ⟨_, rfl, ?_⟩⟩
      rw [known_rf rf.kn (by omega)]
      refine iteF ?_
      have n3 := n2.trans m3
      refine ⟨_, rfl, la, _, 0, _, rfl, rfl, SqL.of (n3 _ _ hla), atI_nat (j := 0) rfl, _, rfl, lb, _, 0, _, rfl, rfl, SqL.of (n3 _ _ hlb), atI_nat (j := 0) rfl, r, r', d, d', rfl, rd.same n3, rd'.same n3, by omega, by omega, fun HE m4 => ⟨rfl, rfl, _, rfl, ?_⟩⟩
      have n4 := n3.trans m4
      rw [agr_rf rf wd wd' (by omega) (by omega)]
      refine iteF ?_
      refine ⟨_, rfl, la, _, 0, _, rfl, rfl, SqL.of (n4 _ _ hla), atI_nat (j := 0) rfl, r, d, rfl, rd.same n4, by omega, fun HF m5 => ⟨rfl, _, rfl, ?_⟩⟩
      have n5 := n4.trans m5
      have last : ∀ H', Same HA H' → _ := fin
      rw [e1] at last
      by_cases ho : opn N d = 0
      · rw [decide_eq_true (show V.int (opn N d) = V.int 0 by rw [ho]; rfl)]
        refine iteT ⟨_, rfl, la, _, 0, _, rfl, rfl, SqL.of (n5 _ _ hla), atI_nat (j := 0) rfl, _, rfl, lb, _, 0, _, rfl, rfl, SqL.of (n5 _ _ hlb), atI_nat (j := 0) rfl, r, r', d, d', rfl, rd.same n5, rd'.same n5, by omega, rf, opn_kn (n := N) (by omega) ho, fun HG m6 => ⟨_, rfl, iteF ?_⟩⟩
        exact last _ (n5.trans m6)
      · rw [decide_eq_false (show ¬ V.int (opn N d) = V.int 0 from fun z => ho (by have := V.int.inj z; omega))]
        exact iteF (last _ n5)
end
end K04

namespace K04
open PySem L2 XR VT
theorem isC {K : PySem.W.Frag} {C : Addr} (i : PySem.W.isClsIn K C = true) (ty : PySem.W.typeIn K (.ref C) = some (.type "type")) : ((PySem.W.clsIn K C).isSome && PySem.W.typeIn K (.ref C) == some (.type "type")) = true := by
  have i2 : (PySem.W.clsIn K C).isSome = true := i
  rw [i2, ty]
  rfl
theorem kit_tyC {K : PySem.W.Frag} {C : Addr} {t : String} {b : Bool} (i : PySem.W.isClsIn K C = true) (ty : PySem.W.typeIn K (.ref C) = some (.type "type")) (h : (PySem.W.subIn K (.type t) (.ref C)) = some b) : PySem.W.kitOne K (.type t) (.ref C) = some b := by
  show (if (Value.type t == Value.ref C) = true then some true else if ((PySem.W.clsIn K C).isSome && PySem.W.typeIn K (.ref C) == some (.type "type")) = true then PySem.W.subIn K (.type t) (.ref C) else none) = _
  rw [if_neg (by intro z; exact Value.noConfusion (beq_iff_eq.mp z)), if_pos (isC i ty), h]
theorem kit_self {K : PySem.W.Frag} {C : Addr} : PySem.W.kitOne K (.ref C) (.ref C) = some true := by
  show (if (Value.ref C == Value.ref C) = true then some true else if ((PySem.W.clsIn K C).isSome && PySem.W.typeIn K (.ref C) == some (.type "type")) = true then PySem.W.mroIn K C (.ref C) else none) = _
  rw [if_pos (beq_self_eq_true _)]
theorem kit_CT {K : PySem.W.Frag} {C : Addr} {t : String} {b : Bool} (m : PySem.W.kitMeta t = true) (h : PySem.W.mroIn K C (.type t) = some b) : PySem.W.kitOne K (.ref C) (.type t) = some b := by
  show (if (Value.ref C == Value.type t) = true then some true else if PySem.W.kitMeta t = true then PySem.W.mroIn K C (.type t) else none) = _
  rw [if_neg (by intro z; exact Value.noConfusion (beq_iff_eq.mp z)), if_pos m, h]
theorem walk {l : PySem.W.OpenLaw} {q : Program} {loose : List Str} {XP : (Str → Option Value) → Heap → Prop} {YP : World → Heap → Prop} {d : DefRec} {K : Params → PySem.W.Frag} (hn : l.most = some 63) (hdf : d.params.defaults = [])
    (hY : ∀ (w : World) (h : Heap), YP w h → (K w.params).In h)
    (F : ∀ (w : World) (mg : Str → Option Value) (fa : Addr) (h : Heap), (K w.params).In h → h.Ns mainGlobals mg → mg d.name = some (.ref fa) →
      ∃ fd : FuncData, (∀ (s : Shared) (u : Value), BindsTo s fd ⟨[u], []⟩ [("_law_script", u)]) ∧ ∀ base : Heap, (K w.params).In base → base.Ns mainGlobals mg → FnOk l.prog w (K w.params) mg base CX0 60 fa fd ["_law_script"] (spLaw (K w.params))) :
    PySem.W.WalkO q loose XP YP l.row.toRowW d [] (fun f vs => PySem.call f vs) :=
  L2.walk_of (n := 63) (k := 60) (x := "_law_script") (CX := fun _ => CX0) (sp := fun w => spLaw (K w.params)) hn (by decide) hdf ⟨rfl, by decide, by decide⟩ hY F (fun _ _ a ns hl _ hS => ⟨a, ns, rfl, hS, hl, fun _ => rfl⟩) fun _ _ _ _ _ z => z
theorem all_mk {l : PySem.W.OpenLaw} {w : World} {K : PySem.W.Frag} {h : Heap} {mg : Str → Option Value} {fa : Addr} (X : K.In h) (G : h.Ns mainGlobals mg) (hfa : mg "law" = some (.ref fa))
    {CU : Addr}
    {tL tM : Tok}
    {finteg : Addr} {odinteg aninteg : Option Addr} {slinteg : Array (Option Value)} {ocinteg kVinteg dcinteg pminteg ctinteg cdinteg : Value}
    {fname : Addr} {odname anname : Option Addr} {slname : Array (Option Value)} {ocname kVname dcname pmname ctname cdname : Value}
    {ftag : Addr} {odtag antag : Option Addr} {sltag : Array (Option Value)} {octag kVtag dctag pmtag cttag cdtag : Value}
    {fknown : Addr} {odknown anknown : Option Addr} {slknown : Array (Option Value)} {ocknown kVknown dcknown pmknown ctknown cdknown : Value}
    {fagr : Addr} {odagr anagr : Option Addr} {slagr : Array (Option Value)} {ocagr kVagr dcagr pmagr ctagr cdagr : Value}
    {fsort : Addr} {odsort ansort : Option Addr} {slsort : Array (Option Value)} {ocsort kVsort dcsort pmsort ctsort cdsort : Value}
    {fparts : Addr} {odparts anparts : Option Addr} {slparts : Array (Option Value)} {ocparts kVparts dcparts pmparts ctparts cdparts : Value}
    {fsame : Addr} {odsame ansame : Option Addr} {slsame : Array (Option Value)} {ocsame kVsame dcsame pmsame ctsame cdsame : Value}
    {fiss : Addr} {odiss aniss : Option Addr} {sliss : Array (Option Value)} {ociss kViss dciss pmiss ctiss cdiss : Value}
    {fcop : Addr} {odcop ancop : Option Addr} {slcop : Array (Option Value)} {occop kVcop dccop pmcop ctcop cdcop : Value}
    {finn : Addr} {odinn aninn : Option Addr} {slinn : Array (Option Value)} {ocinn kVinn dcinn pminn ctinn cdinn : Value}
    {frek : Addr} {odrek anrek : Option Addr} {slrek : Array (Option Value)} {ocrek kVrek dcrek pmrek ctrek cdrek : Value}
    {fwkd : Addr} {odwkd anwkd : Option Addr} {slwkd : Array (Option Value)} {ocwkd kVwkd dcwkd pmwkd ctwkd cdwkd : Value}
    {ffnd : Addr} {odfnd anfnd : Option Addr} {slfnd : Array (Option Value)} {ocfnd kVfnd dcfnd pmfnd ctfnd cdfnd : Value}
    {fatt : Addr} {odatt anatt : Option Addr} {slatt : Array (Option Value)} {ocatt kVatt dcatt pmatt ctatt cdatt : Value}
    {fpic : Addr} {odpic anpic : Option Addr} {slpic : Array (Option Value)} {ocpic kVpic dcpic pmpic ctpic cdpic : Value}
    {fjoi : Addr} {odjoi anjoi : Option Addr} {sljoi : Array (Option Value)} {ocjoi kVjoi dcjoi pmjoi ctjoi cdjoi : Value}
    {fsiz : Addr} {odsiz ansiz : Option Addr} {slsiz : Array (Option Value)} {ocsiz kVsiz dcsiz pmsiz ctsiz cdsiz : Value}
    {fcho : Addr} {odcho ancho : Option Addr} {slcho : Array (Option Value)} {occho kVcho dccho pmcho ctcho cdcho : Value}
    {fwell : Addr} {odwell anwell : Option Addr} {slwell : Array (Option Value)} {ocwell kVwell dcwell pmwell ctwell cdwell : Value}
    {fdraw : Addr} {oddraw andraw : Option Addr} {sldraw : Array (Option Value)} {ocdraw kVdraw dcdraw pmdraw ctdraw cddraw : Value}
    {fone : Addr} {odone anone : Option Addr} {slone : Array (Option Value)} {ocone kVone dcone pmone ctone cdone : Value}
    {fval : Addr} {odval anval : Option Addr} {slval : Array (Option Value)} {ocval kVval dcval pmval ctval cdval : Value}
    {fltag : Addr} {odltag anltag : Option Addr} {slltag : Array (Option Value)} {ocltag kVltag dcltag pmltag ctltag cdltag : Value}
    {flsort : Addr} {odlsort anlsort : Option Addr} {sllsort : Array (Option Value)} {oclsort kVlsort dclsort pmlsort ctlsort cdlsort : Value}
    {flpairs : Addr} {odlpairs anlpairs : Option Addr} {sllpairs : Array (Option Value)} {oclpairs kVlpairs dclpairs pmlpairs ctlpairs cdlpairs : Value}
    {flopen : Addr} {odlopen anlopen : Option Addr} {sllopen : Array (Option Value)} {oclopen kVlopen dclopen pmlopen ctlopen cdlopen : Value}
    {flalike : Addr} {odlalike anlalike : Option Addr} {sllalike : Array (Option Value)} {oclalike kVlalike dclalike pmlalike ctlalike cdlalike : Value}
    {flexp : Addr} {odlexp anlexp : Option Addr} {sllexp : Array (Option Value)} {oclexp kVlexp dclexp pmlexp ctlexp cdlexp : Value}
    {flnames : Addr} {odlnames anlnames : Option Addr} {sllnames : Array (Option Value)} {oclnames kVlnames dclnames pmlnames ctlnames cdlnames : Value}
    {flfil : Addr} {odlfil anlfil : Option Addr} {sllfil : Array (Option Value)} {oclfil kVlfil dclfil pmlfil ctlfil cdlfil : Value}
    {fltol : Addr} {odltol anltol : Option Addr} {slltol : Array (Option Value)} {ocltol kVltol dcltol pmltol ctltol cdltol : Value}
    {flaw : Addr} {odlaw anlaw : Option Addr} {sllaw : Array (Option Value)} {oclaw kVlaw dclaw pmlaw ctlaw cdlaw : Value}
    {fUEq : Addr} {odUEq anUEq : Option Addr} {slUEq : Array (Option Value)} {ocUEq kVUEq dcUEq pmUEq ctUEq cdUEq : Value}
    {CP CM : Addr}
    {nmM qM : Str} {NsM : Addr} {bsM : List Value} {snM : List Str} {suM : List Value} {abM : Bool} {coM : Option Bool} {ddM : Option Addr} {m0M m1M m2M m3M m5M : Option Value}
    {fMI : Addr} {odMI anMI : Option Addr} {slMI : Array (Option Value)} {ocMI kVMI dcMI pmMI ctMI cdMI : Value}
    (gU : PySem.W.nsIn K mainGlobals "Unknown" = some (some (.ref CU)))
    (c1U : PySem.W.plainGet K CU Str.empty = true)
    (c2U : PySem.W.hasDictIn K CU = true)
    (c3U : PySem.W.plainOver K CU = true)
    (c4U : PySem.W.findIn K (.ref CU) "__setattr__" = some (some (.builtin "object.__setattr__")))
    (mkU : PySem.W.makesIn K CU = true)
    (kpU : PySem.W.keepIn K (.ref CU) = true)
    (inU : PySem.W.findIn K (.ref CU) "__init__" = some (some (.builtin "object.__init__")))
    (i1U : PySem.W.isClsIn K CU = true)
    (i2U : PySem.W.typeIn K (.ref CU) = some (.type "type"))
    (d1U : PySem.W.findIn K (.ref CU) "__class__" = some (some (.builtin "object.__class__")))
    (d2U : PySem.W.specialIn K (.builtin "object.__class__") "__get__" = some (some (.builtin "getset_descriptor.__get__")))
    (d3U : PySem.W.takesIn K (.builtin "object.__class__") = some true)
    (d4U : PySem.W.mroIn K CU (.type "object") = some true)
    (mU_tuple : PySem.W.mroIn K CU (.type "tuple") = some false)
    (mU_bool : PySem.W.mroIn K CU (.type "bool") = some false)
    (mU_int : PySem.W.mroIn K CU (.type "int") = some false)
    (mU_dict : PySem.W.mroIn K CU (.type "dict") = some false)
    (mU_str : PySem.W.mroIn K CU (.type "str") = some false)
    (gL : PySem.W.nsIn K mainGlobals "LETTERS" = some (some (.str "abcdefghijklmnopqrstuvwxyz" tL)))
    (gM : PySem.W.nsIn K mainGlobals "MARK" = some (some (.str "#" tM)))
    (b_isinstance : PySem.W.nsIn K mainGlobals "isinstance" = some none)
    (b_len : PySem.W.nsIn K mainGlobals "len" = some none)
    (b_all : PySem.W.nsIn K mainGlobals "all" = some none)
    (b_zip : PySem.W.nsIn K mainGlobals "zip" = some none)
    (b_tuple : PySem.W.nsIn K mainGlobals "tuple" = some none)
    (b_dict : PySem.W.nsIn K mainGlobals "dict" = some none)
    (b_list : PySem.W.nsIn K mainGlobals "list" = some none)
    (b_bool : PySem.W.nsIn K mainGlobals "bool" = some none)
    (b_int : PySem.W.nsIn K mainGlobals "int" = some none)
    (b_str : PySem.W.nsIn K mainGlobals "str" = some none)
    (b_sorted : PySem.W.nsIn K mainGlobals "sorted" = some none)
    (b_range : PySem.W.nsIn K mainGlobals "range" = some none)
    (b_enumerate : PySem.W.nsIn K mainGlobals "enumerate" = some none)
    (b_sum : PySem.W.nsIn K mainGlobals "sum" = some none)
    (a_integ : PySem.W.nsIn K mainGlobals "is_integer" = some (some (.ref finteg)))
    (linteg : K.lookup finteg = some ⟨ocinteg, odinteg, .func (PySem.W.fnOf "is_integer" "is_integer" (defArgs sInt) (defBody sInt) (defScope sInt) .none kVinteg dcinteg pminteg aninteg cdinteg ctinteg), slinteg⟩)
    (yinteg : PySem.W.codeIn K cdinteg "is_integer" = true)
    (zinteg : PySem.W.keepIn K (.ref finteg) = true)
    (a_name : PySem.W.nsIn K mainGlobals "is_name" = some (some (.ref fname)))
    (lname : K.lookup fname = some ⟨ocname, odname, .func (PySem.W.fnOf "is_name" "is_name" (defArgs sName) (defBody sName) (defScope sName) .none kVname dcname pmname anname cdname ctname), slname⟩)
    (yname : PySem.W.codeIn K cdname "is_name" = true)
    (zname : PySem.W.keepIn K (.ref fname) = true)
    (a_tag : PySem.W.nsIn K mainGlobals "is_tag" = some (some (.ref ftag)))
    (ltag : K.lookup ftag = some ⟨octag, odtag, .func (PySem.W.fnOf "is_tag" "is_tag" (defArgs sTag) (defBody sTag) (defScope sTag) .none kVtag dctag pmtag antag cdtag cttag), sltag⟩)
    (ytag : PySem.W.codeIn K cdtag "is_tag" = true)
    (ztag : PySem.W.keepIn K (.ref ftag) = true)
    (a_known : PySem.W.nsIn K mainGlobals "is_known" = some (some (.ref fknown)))
    (lknown : K.lookup fknown = some ⟨ocknown, odknown, .func (PySem.W.fnOf "is_known" "is_known" (defArgs sKnown) (defBody sKnown) (defScope sKnown) .none kVknown dcknown pmknown anknown cdknown ctknown), slknown⟩)
    (yknown : PySem.W.codeIn K cdknown "is_known" = true)
    (zknown : PySem.W.keepIn K (.ref fknown) = true)
    (a_agr : PySem.W.nsIn K mainGlobals "agrees" = some (some (.ref fagr)))
    (lagr : K.lookup fagr = some ⟨ocagr, odagr, .func (PySem.W.fnOf "agrees" "agrees" (defArgs sAgrees) (defBody sAgrees) (defScope sAgrees) .none kVagr dcagr pmagr anagr cdagr ctagr), slagr⟩)
    (yagr : PySem.W.codeIn K cdagr "agrees" = true)
    (zagr : PySem.W.keepIn K (.ref fagr) = true)
    (a_sort : PySem.W.nsIn K mainGlobals "sort_of" = some (some (.ref fsort)))
    (lsort : K.lookup fsort = some ⟨ocsort, odsort, .func (PySem.W.fnOf "sort_of" "sort_of" (defArgs sSort) (defBody sSort) (defScope sSort) .none kVsort dcsort pmsort ansort cdsort ctsort), slsort⟩)
    (ysort : PySem.W.codeIn K cdsort "sort_of" = true)
    (zsort : PySem.W.keepIn K (.ref fsort) = true)
    (a_parts : PySem.W.nsIn K mainGlobals "parts_of" = some (some (.ref fparts)))
    (lparts : K.lookup fparts = some ⟨ocparts, odparts, .func (PySem.W.fnOf "parts_of" "parts_of" (defArgs sParts) (defBody sParts) (defScope sParts) .none kVparts dcparts pmparts anparts cdparts ctparts), slparts⟩)
    (yparts : PySem.W.codeIn K cdparts "parts_of" = true)
    (zparts : PySem.W.keepIn K (.ref fparts) = true)
    (a_same : PySem.W.nsIn K mainGlobals "same" = some (some (.ref fsame)))
    (lsame : K.lookup fsame = some ⟨ocsame, odsame, .func (PySem.W.fnOf "same" "same" (defArgs sSame) (defBody sSame) (defScope sSame) .none kVsame dcsame pmsame ansame cdsame ctsame), slsame⟩)
    (ysame : PySem.W.codeIn K cdsame "same" = true)
    (zsame : PySem.W.keepIn K (.ref fsame) = true)
    (a_iss : PySem.W.nsIn K mainGlobals "is_same" = some (some (.ref fiss)))
    (liss : K.lookup fiss = some ⟨ociss, odiss, .func (PySem.W.fnOf "is_same" "is_same" (defArgs sIsSame) (defBody sIsSame) (defScope sIsSame) .none kViss dciss pmiss aniss cdiss ctiss), sliss⟩)
    (yiss : PySem.W.codeIn K cdiss "is_same" = true)
    (ziss : PySem.W.keepIn K (.ref fiss) = true)
    (a_cop : PySem.W.nsIn K mainGlobals "copied" = some (some (.ref fcop)))
    (lcop : K.lookup fcop = some ⟨occop, odcop, .func (PySem.W.fnOf "copied" "copied" (defArgs sCop) (defBody sCop) (defScope sCop) .none kVcop dccop pmcop ancop cdcop ctcop), slcop⟩)
    (ycop : PySem.W.codeIn K cdcop "copied" = true)
    (zcop : PySem.W.keepIn K (.ref fcop) = true)
    (a_inn : PySem.W.nsIn K mainGlobals "inner_of" = some (some (.ref finn)))
    (linn : K.lookup finn = some ⟨ocinn, odinn, .func (PySem.W.fnOf "inner_of" "inner_of" (defArgs sInner) (defBody sInner) (defScope sInner) .none kVinn dcinn pminn aninn cdinn ctinn), slinn⟩)
    (yinn : PySem.W.codeIn K cdinn "inner_of" = true)
    (zinn : PySem.W.keepIn K (.ref finn) = true)
    (a_rek : PySem.W.nsIn K mainGlobals "reckon" = some (some (.ref frek)))
    (lrek : K.lookup frek = some ⟨ocrek, odrek, .func (PySem.W.fnOf "reckon" "reckon" (defArgs sReckon) (defBody sReckon) (defScope sReckon) .none kVrek dcrek pmrek anrek cdrek ctrek), slrek⟩)
    (yrek : PySem.W.codeIn K cdrek "reckon" = true)
    (zrek : PySem.W.keepIn K (.ref frek) = true)
    (a_wkd : PySem.W.nsIn K mainGlobals "worked" = some (some (.ref fwkd)))
    (lwkd : K.lookup fwkd = some ⟨ocwkd, odwkd, .func (PySem.W.fnOf "worked" "worked" (defArgs sWorked) (defBody sWorked) (defScope sWorked) .none kVwkd dcwkd pmwkd anwkd cdwkd ctwkd), slwkd⟩)
    (ywkd : PySem.W.codeIn K cdwkd "worked" = true)
    (zwkd : PySem.W.keepIn K (.ref fwkd) = true)
    (a_fnd : PySem.W.nsIn K mainGlobals "found_in" = some (some (.ref ffnd)))
    (lfnd : K.lookup ffnd = some ⟨ocfnd, odfnd, .func (PySem.W.fnOf "found_in" "found_in" (defArgs sFound) (defBody sFound) (defScope sFound) .none kVfnd dcfnd pmfnd anfnd cdfnd ctfnd), slfnd⟩)
    (yfnd : PySem.W.codeIn K cdfnd "found_in" = true)
    (zfnd : PySem.W.keepIn K (.ref ffnd) = true)
    (a_att : PySem.W.nsIn K mainGlobals "attribute_of" = some (some (.ref fatt)))
    (latt : K.lookup fatt = some ⟨ocatt, odatt, .func (PySem.W.fnOf "attribute_of" "attribute_of" (defArgs sAttr) (defBody sAttr) (defScope sAttr) .none kVatt dcatt pmatt anatt cdatt ctatt), slatt⟩)
    (yatt : PySem.W.codeIn K cdatt "attribute_of" = true)
    (zatt : PySem.W.keepIn K (.ref fatt) = true)
    (a_pic : PySem.W.nsIn K mainGlobals "picked" = some (some (.ref fpic)))
    (lpic : K.lookup fpic = some ⟨ocpic, odpic, .func (PySem.W.fnOf "picked" "picked" (defArgs sPick) (defBody sPick) (defScope sPick) .none kVpic dcpic pmpic anpic cdpic ctpic), slpic⟩)
    (ypic : PySem.W.codeIn K cdpic "picked" = true)
    (zpic : PySem.W.keepIn K (.ref fpic) = true)
    (a_joi : PySem.W.nsIn K mainGlobals "joined" = some (some (.ref fjoi)))
    (ljoi : K.lookup fjoi = some ⟨ocjoi, odjoi, .func (PySem.W.fnOf "joined" "joined" (defArgs sJoin) (defBody sJoin) (defScope sJoin) .none kVjoi dcjoi pmjoi anjoi cdjoi ctjoi), sljoi⟩)
    (yjoi : PySem.W.codeIn K cdjoi "joined" = true)
    (zjoi : PySem.W.keepIn K (.ref fjoi) = true)
    (a_siz : PySem.W.nsIn K mainGlobals "size_of" = some (some (.ref fsiz)))
    (lsiz : K.lookup fsiz = some ⟨ocsiz, odsiz, .func (PySem.W.fnOf "size_of" "size_of" (defArgs sSize) (defBody sSize) (defScope sSize) .none kVsiz dcsiz pmsiz ansiz cdsiz ctsiz), slsiz⟩)
    (ysiz : PySem.W.codeIn K cdsiz "size_of" = true)
    (zsiz : PySem.W.keepIn K (.ref fsiz) = true)
    (a_cho : PySem.W.nsIn K mainGlobals "chosen" = some (some (.ref fcho)))
    (lcho : K.lookup fcho = some ⟨occho, odcho, .func (PySem.W.fnOf "chosen" "chosen" (defArgs sChosen) (defBody sChosen) (defScope sChosen) .none kVcho dccho pmcho ancho cdcho ctcho), slcho⟩)
    (ycho : PySem.W.codeIn K cdcho "chosen" = true)
    (zcho : PySem.W.keepIn K (.ref fcho) = true)
    (a_well : PySem.W.nsIn K mainGlobals "_law_well" = some (some (.ref fwell)))
    (lwell : K.lookup fwell = some ⟨ocwell, odwell, .func (PySem.W.fnOf "_law_well" "_law_well" (defArgs sWell) (defBody sWell) (defScope sWell) .none kVwell dcwell pmwell anwell cdwell ctwell), slwell⟩)
    (ywell : PySem.W.codeIn K cdwell "_law_well" = true)
    (zwell : PySem.W.keepIn K (.ref fwell) = true)
    (a_draw : PySem.W.nsIn K mainGlobals "_law_draw" = some (some (.ref fdraw)))
    (ldraw : K.lookup fdraw = some ⟨ocdraw, oddraw, .func (PySem.W.fnOf "_law_draw" "_law_draw" (defArgs sDraw) (defBody sDraw) (defScope sDraw) .none kVdraw dcdraw pmdraw andraw cddraw ctdraw), sldraw⟩)
    (ydraw : PySem.W.codeIn K cddraw "_law_draw" = true)
    (zdraw : PySem.W.keepIn K (.ref fdraw) = true)
    (a_one : PySem.W.nsIn K mainGlobals "_law_one" = some (some (.ref fone)))
    (lone : K.lookup fone = some ⟨ocone, odone, .func (PySem.W.fnOf "_law_one" "_law_one" (defArgs sOne) (defBody sOne) (defScope sOne) .none kVone dcone pmone anone cdone ctone), slone⟩)
    (yone : PySem.W.codeIn K cdone "_law_one" = true)
    (zone : PySem.W.keepIn K (.ref fone) = true)
    (a_val : PySem.W.nsIn K mainGlobals "_law_value" = some (some (.ref fval)))
    (lval : K.lookup fval = some ⟨ocval, odval, .func (PySem.W.fnOf "_law_value" "_law_value" (defArgs sLVal) (defBody sLVal) (defScope sLVal) .none kVval dcval pmval anval cdval ctval), slval⟩)
    (yval : PySem.W.codeIn K cdval "_law_value" = true)
    (zval : PySem.W.keepIn K (.ref fval) = true)
    (a_ltag : PySem.W.nsIn K mainGlobals "_law_is_tag" = some (some (.ref fltag)))
    (lltag : K.lookup fltag = some ⟨ocltag, odltag, .func (PySem.W.fnOf "_law_is_tag" "_law_is_tag" (defArgs sLTag) (defBody sLTag) (defScope sLTag) .none kVltag dcltag pmltag anltag cdltag ctltag), slltag⟩)
    (yltag : PySem.W.codeIn K cdltag "_law_is_tag" = true)
    (zltag : PySem.W.keepIn K (.ref fltag) = true)
    (a_lsort : PySem.W.nsIn K mainGlobals "_law_sort" = some (some (.ref flsort)))
    (llsort : K.lookup flsort = some ⟨oclsort, odlsort, .func (PySem.W.fnOf "_law_sort" "_law_sort" (defArgs sLSort) (defBody sLSort) (defScope sLSort) .none kVlsort dclsort pmlsort anlsort cdlsort ctlsort), sllsort⟩)
    (ylsort : PySem.W.codeIn K cdlsort "_law_sort" = true)
    (zlsort : PySem.W.keepIn K (.ref flsort) = true)
    (a_lpairs : PySem.W.nsIn K mainGlobals "_law_pairs" = some (some (.ref flpairs)))
    (llpairs : K.lookup flpairs = some ⟨oclpairs, odlpairs, .func (PySem.W.fnOf "_law_pairs" "_law_pairs" (defArgs sLPairs) (defBody sLPairs) (defScope sLPairs) .none kVlpairs dclpairs pmlpairs anlpairs cdlpairs ctlpairs), sllpairs⟩)
    (ylpairs : PySem.W.codeIn K cdlpairs "_law_pairs" = true)
    (zlpairs : PySem.W.keepIn K (.ref flpairs) = true)
    (a_lopen : PySem.W.nsIn K mainGlobals "_law_open" = some (some (.ref flopen)))
    (llopen : K.lookup flopen = some ⟨oclopen, odlopen, .func (PySem.W.fnOf "_law_open" "_law_open" (defArgs sLOpen) (defBody sLOpen) (defScope sLOpen) .none kVlopen dclopen pmlopen anlopen cdlopen ctlopen), sllopen⟩)
    (ylopen : PySem.W.codeIn K cdlopen "_law_open" = true)
    (zlopen : PySem.W.keepIn K (.ref flopen) = true)
    (a_lalike : PySem.W.nsIn K mainGlobals "_law_alike" = some (some (.ref flalike)))
    (llalike : K.lookup flalike = some ⟨oclalike, odlalike, .func (PySem.W.fnOf "_law_alike" "_law_alike" (defArgs sLAl) (defBody sLAl) (defScope sLAl) .none kVlalike dclalike pmlalike anlalike cdlalike ctlalike), sllalike⟩)
    (ylalike : PySem.W.codeIn K cdlalike "_law_alike" = true)
    (zlalike : PySem.W.keepIn K (.ref flalike) = true)
    (a_lexp : PySem.W.nsIn K mainGlobals "_law_expression" = some (some (.ref flexp)))
    (llexp : K.lookup flexp = some ⟨oclexp, odlexp, .func (PySem.W.fnOf "_law_expression" "_law_expression" (defArgs sLExp) (defBody sLExp) (defScope sLExp) .none kVlexp dclexp pmlexp anlexp cdlexp ctlexp), sllexp⟩)
    (ylexp : PySem.W.codeIn K cdlexp "_law_expression" = true)
    (zlexp : PySem.W.keepIn K (.ref flexp) = true)
    (a_lnames : PySem.W.nsIn K mainGlobals "_law_names" = some (some (.ref flnames)))
    (llnames : K.lookup flnames = some ⟨oclnames, odlnames, .func (PySem.W.fnOf "_law_names" "_law_names" (defArgs sLNames) (defBody sLNames) (defScope sLNames) .none kVlnames dclnames pmlnames anlnames cdlnames ctlnames), sllnames⟩)
    (ylnames : PySem.W.codeIn K cdlnames "_law_names" = true)
    (zlnames : PySem.W.keepIn K (.ref flnames) = true)
    (a_lfil : PySem.W.nsIn K mainGlobals "_law_filled" = some (some (.ref flfil)))
    (llfil : K.lookup flfil = some ⟨oclfil, odlfil, .func (PySem.W.fnOf "_law_filled" "_law_filled" (defArgs sLFill) (defBody sLFill) (defScope sLFill) .none kVlfil dclfil pmlfil anlfil cdlfil ctlfil), sllfil⟩)
    (ylfil : PySem.W.codeIn K cdlfil "_law_filled" = true)
    (zlfil : PySem.W.keepIn K (.ref flfil) = true)
    (a_ltol : PySem.W.nsIn K mainGlobals "_law_told" = some (some (.ref fltol)))
    (lltol : K.lookup fltol = some ⟨ocltol, odltol, .func (PySem.W.fnOf "_law_told" "_law_told" (defArgs sLTold) (defBody sLTold) (defScope sLTold) .none kVltol dcltol pmltol anltol cdltol ctltol), slltol⟩)
    (yltol : PySem.W.codeIn K cdltol "_law_told" = true)
    (zltol : PySem.W.keepIn K (.ref fltol) = true)
    (a_law : PySem.W.nsIn K mainGlobals "law" = some (some (.ref flaw)))
    (llaw : K.lookup flaw = some ⟨oclaw, odlaw, .func (PySem.W.fnOf "law" "law" (defArgs sLaw) (defBody sLaw) (defScope sLaw) .none kVlaw dclaw pmlaw anlaw cdlaw ctlaw), sllaw⟩)
    (ylaw : PySem.W.codeIn K cdlaw "law" = true)
    (zlaw : PySem.W.keepIn K (.ref flaw) = true)
    (m_UEq : PySem.W.findIn K (.ref CU) "__eq__" = some (some (.ref fUEq)))
    (j_UEq : PySem.W.isFn K (.ref fUEq) = true)
    (lUEq : K.lookup fUEq = some ⟨ocUEq, odUEq, .func (PySem.W.fnOf "__eq__" "Unknown.__eq__" (defArgs sUEq) (defBody sUEq) (defScope sUEq) .none kVUEq dcUEq pmUEq anUEq cdUEq ctUEq), slUEq⟩)
    (yUEq : PySem.W.codeIn K cdUEq "Unknown.__eq__" = true)
    (zUEq : PySem.W.keepIn K (.ref fUEq) = true)
    (aP : PySem.W.nsIn K mainGlobals "PlanError" = some (some (.ref CP)))
    (rP : PySem.W.readsIn K CP (.type "type") = true)
    (gP : PySem.W.specialIn K (.ref CP) "__getattribute__" = some (some (.builtin "type.__getattribute__")))
    (vP : PySem.W.findCls K (.ref CP) (.type "type") "__init__" = some (.val (.builtin "ValueError.__init__")))
    (a_CM : PySem.W.nsIn K mainGlobals "Misfit" = some (some (.ref CM)))
    (xM : K.lookup CM = some (excClassObj nmM qM CM NsM bsM (tail CP) true snM suM abM coM ddM m0M m1M m2M m3M m5M "ValueError.__new__"))
    (sM : PySem.W.findIn K (.ref CM) "__setattr__" = some (some (.builtin "object.__setattr__")))
    (gaM : PySem.W.findIn K (.ref CM) "__getattribute__" = some (some (.builtin "BaseException.__getattribute__")))
    (ggM : PySem.W.findIn K (.ref CM) "__getattr__" = some none)
    (hcM : PySem.W.findIn K (.ref CM) "__class__" = some (some (.builtin "object.__class__")))
    (kpM : PySem.W.keepIn K (.ref CM) = true)
    (tyM : PySem.W.typeIn K (.ref CM) = some (.type "type"))
    (noM : PySem.W.findIn K (.ref CM) "expression" = some none)
    (neM : CM ≠ CP)
    (m_MI : PySem.W.findIn K (.ref CM) "__init__" = some (some (.ref fMI)))
    (j_MI : PySem.W.isFn K (.ref fMI) = true)
    (lMI : K.lookup fMI = some ⟨ocMI, odMI, .func (PySem.W.fnOf "__init__" "Misfit.__init__" (defArgs sMI) (defBody sMI) (defScope sMI) .none kVMI dcMI pmMI anMI cdMI ctMI), slMI⟩)
    (yMI : PySem.W.codeIn K cdMI "Misfit.__init__" = true)
    (zMI : PySem.W.keepIn K (.ref fMI) = true)
    (tI : PySem.W.typeIn K (.ref fMI) = some (.type "function"))
    : ∃ fd : FuncData, (∀ (s : Shared) (v : Value), BindsTo s fd ⟨[v], []⟩ [("_law_script", v)]) ∧ ∀ base : Heap, K.In base → base.Ns mainGlobals mg → FnOk l.prog w K mg base CX0 60 fa fd ["_law_script"] (spLaw K) := by
  have e := hfa.symm.trans (PySem.W.mg_of X G a_law)
  cases e
  have B_isinstance := PySem.W.mg_none_of X G b_isinstance
  have B_len := PySem.W.mg_none_of X G b_len
  have B_all := PySem.W.mg_none_of X G b_all
  have B_zip := PySem.W.mg_none_of X G b_zip
  have B_tuple := PySem.W.mg_none_of X G b_tuple
  have B_dict := PySem.W.mg_none_of X G b_dict
  have B_list := PySem.W.mg_none_of X G b_list
  have B_bool := PySem.W.mg_none_of X G b_bool
  have B_int := PySem.W.mg_none_of X G b_int
  have B_str := PySem.W.mg_none_of X G b_str
  have B_sorted := PySem.W.mg_none_of X G b_sorted
  have B_range := PySem.W.mg_none_of X G b_range
  have B_enumerate := PySem.W.mg_none_of X G b_enumerate
  have B_sum := PySem.W.mg_none_of X G b_sum
  have F_integ := fun_mk (st := sInt) linteg yinteg zinteg
  have B_integ := F_integ.binds (ps := ["thing"]) fun _ _ _ _ _ _ us hl => match us, hl with | [_], _ => rfl
  have F_name := fun_mk (st := sName) lname yname zname
  have B_name := F_name.binds (ps := ["thing"]) fun _ _ _ _ _ _ us hl => match us, hl with | [_], _ => rfl
  have F_tag := fun_mk (st := sTag) ltag ytag ztag
  have B_tag := F_tag.binds (ps := ["thing"]) fun _ _ _ _ _ _ us hl => match us, hl with | [_], _ => rfl
  have F_known := fun_mk (st := sKnown) lknown yknown zknown
  have B_known := F_known.binds (ps := ["value"]) fun _ _ _ _ _ _ us hl => match us, hl with | [_], _ => rfl
  have F_agr := fun_mk (st := sAgrees) lagr yagr zagr
  have B_agr := F_agr.binds (ps := ["planned", "value"]) fun _ _ _ _ _ _ us hl => match us, hl with | [_, _], _ => rfl
  have F_sort := fun_mk (st := sSort) lsort ysort zsort
  have B_sort := F_sort.binds (ps := ["value"]) fun _ _ _ _ _ _ us hl => match us, hl with | [_], _ => rfl
  have F_parts := fun_mk (st := sParts) lparts yparts zparts
  have B_parts := F_parts.binds (ps := ["one", "other"]) fun _ _ _ _ _ _ us hl => match us, hl with | [_, _], _ => rfl
  have F_same := fun_mk (st := sSame) lsame ysame zsame
  have B_same := F_same.binds (ps := ["one", "other"]) fun _ _ _ _ _ _ us hl => match us, hl with | [_, _], _ => rfl
  have F_iss := fun_mk (st := sIsSame) liss yiss ziss
  have B_iss := F_iss.binds (ps := ["one", "other"]) fun _ _ _ _ _ _ us hl => match us, hl with | [_, _], _ => rfl
  have F_cop := fun_mk (st := sCop) lcop ycop zcop
  have B_cop := F_cop.binds (ps := ["value"]) fun _ _ _ _ _ _ us hl => match us, hl with | [_], _ => rfl
  have F_inn := fun_mk (st := sInner) linn yinn zinn
  have B_inn := F_inn.binds (ps := ["expression"]) fun _ _ _ _ _ _ us hl => match us, hl with | [_], _ => rfl
  have F_rek := fun_mk (st := sReckon) lrek yrek zrek
  have B_rek := F_rek.binds (ps := ["expression", "names"]) fun _ _ _ _ _ _ us hl => match us, hl with | [_, _], _ => rfl
  have F_wkd := fun_mk (st := sWorked) lwkd ywkd zwkd
  have B_wkd := F_wkd.binds (ps := ["expression", "names"]) fun _ _ _ _ _ _ us hl => match us, hl with | [_, _], _ => rfl
  have F_fnd := fun_mk (st := sFound) lfnd yfnd zfnd
  have B_fnd := F_fnd.binds (ps := ["expression", "names", "reference"]) fun _ _ _ _ _ _ us hl => match us, hl with | [_, _, _], _ => rfl
  have F_att := fun_mk (st := sAttr) latt yatt zatt
  have B_att := F_att.binds (ps := ["expression", "names"]) fun _ _ _ _ _ _ us hl => match us, hl with | [_, _], _ => rfl
  have F_pic := fun_mk (st := sPick) lpic ypic zpic
  have B_pic := F_pic.binds (ps := ["expression", "value", "key"]) fun _ _ _ _ _ _ us hl => match us, hl with | [_, _, _], _ => rfl
  have F_joi := fun_mk (st := sJoin) ljoi yjoi zjoi
  have B_joi := F_joi.binds (ps := ["expression", "values"]) fun _ _ _ _ _ _ us hl => match us, hl with | [_, _], _ => rfl
  have F_siz := fun_mk (st := sSize) lsiz ysiz zsiz
  have B_siz := F_siz.binds (ps := ["expression", "value"]) fun _ _ _ _ _ _ us hl => match us, hl with | [_, _], _ => rfl
  have F_cho := fun_mk (st := sChosen) lcho ycho zcho
  have B_cho := F_cho.binds (ps := ["expression", "names"]) fun _ _ _ _ _ _ us hl => match us, hl with | [_, _], _ => rfl
  have F_well := fun_mk (st := sWell) lwell ywell zwell
  have B_well := F_well.binds (ps := ["_law_cell"]) fun _ _ _ _ _ _ us hl => match us, hl with | [_], _ => rfl
  have F_draw := fun_mk (st := sDraw) ldraw ydraw zdraw
  have B_draw := F_draw.binds (ps := ["_law_well_here", "_law_below"]) fun _ _ _ _ _ _ us hl => match us, hl with | [_, _], _ => rfl
  have F_one := fun_mk (st := sOne) lone yone zone
  have B_one := F_one.binds (ps := ["_law_well_here", "_law_some"]) fun _ _ _ _ _ _ us hl => match us, hl with | [_, _], _ => rfl
  have F_val := fun_mk (st := sLVal) lval yval zval
  have B_val := F_val.binds (ps := ["_law_well_here", "_law_deep", "_law_dim"]) fun _ _ _ _ _ _ us hl => match us, hl with | [_, _, _], _ => rfl
  have F_ltag := fun_mk (st := sLTag) lltag yltag zltag
  have B_ltag := F_ltag.binds (ps := ["_law_value_here"]) fun _ _ _ _ _ _ us hl => match us, hl with | [_], _ => rfl
  have F_lsort := fun_mk (st := sLSort) llsort ylsort zlsort
  have B_lsort := F_lsort.binds (ps := ["_law_value_here"]) fun _ _ _ _ _ _ us hl => match us, hl with | [_], _ => rfl
  have F_lpairs := fun_mk (st := sLPairs) llpairs ylpairs zlpairs
  have B_lpairs := F_lpairs.binds (ps := ["_law_one_here", "_law_other"]) fun _ _ _ _ _ _ us hl => match us, hl with | [_, _], _ => rfl
  have F_lopen := fun_mk (st := sLOpen) llopen ylopen zlopen
  have B_lopen := F_lopen.binds (ps := ["_law_value_here"]) fun _ _ _ _ _ _ us hl => match us, hl with | [_], _ => rfl
  have F_lalike := fun_mk (st := sLAl) llalike ylalike zlalike
  have B_lalike := F_lalike.binds (ps := ["_law_one_here", "_law_other"]) fun _ _ _ _ _ _ us hl => match us, hl with | [_, _], _ => rfl
  have F_lexp := fun_mk (st := sLExp) llexp ylexp zlexp
  have B_lexp := F_lexp.binds (ps := ["_law_well_here", "_law_deep"]) fun _ _ _ _ _ _ us hl => match us, hl with | [_, _], _ => rfl
  have F_lnames := fun_mk (st := sLNames) llnames ylnames zlnames
  have B_lnames := F_lnames.binds (ps := ["_law_well_here", "_law_dim"]) fun _ _ _ _ _ _ us hl => match us, hl with | [_, _], _ => rfl
  have F_lfil := fun_mk (st := sLFill) llfil ylfil zlfil
  have B_lfil := F_lfil.binds (ps := ["_law_well_here", "_law_value_here"]) fun _ _ _ _ _ _ us hl => match us, hl with | [_, _], _ => rfl
  have F_ltol := fun_mk (st := sLTold) lltol yltol zltol
  have B_ltol := F_ltol.binds (ps := ["_law_expression_here", "_law_names_here"]) fun _ _ _ _ _ _ us hl => match us, hl with | [_, _], _ => rfl
  have F_law := fun_mk (st := sLaw) llaw ylaw zlaw
  have B_law := F_law.binds (ps := ["_law_script"]) fun _ _ _ _ _ _ us hl => match us, hl with | [_], _ => rfl
  have F_UEq := fun_mk (st := sUEq) lUEq yUEq zUEq
  have B_UEq := F_UEq.binds (ps := ["self", "other"]) fun _ _ _ _ _ _ us hl => match us, hl with | [_, _], _ => rfl
  have F_MI := fun_mk (st := sMI) lMI yMI zMI
  have B_MI := F_MI.binds (ps := ["self", "expression"]) fun _ _ _ _ _ _ us hl => match us, hl with | [_, _], _ => rfl
  have A_integ := PySem.W.mg_of X G a_integ
  have A_name := PySem.W.mg_of X G a_name
  have A_tag := PySem.W.mg_of X G a_tag
  have A_known := PySem.W.mg_of X G a_known
  have A_agr := PySem.W.mg_of X G a_agr
  have A_sort := PySem.W.mg_of X G a_sort
  have A_parts := PySem.W.mg_of X G a_parts
  have A_same := PySem.W.mg_of X G a_same
  have A_iss := PySem.W.mg_of X G a_iss
  have A_cop := PySem.W.mg_of X G a_cop
  have A_inn := PySem.W.mg_of X G a_inn
  have A_rek := PySem.W.mg_of X G a_rek
  have A_wkd := PySem.W.mg_of X G a_wkd
  have A_fnd := PySem.W.mg_of X G a_fnd
  have A_att := PySem.W.mg_of X G a_att
  have A_pic := PySem.W.mg_of X G a_pic
  have A_joi := PySem.W.mg_of X G a_joi
  have A_siz := PySem.W.mg_of X G a_siz
  have A_cho := PySem.W.mg_of X G a_cho
  have A_well := PySem.W.mg_of X G a_well
  have A_draw := PySem.W.mg_of X G a_draw
  have A_one := PySem.W.mg_of X G a_one
  have A_val := PySem.W.mg_of X G a_val
  have A_ltag := PySem.W.mg_of X G a_ltag
  have A_lsort := PySem.W.mg_of X G a_lsort
  have A_lpairs := PySem.W.mg_of X G a_lpairs
  have A_lopen := PySem.W.mg_of X G a_lopen
  have A_lalike := PySem.W.mg_of X G a_lalike
  have A_lexp := PySem.W.mg_of X G a_lexp
  have A_lnames := PySem.W.mg_of X G a_lnames
  have A_lfil := PySem.W.mg_of X G a_lfil
  have A_ltol := PySem.W.mg_of X G a_ltol
  have A_law := PySem.W.mg_of X G a_law
  have GU := PySem.W.mg_of X G gU
  have cU : Cls K CU := ⟨c1U, c2U, c3U, c4U⟩
  have kU : ∀ d : D, PySem.W.kitOne K (tyD CU d) (.ref CU) = some (isU d) := fun d => by
    cases d with
    | unk => exact kit_self
    | non => exact kit_tyC i1U i2U rfl
    | bl b => exact kit_tyC i1U i2U rfl
    | int i => exact kit_tyC i1U i2U rfl
    | str x => exact kit_tyC i1U i2U rfl
    | tup l => exact kit_tyC i1U i2U rfl
    | map ks ds => exact kit_tyC i1U i2U rfl
  have kT : ∀ t ∈ tys, PySem.W.kitOne K (.ref CU) (.type t) = some false := fun t ht => by
    simp only [tys, List.mem_cons, List.not_mem_nil, or_false] at ht
    rcases ht with rfl | rfl | rfl | rfl | rfl
    · exact kit_CT (by decide +kernel) mU_tuple
    · exact kit_CT (by decide +kernel) mU_bool
    · exact kit_CT (by decide +kernel) mU_int
    · exact kit_CT (by decide +kernel) mU_dict
    · exact kit_CT (by decide +kernel) mU_str
  have T : Txt K mg CU := ⟨B_isinstance, B_len, B_all, B_zip, B_tuple, B_dict, B_list, B_bool, B_int, B_str, B_sorted, GU, ⟨_, PySem.W.mg_of X G gL⟩, ⟨_, PySem.W.mg_of X G gM⟩, kU, kT, cU, d1U, d2U, d3U, d4U⟩
  have BU : Bare K mg "Unknown" CU := ⟨mkU, inU, kpU, GU⟩
  have U : UCls K CU fUEq := ⟨m_UEq, j_UEq, fun H a dx fs h => .base (.ins h cU d1U d2U d3U d4U), kU (.bl true), kU .unk, mU_bool⟩
  have t0 : Txt0 mg := ⟨B_int, B_len⟩
  refine ⟨PySem.W.fnOf "law" "law" (defArgs sLaw) (defBody sLaw) (defScope sLaw) .none kVlaw dclaw pmlaw anlaw cdlaw ctlaw, fun s v => .of_eq rfl, fun base _ _ => ?_⟩
  have PI : PIni K mg "PlanError" CP (.type "type") := ⟨PySem.W.mg_of X G aP, ⟨rP, gP⟩, vP⟩
  have XM : XcOk K CP CM := ⟨⟨_, _, _, _, _, _, _, _, _, _, _, _, _, _, xM⟩, sM, gaM, ggM, hcM, kpM, tyM⟩
  have NM : New1 l.prog w K mg base CP "Misfit" "expression" CM fMI _ := ⟨XM, PySem.W.mg_of X G a_CM, m_MI, tI, noM, ok_MI F_MI PI XM.oex noM, B_MI⟩
  have oI : FnOk l.prog w K mg base CX0 1 finteg _ ["thing"] _ := ok_int F_integ T
  have oT : FnOk l.prog w K mg base CX0 2 ftag _ ["thing"] _ := ok_tag F_tag T F_name A_name B_name F_integ A_integ B_integ
  have oS : FnOk l.prog w K mg base CX0 3 fsort _ ["value"] _ := ok_sort F_sort T oT A_tag ztag B_tag
  have oP : FnOk l.prog w K mg base CX0 4 fparts _ ["one", "other"] _ := ok_parts F_parts T oS A_sort zsort B_sort
  have oU : FnOk l.prog w K mg base CX0 1 fUEq _ ["self", "other"] _ := ok_ueq F_UEq T
  have oKn : ∀ n, FnOk l.prog w K mg base CX0 (4 + n) fknown _ ["value"] (spN CU n fun d => .bl (known n d)) := fun n => by
    induction n with
    | zero => exact never0
    | succ n ih => exact ok_known (k := 4 + n) F_known T A_known B_known oT A_tag ztag B_tag (Nat.le_trans (by decide) (Nat.le_add_right 4 n)) ih
  have oSm : ∀ n, FnOk l.prog w K mg base CX0 (4 + n) fsame _ ["one", "other"] (spSame CU n) := fun n => by
    induction n with
    | zero => exact same0
    | succ n ih => exact ok_same (k := 4 + n) F_same T BU U oU B_UEq oS A_sort zsort B_sort oP A_parts zparts B_parts A_same B_same (Nat.le_trans (by decide) (Nat.le_add_right 4 n)) ih
  have oAg : FnOk l.prog w K mg base CX0 27 fagr _ ["planned", "value"] (spAgrees CU 22) := ok_agrees F_agr T (oSm 22) A_same zsame B_same
  have oIs : FnOk l.prog w K mg base CX0 27 fiss _ ["one", "other"] (spIsSame CU 22) := ok_issame F_iss (oSm 22) A_same zsame B_same
  have oCo : ∀ n, FnOk l.prog w K mg base CX0 (4 + n) fcop _ ["value"] (spCop CU n) := fun n => by
    induction n with
    | zero => exact cop0
    | succ n ih => exact ok_cop (k := 4 + n) F_cop T A_cop B_cop ih
  have oIn : FnOk l.prog w K mg base CX0 1 finn _ ["expression"] (spInner CU) := ok_inner F_inn T
  have oFo : FnOk l.prog w K mg base (L2.CX l.prog w) 3 ffnd _ ["expression", "names", "reference"] (spFound CU CM) := ok_found F_fnd NM
  have oPi : FnOk l.prog w K mg base (L2.CX l.prog w) 3 fpic _ ["expression", "value", "key"] (spPick CU CM) := ok_pick F_pic T NM oT A_tag ztag B_tag oI A_integ zinteg B_integ
  have oJo : FnOk l.prog w K mg base (L2.CX l.prog w) 3 fjoi _ ["expression", "values"] (spJoin CU CM) := ok_join F_joi T BU NM oI A_integ zinteg B_integ
  have oSi : FnOk l.prog w K mg base (L2.CX l.prog w) 3 fsiz _ ["expression", "value"] (spSize CU CM) := ok_size F_siz T NM oT A_tag ztag B_tag
  have oWk : ∀ n, FnOk l.prog w K mg base (L2.CX l.prog w) (27 + 2 * n) fwkd _ ["expression", "names"] (spWk CU CM 22 n) := fun n => by
    induction n with
    | zero => exact wk0
    | succ n ih =>
      have h3 : 3 ≤ 27 + 2 * n := by omega
      have oAt := ok_attr (P := l.prog) (w := w) (base := base) (N := 22) (n := n) (k := 27 + 2 * n) F_att T NM ih A_wkd zwkd B_wkd oFo A_fnd zfnd B_fnd oPi A_pic zpic B_pic h3
      have oCh := ok_chosen (P := l.prog) (w := w) (base := base) (N := 22) (n := n) (k := 27 + 2 * n) F_cho T BU NM (by decide) ih A_wkd zwkd B_wkd oIs A_iss ziss B_iss (by omega) (by omega)
      exact ok_worked (k := 27 + 2 * n) (kz := 26) F_wkd T (by decide) ih A_wkd B_wkd oAt A_att zatt B_att oCh A_cho zcho B_cho oIn A_inn zinn B_inn oJo A_joi zjoi B_joi oSi A_siz zsiz B_siz (oSm 22) A_same zsame B_same oFo A_fnd zfnd B_fnd oPi A_pic zpic B_pic h3 (by omega)
  have oRe : FnOk l.prog w K mg base (L2.CX l.prog w) 48 frek _ ["expression", "names"] (spWk CU CM 22 10) := ok_reckon (k := 47) F_rek (oWk 10) A_wkd zwkd B_wkd (oCo 22) A_cop zcop B_cop (by decide)
  have oTo : FnOk l.prog w K mg base CX0 49 fltol _ ["_law_expression_here", "_law_names_here"] (spTold CU 22 10) := ok_told F_ltol NM neM oRe A_rek zrek B_rek
  have oLt : FnOk l.prog w K mg base CX0 1 fltag _ ["_law_value_here"] _ := ok_ltag F_ltag T
  have oLs : FnOk l.prog w K mg base CX0 2 flsort _ ["_law_value_here"] _ := ok_lsort F_lsort T oLt A_ltag zltag B_ltag
  have oLp : FnOk l.prog w K mg base CX0 3 flpairs _ ["_law_one_here", "_law_other"] _ := ok_lpairs F_lpairs T B_range oLs A_lsort zlsort B_lsort
  have oLo : ∀ n, FnOk l.prog w K mg base CX0 (4 + n) flopen _ ["_law_value_here"] (spN CU n fun d => .int (opn n d)) := fun n => by
    induction n with
    | zero => exact never0
    | succ n ih => exact ok_lopen (k := 4 + n) F_lopen T B_sum oLs A_lsort zlsort B_lsort A_lopen B_lopen (Nat.le_trans (by decide) (Nat.le_add_right 4 n)) ih
  have oLa : ∀ n, FnOk l.prog w K mg base CX0 (4 + n) flalike _ ["_law_one_here", "_law_other"] (spAl CU n) := fun n => by
    induction n with
    | zero => exact al0
    | succ n ih => exact ok_lalike (k := 4 + n) F_lalike T oLs A_lsort zlsort B_lsort oLp A_lpairs zlpairs B_lpairs A_lalike B_lalike (Nat.le_trans (by decide) (Nat.le_add_right 4 n)) ih
  have oW : FnOk l.prog w K mg base CX0 1 fwell _ ["_law_cell"] _ := ok_well F_well t0
  have oD : FnOk l.prog w K mg base CX0 1 fdraw _ ["_law_well_here", "_law_below"] _ := ok_draw F_draw t0
  have oO : FnOk l.prog w K mg base CX0 2 fone _ ["_law_well_here", "_law_some"] _ := ok_one F_one t0 F_draw A_draw B_draw
  have oV : ∀ n, FnOk l.prog w K mg base CX0 (2 + n) fval _ ["_law_well_here", "_law_deep", "_law_dim"] (spV CU n) := fun n => by
    induction n with
    | zero => exact v0
    | succ n ih => exact ok_val (k := 2 + n) F_val T BU B_range B_enumerate oD A_draw zdraw B_draw oO A_one zone B_one A_val B_val (Nat.le_trans (by decide) (Nat.le_add_right 2 n)) ih
  have oX : ∀ n, FnOk l.prog w K mg base CX0 (5 + n) flexp _ ["_law_well_here", "_law_deep"] (spX CU n) := fun n => by
    induction n with
    | zero => exact x0
    | succ n ih => exact ok_exp (k := 5 + n) (kv := 5) F_lexp T B_range oD A_draw zdraw B_draw oO A_one zone B_one (oV 3) A_val zval B_val A_lexp B_lexp (Nat.le_trans (by decide) (Nat.le_add_right 5 n)) (Nat.le_add_right 5 n) ih
  have oXU : FnOk l.prog w K mg base CX0 10 flexp _ ["_law_well_here", "_law_deep"] (spXU CU) := ok_expU fun j hj => FnOk.up (by omega) (oX (j + 1))
  have oNa : FnOk l.prog w K mg base CX0 6 flnames _ ["_law_well_here", "_law_dim"] (spNames CU) := ok_names (kv := 5) F_lnames T BU B_range B_enumerate oD A_draw zdraw B_draw oO A_one zone B_one (oV 3) (FnOk.up (by decide) (oV 2)) A_val zval B_val (by decide)
  have oFi : ∀ n, FnOk l.prog w K mg base CX0 (5 + n) flfil _ ["_law_well_here", "_law_value_here"] (spFill CU n) := fun n => by
    induction n with
    | zero => exact fill0
    | succ n ih => exact ok_fill (k := 5 + n) (kv := 4) F_lfil T oLs A_lsort zlsort B_lsort oO A_one zone B_one (oV 2) A_val zval B_val A_lfil B_lfil (Nat.le_trans (by decide) (Nat.le_add_right 5 n)) (Nat.le_trans (by decide) (Nat.le_add_right 5 n)) ih
  exact ok_law (L := 59) (kN := 6) (kX := 10) (kT := 49) (kF := 10) (kI := 26) (kG := 27) (kP := 26) (kA := 26) (N := 22) (n := 10) F_law T B_range (by decide) (by decide) oW A_well zwell B_well oD A_draw zdraw B_draw oNa A_lnames zlnames B_lnames oXU A_lexp zlexp B_lexp oTo A_ltol zltol B_ltol (oFi 5) A_lfil zlfil B_lfil (oKn 22) A_known zknown B_known oAg A_agr zagr B_agr (oLo 22) A_lopen zlopen B_lopen (oLa 22) A_lalike zlalike B_lalike (by decide) (by decide) (by decide) (by decide) (by decide) (by decide) (by decide) (by decide) (by decide)
end K04
open PySem PySem.W PyProof.Rows
set_option maxRecDepth 100000 in
set_option maxHeartbeats 0 in
theorem PySem.Challenge.cw_planfirst_k04_whole_known_values_are_rig_holds : PySem.Challenge.rw_planfirst_k04_whole_known_values_are_rig.Holds := by
  w_on; o_law; k_head; (case hw => w_witness2)
  k_fill
  refine K04.walk (l := PySem.Challenge.rw_planfirst_k04_whole_known_values_are_rig) rfl rfl (fun w h Y => PySem.W.kIn_of Y) ?F
  case F =>
    intro w mg fa h KX G hmg
    refine' K04.all_mk KX G hmg ?gU ?c1U ?c2U ?c3U ?c4U ?mkU ?kpU ?inU ?i1U ?i2U ?d1U ?d2U ?d3U ?d4U ?mU_tuple ?mU_bool ?mU_int ?mU_dict ?mU_str ?gL ?gM ?b_isinstance ?b_len ?b_all ?b_zip ?b_tuple ?b_dict ?b_list ?b_bool ?b_int ?b_str ?b_sorted ?b_range ?b_enumerate ?b_sum ?a_integ ?linteg ?yinteg ?zinteg ?a_name ?lname ?yname ?zname ?a_tag ?ltag ?ytag ?ztag ?a_known ?lknown ?yknown ?zknown ?a_agr ?lagr ?yagr ?zagr ?a_sort ?lsort ?ysort ?zsort ?a_parts ?lparts ?yparts ?zparts ?a_same ?lsame ?ysame ?zsame ?a_iss ?liss ?yiss ?ziss ?a_cop ?lcop ?ycop ?zcop ?a_inn ?linn ?yinn ?zinn ?a_rek ?lrek ?yrek ?zrek ?a_wkd ?lwkd ?ywkd ?zwkd ?a_fnd ?lfnd ?yfnd ?zfnd ?a_att ?latt ?yatt ?zatt ?a_pic ?lpic ?ypic ?zpic ?a_joi ?ljoi ?yjoi ?zjoi ?a_siz ?lsiz ?ysiz ?zsiz ?a_cho ?lcho ?ycho ?zcho ?a_well ?lwell ?ywell ?zwell ?a_draw ?ldraw ?ydraw ?zdraw ?a_one ?lone ?yone ?zone ?a_val ?lval ?yval ?zval ?a_ltag ?lltag ?yltag ?zltag ?a_lsort ?llsort ?ylsort ?zlsort ?a_lpairs ?llpairs ?ylpairs ?zlpairs ?a_lopen ?llopen ?ylopen ?zlopen ?a_lalike ?llalike ?ylalike ?zlalike ?a_lexp ?llexp ?ylexp ?zlexp ?a_lnames ?llnames ?ylnames ?zlnames ?a_lfil ?llfil ?ylfil ?zlfil ?a_ltol ?lltol ?yltol ?zltol ?a_law ?llaw ?ylaw ?zlaw ?m_UEq ?j_UEq ?lUEq ?yUEq ?zUEq ?aP ?rP ?gP ?vP ?a_CM ?xM ?sM ?gaM ?ggM ?hcM ?kpM ?tyM ?noM ?neM ?m_MI ?j_MI ?lMI ?yMI ?zMI ?tI
    (case gU => k_is)
    (case c1U => k_is)
    (case c2U => k_is)
    (case c3U => k_is)
    (case c4U => k_is)
    (case mkU => k_is)
    (case kpU => k_is)
    (case inU => k_is)
    (case i1U => k_is)
    (case i2U => k_is)
    (case d1U => k_is)
    (case d2U => k_is)
    (case d3U => k_is)
    (case d4U => k_is)
    (case mU_tuple => k_is)
    (case mU_bool => k_is)
    (case mU_int => k_is)
    (case mU_dict => k_is)
    (case mU_str => k_is)
    (case gL => k_is)
    (case gM => k_is)
    (case b_isinstance => k_is)
    (case b_len => k_is)
    (case b_all => k_is)
    (case b_zip => k_is)
    (case b_tuple => k_is)
    (case b_dict => k_is)
    (case b_list => k_is)
    (case b_bool => k_is)
    (case b_int => k_is)
    (case b_str => k_is)
    (case b_sorted => k_is)
    (case b_range => k_is)
    (case b_enumerate => k_is)
    (case b_sum => k_is)
    (case a_integ => k_is)
    (case linteg => k_is)
    (case yinteg => k_is)
    (case zinteg => k_is)
    (case a_name => k_is)
    (case lname => k_is)
    (case yname => k_is)
    (case zname => k_is)
    (case a_tag => k_is)
    (case ltag => k_is)
    (case ytag => k_is)
    (case ztag => k_is)
    (case a_known => k_is)
    (case lknown => k_is)
    (case yknown => k_is)
    (case zknown => k_is)
    (case a_agr => k_is)
    (case lagr => k_is)
    (case yagr => k_is)
    (case zagr => k_is)
    (case a_sort => k_is)
    (case lsort => k_is)
    (case ysort => k_is)
    (case zsort => k_is)
    (case a_parts => k_is)
    (case lparts => k_is)
    (case yparts => k_is)
    (case zparts => k_is)
    (case a_same => k_is)
    (case lsame => k_is)
    (case ysame => k_is)
    (case zsame => k_is)
    (case a_iss => k_is)
    (case liss => k_is)
    (case yiss => k_is)
    (case ziss => k_is)
    (case a_cop => k_is)
    (case lcop => k_is)
    (case ycop => k_is)
    (case zcop => k_is)
    (case a_inn => k_is)
    (case linn => k_is)
    (case yinn => k_is)
    (case zinn => k_is)
    (case a_rek => k_is)
    (case lrek => k_is)
    (case yrek => k_is)
    (case zrek => k_is)
    (case a_wkd => k_is)
    (case lwkd => k_is)
    (case ywkd => k_is)
    (case zwkd => k_is)
    (case a_fnd => k_is)
    (case lfnd => k_is)
    (case yfnd => k_is)
    (case zfnd => k_is)
    (case a_att => k_is)
    (case latt => k_is)
    (case yatt => k_is)
    (case zatt => k_is)
    (case a_pic => k_is)
    (case lpic => k_is)
    (case ypic => k_is)
    (case zpic => k_is)
    (case a_joi => k_is)
    (case ljoi => k_is)
    (case yjoi => k_is)
    (case zjoi => k_is)
    (case a_siz => k_is)
    (case lsiz => k_is)
    (case ysiz => k_is)
    (case zsiz => k_is)
    (case a_cho => k_is)
    (case lcho => k_is)
    (case ycho => k_is)
    (case zcho => k_is)
    (case a_well => k_is)
    (case lwell => k_is)
    (case ywell => k_is)
    (case zwell => k_is)
    (case a_draw => k_is)
    (case ldraw => k_is)
    (case ydraw => k_is)
    (case zdraw => k_is)
    (case a_one => k_is)
    (case lone => k_is)
    (case yone => k_is)
    (case zone => k_is)
    (case a_val => k_is)
    (case lval => k_is)
    (case yval => k_is)
    (case zval => k_is)
    (case a_ltag => k_is)
    (case lltag => k_is)
    (case yltag => k_is)
    (case zltag => k_is)
    (case a_lsort => k_is)
    (case llsort => k_is)
    (case ylsort => k_is)
    (case zlsort => k_is)
    (case a_lpairs => k_is)
    (case llpairs => k_is)
    (case ylpairs => k_is)
    (case zlpairs => k_is)
    (case a_lopen => k_is)
    (case llopen => k_is)
    (case ylopen => k_is)
    (case zlopen => k_is)
    (case a_lalike => k_is)
    (case llalike => k_is)
    (case ylalike => k_is)
    (case zlalike => k_is)
    (case a_lexp => k_is)
    (case llexp => k_is)
    (case ylexp => k_is)
    (case zlexp => k_is)
    (case a_lnames => k_is)
    (case llnames => k_is)
    (case ylnames => k_is)
    (case zlnames => k_is)
    (case a_lfil => k_is)
    (case llfil => k_is)
    (case ylfil => k_is)
    (case zlfil => k_is)
    (case a_ltol => k_is)
    (case lltol => k_is)
    (case yltol => k_is)
    (case zltol => k_is)
    (case a_law => k_is)
    (case llaw => k_is)
    (case ylaw => k_is)
    (case zlaw => k_is)
    (case m_UEq => k_is)
    (case j_UEq => k_is)
    (case lUEq => k_is)
    (case yUEq => k_is)
    (case zUEq => k_is)
    (case aP => k_is)
    (case rP => k_is)
    (case gP => k_is)
    (case vP => k_is)
    (case a_CM => k_is)
    (case xM => k_is)
    (case sM => k_is)
    (case gaM => k_is)
    (case ggM => k_is)
    (case hcM => k_is)
    (case kpM => k_is)
    (case tyM => k_is)
    (case noM => k_is)
    (case neM => decide)
    (case m_MI => k_is)
    (case j_MI => k_is)
    (case lMI => k_is)
    (case yMI => k_is)
    (case zMI => k_is)
    (case tI => k_is)
