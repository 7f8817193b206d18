import PyProof.Rows.All
import Wide.All
import OpenK.AllK
import Wide.FinOn
import KE.KExcMore
import HandS.ForMost
import HandS.ForExc
import HandS.ExcInit
import HandS.ExcField
import HandS.ExcIs
import HandS.IsInst
import HandS.ExcValue
import HandS.ClsMeth
import HandS.RaiseMore
import HandS.DictComp
import HandS.More
import HandS.Walk
import HandS.Zip0
import HandS.Zip
import KE.KDictZip
import KE.KItemsList
import HandS.ListItems
import HandS.OwnEq
import KE.KDictList
import HandS.Text
import HandS.Words
import PySem.Challenge.RW_planfirst_k01_values_that_are_the_same
set_option Elab.async false
set_option linter.all false
set_option maxRecDepth 100000
set_option maxHeartbeats 4000000
/-! Rules of my own for the hand layer: exceptions of own classes as values that are kept. -/
namespace XR
open PySem PySem.Spec PyProof.Rows L2
section
variable {X : Cx} {pins : List (Addr × Obj)} {σ : L2.St} {H : Hp} {s : Shared}

/-! ### PlanError.__init__(self, ..): the base class is an own class -/
structure PIni (K : PySem.W.Frag) (mg : Str → Option Value) (x : Str) (B : Addr) (mc : Value) : Prop where
  gB : mg x = some (.ref B)
  cr : ClX.CRead K B mc
  vB : PySem.W.findCls K (.ref B) mc "__init__" = some (.val (.builtin "ValueError.__init__"))
theorem pe_pinit {e : Expr} {es : List Expr} {ta : TA} {x : Str} {B : Addr} {mc : Value} {p1 p2 pos : Pos} {pl : Sem Bool} (P : PIni X.K X.mg x B mc) (hg : Gl X x) (ha : PA X (e :: es) ta)
    (hc : eval (.Call (.Attribute (.Name x p1) "__init__" p2) (e :: es) [] pos) X.env = (do
      let o ← eval (.Name x p1) X.env
      standAt p2.atName
      let (f, first) ← holding [o] (getMethod o "__init__" pl)
      callWith pos f first (backTo pos (starEach (e :: es) X.env)) (backToKw pos (keywordEach [] X.env))) := by rfl)
    (he : starEach (e :: es) X.env = (false, eval e X.env) :: starEach es X.env := by rfl) (hpl : (backTo pos (starEach es X.env)).any (·.1) = false := by rfl) (hdb : (x == ("__debug__" : Str)) = false := by decide) :
    PE X (.Call (.Attribute (.Name x p1) "__init__" p2) (e :: es) [] pos) (tVeI X.K ta) := by
  refine ⟨fun pins s σ H Q I h => ?_⟩
  refine PySem.W.methodCall_KW (ld_glob I hg P.gB ?_ hdb) hc
  refine PySem.W.method_cls I.kIn P.cr.ga (PySem.W.cls_value I.kIn P.cr.rd P.vB (by decide +kernel) ?_)
  show wpAny _ _ (callWith pos (Value.builtin "ValueError.__init__") [] (backTo pos (starEach (e :: es) X.env)) []) _ _ _
  refine PyProof.Rows.callWith_method1 (thn (ha.run pos pins _ σ H _ (I.tok _) h) fun us s1 hh => ?_) he hpl
  obtain ⟨vs, H1, I1, r1, a, C, ws, ev, hl, T, ea, q⟩ := hh
  subst ev
  cases r1 with
  | @cons _ u0 _ ur ra rr =>
    obtain rfl : u0 = Value.ref a := ra
    refine oinit_ok T I1 ea ?_ fun s' J => ⟨.non, H1, J, rfl, q⟩
    rw [← Paired.length rr, sizeLine_eq]
    omega

/-! ### C(e, ..) as a value -/
@[irreducible] def tNewO (C : Addr) (sp : Sp) (ta : TA) : TE := fun σ H Q => ta σ H fun vs H1 => vs.length ≤ 1000 ∧ ∀ a, H1 a = none →
  sp (.ref a :: vs) (upd H1 a (exo a C none)) (fun v H2 => v = .non ∧ Q (.ref a) H2) (fun _ _ _ => False)
theorem pe_newO {CX : CXT} {x : Str} {C fI : Addr} {k : Nat} {fd : FuncData} {ps : List Str} {sp : Sp} {e : Expr} {es : List Expr} {ta : TA} {p pos : Pos} (T : OexC X.K C)
    (iC : PySem.W.findIn X.K (.ref C) "__init__" = some (some (.ref fI))) (tI : PySem.W.typeIn X.K (.ref fI) = some (.type "function"))
    (F1 : FnOk X.prog X.w X.K X.mg X.base CX k fI fd ps sp) (hr : Room (k + 1) X.A) (hb : Binds X.K fd ps []) (hx : Passes CX X (fun _ _ _ => False)) (hg : Gl X x) (hm : X.mg x = some (.ref C)) (ha : PA X (e :: es) ta)
    (hdb : (x == ("__debug__" : Str)) = false := by decide) (he : starEach (e :: es) X.env = (false, eval e X.env) :: starEach es X.env := by rfl) (hpl : (backTo pos (starEach es X.env)).any (·.1) = false := by rfl) :
    PE X (.Call (.Name x p) (e :: es) [] pos) (tNewO C sp ta) := by
  refine ⟨fun pins s σ H Q I h => ?_⟩
  unfold tNewO at h
  obtain ⟨nm, q, N, bs, bm, sn, sub, ab, col, dd, k0, k1, k2, k3, k5, hC, hbm⟩ := T.cls
  refine wpAny_Call_Name_kw (ld_glob I hg hm ?_ hdb)
  refine PySem.W.callWith_K (h₀ := X.base) I.ok.mod.kin T.kC (thn (ha.run pos pins s σ H _ I h) fun us s1 hh => ?_) he hpl
  obtain ⟨vs, H1, I1, r1, hz, q1⟩ := hh
  refine ⟨I1.kIn, ?_⟩
  show wpAny _ _ (call (.ref C) us) _ _ _
  obtain ⟨hp, g, dr, tk, os⟩ := s1
  have le1 : hp.objs.size ≤ hp.objs.size + 1 := Nat.le_succ _
  have hq := q1 (hp.objs.size + 1) (I1.hok.fresh le1)
  have keep : ∀ b o, hp.get? b = some o → ((hp.push (PySem.W.kdv_tup us)).push (PySem.HandSPX.excO C hp.objs.size)).get? b = some o := fun b o z => Heap.get?_push_of_some _ (Heap.get?_push_of_some _ z)
  have at1 : ((hp.push (PySem.W.kdv_tup us)).push (PySem.HandSPX.excO C hp.objs.size)).get? (hp.objs.size + 1) = some (PySem.HandSPX.excO C hp.objs.size) := by heap_get
  have I2 : Inv X pins σ (upd H1 (hp.objs.size + 1) (exo (hp.objs.size + 1) C none)) ⟨(hp.push (PySem.W.kdv_tup us)).push (PySem.HandSPX.excO C hp.objs.size), g, dr, tk, os⟩ :=
    I1.laid (t' := tk) (a := hp.objs.size + 1) (o := exo (hp.objs.size + 1) C none) (h' := (hp.push (PySem.W.kdv_tup us)).push (PySem.HandSPX.excO C hp.objs.size)) keep le1 (exo_ok at1)
  have r2 : Vals (V.ref (hp.objs.size + 1) :: vs) (Value.ref (hp.objs.size + 1) :: us) := .cons rfl r1
  have hl : (Value.ref (hp.objs.size + 1) :: us ++ []).length = ps.length := by
    have z := r2.length
    rw [F1.len _ _ _ _ hq] at z
    simpa using z.symm
  have hus : us.length ≤ sizeLine := by
    rw [← Paired.length r1, sizeLine_eq]
    omega
  have hbb := hb _ (Value.ref (hp.objs.size + 1) :: us) I2.kIn hl
  rw [List.append_nil] at hbb
  refine wpAny_call (PySem.HandSPX.call_own F.excBase_ValueError (fun Y => PySem.HandSPX.refsVE_contains Y bm hbm) (I1.kIn _ _ hC) (PySem.W.looks_findIn I1.kIn iC) (fun self => PySem.W.bind_fn I1.kIn self tI) hus
    (codeAny_mono (F1.run _ X.stack _ _ ⟨Value.ref (hp.objs.size + 1) :: us, []⟩ (Value.ref (hp.objs.size + 1) :: us) _ _ (fun _ _ _ => False) (hr.make C us []) (I2.env0.make C us []) hbb r2 hq) fun r s' z => ?_))
  cases r with
  | error er => exact hx pins σ _ _ er s' I2 z
  | ok fl =>
    cases fl with
    | ret u =>
      obtain ⟨v, H2, os2, bare2, un2, hok2, rv, ev, q2⟩ := z
      subst ev
      exact ⟨rv, .ref (hp.objs.size + 1), H2, I2.call' (ch := []) os2 un2 hok2 bare2 (fun b z => absurd z (by simp)), rfl, q2⟩
    | next => exact False.elim z
    | brk => exact False.elim z
    | cont => exact False.elim z

/-! ### e.f, e such a value -/
@[irreducible] def tXget (K : PySem.W.Frag) (f : Str) (te : TE) : TE := fun σ H Q => te σ H fun x H1 => ∃ (a C dx : Addr) (fs : List (Str × V)) (v : V), x = .ref a ∧ XfC K C ∧ PySem.W.findIn K (.ref C) f = some none ∧
  H1 a = some (exo a C (some dx)) ∧ H1 dx = some (exd dx fs) ∧ fs.lookup f = some v ∧ Q v H1
theorem exo_inst {a C dx : Addr} {fs : List (Str × V)} (I : Inv X pins σ H s) (ea : H a = some (exo a C (some dx))) (ed : H dx = some (exd dx fs)) :
    ∃ (t1 : Addr) (od : Obj) (mA : Str → Option Value), PySem.W.InstAt s.heap a { cls := .ref C, dict := some dx, data := .fields #[.ref t1, .none, .none, .none, .bool false, .none] } C (some od) ∧ (∀ f, RelO (fs.lookup f) (mA f)) ∧ ∀ f, PySem.W.lookIn f od = some (mA f) := by
  obtain ⟨t1, ho⟩ := exo_at I.hok ea
  obtain ⟨mA, hns, rel⟩ := exd_at I.hok ed
  obtain ⟨od, hod, hl⟩ := lookIn_ns hns
  exact ⟨t1, od, mA, ⟨ho, rfl, rfl, hod⟩, rel, hl⟩
theorem pe_xget {e : Expr} {te : TE} {f : Str} {pos : Pos} (he : PE X e te) (hb : attributeBase e f X.env (eval e X.env) = eval e X.env := by rfl) : PE X (.Attribute e f pos) (tXget X.K f te) := by
  refine ⟨fun pins s σ H Q I h => ?_⟩
  unfold tXget at h
  refine attr_of hb (thn (he.run pins s σ H _ I h) fun u s1 hh => ?_)
  obtain ⟨x, H1, I1, rx, a, C, dx, fs, v, ex, T, hno, ea, ed, l, q⟩ := hh
  subst ex
  obtain rfl : u = Value.ref a := rx
  obtain ⟨t1, od, mA, J, rel, hl⟩ := exo_inst I1 ea ed
  obtain ⟨u, hu, ru⟩ := RelO.some_of (v := v) (o := mA f) (by rw [← l]; exact rel f)
  exact HandSPX.exc_get I1.kIn J T.ga T.gg T.exC (PySem.W.findObj_own T.hdC hno rfl (by rw [hl, hu])) (handed_of ru) ⟨v, H1, I1.tok _, ru, q⟩
end
end XR

/-! Own errors over PlanError: what is asked of a class, its __init__, raising it. -/
namespace XR
open PySem PySem.Spec PyProof.Rows L2
/-- all but what stands at w is as it was -/
def But (w : Addr) (H H' : Hp) : Prop := ∀ b o, H b = some o → b ≠ w → H' b = some o
theorem But.trans {w : Addr} {H H1 H2 : Hp} (a : But w H H1) (b : But w H1 H2) : But w H H2 := fun c o h n => b c o (a c o h n) n
theorem But.upd {w : Addr} {H : Hp} {o : HO} : But w H (upd H w o) := fun b u e n => by rw [upd_ne n]; exact e
theorem But.of {w : Addr} {H H' : Hp} (m : Same H H') : But w H H' := fun b u e _ => m b u e
theorem But.same {w : Addr} {H G H' : Hp} (m : But w G H') (h : Same H G) (n : H w = none) : Same H H' := fun b o e => m b o (h b o e) (ne_of_none e n)
theorem same_new {p : Addr} {H : Hp} {o : HO} (h : H p = none) : Same H (L2.upd H p o) := fun b u e => by rw [upd_ne (ne_of_none e h)]; exact e
theorem at_new {H : Hp} {a : Addr} {o : HO} (_ : H a = none) : L2.upd H a o a = some o := upd_same
abbrev tail (CP : Addr) : List Value := [.ref CP, .type "ValueError", .type "Exception", .type "BaseException", .type "object"]
structure XcOk (K : PySem.W.Frag) (CP C : Addr) : Prop where
  lk : ∃ nm q N bs sn sub ab col dd k0 k1 k2 k3 k5, K.lookup C = some (excClassObj nm q C N bs (tail CP) true sn sub ab col dd k0 k1 k2 k3 k5 "ValueError.__new__")
  sa : PySem.W.findIn K (.ref C) "__setattr__" = some (some (.builtin "object.__setattr__"))
  ga : PySem.W.findIn K (.ref C) "__getattribute__" = some (some (.builtin "BaseException.__getattribute__"))
  gg : PySem.W.findIn K (.ref C) "__getattr__" = some none
  ha : PySem.W.findIn K (.ref C) "__class__" = some (some (.builtin "object.__class__"))
  kC : PySem.W.keepIn K (.ref C) = true
  tyC : PySem.W.typeIn K (.ref C) = some (.type "type")
structure Cls0 (K : PySem.W.Frag) : Prop where
  hn : PySem.W.specialIn K (.builtin "object.__class__") "__get__" = some (some (.builtin "getset_descriptor.__get__"))
  ht : PySem.W.takesIn K (.builtin "object.__class__") = some true
section
variable {K : PySem.W.Frag} {CP C D : Addr}
theorem XcOk.cls (x : XcOk K CP C) : ∃ cd : ClassData, PySem.W.clsIn K C = some cd ∧ cd.mro = .ref C :: tail CP ∧ cd.hasDict = true := by
  obtain ⟨nm, q, N, bs, sn, sub, ab, col, dd, k0, k1, k2, k3, k5, h⟩ := x.lk
  refine ⟨{ name := nm, bases := bs, mro := .ref C :: tail CP, ns := N, qualname := q, hasDict := true, slotNames := sn, subclasses := sub, abstract := ab, collection := col, hasDel := false }, ?_, rfl, rfl⟩
  unfold PySem.W.clsIn
  rw [h]
theorem XcOk.mro (x : XcOk K CP C) (v : Value) : PySem.W.mroIn K C v = some ((Value.ref C :: tail CP).contains v) := by
  obtain ⟨cd, h1, h2, _⟩ := x.cls
  unfold PySem.W.mroIn
  rw [h1, Option.bind_some, h2]
  rfl
theorem XcOk.sub (x : XcOk K CP C) (v : Value) : PySem.W.subIn K (.ref C) v = some ((Value.ref C :: tail CP).contains v) := x.mro v
theorem XcOk.hd (x : XcOk K CP C) : PySem.W.hasDictIn K C = true := by
  obtain ⟨cd, h1, _, h3⟩ := x.cls
  unfold PySem.W.hasDictIn
  rw [h1]
  exact h3
theorem XcOk.oex (x : XcOk K CP C) : OexC K C := by
  obtain ⟨nm, q, N, bs, sn, sub, ab, col, dd, k0, k1, k2, k3, k5, h⟩ := x.lk
  exact ⟨⟨nm, q, N, bs, tail CP, sn, sub, ab, col, dd, k0, k1, k2, k3, k5, h, rfl⟩, x.sa, (x.sub _).trans (congrArg some (by rfl)), x.tyC, x.kC⟩
theorem XcOk.xf (x : XcOk K CP C) : XfC K C := ⟨x.ga, x.gg, (x.sub _).trans (congrArg some (by rfl)), x.hd⟩
theorem XcOk.isCls (x : XcOk K CP C) : ((PySem.W.clsIn K C).isSome && PySem.W.typeIn K (.ref C) == some (.type "type")) = true := by
  obtain ⟨cd, h1, _⟩ := x.cls
  rw [h1, x.tyC]
  rfl
/-- except D, of an error of the class C -/
theorem XcOk.exm (x : XcOk K CP C) (y : XcOk K CP D) (hp : D ≠ CP) : PySem.W.exmOne K (.ref C) (.ref D) = some (decide (C = D)) := by
  have e1 : (PySem.W.subIn K (.ref D) (.type "BaseException") == some true) = true := by
    rw [y.sub]
    rfl
  show (if (PySem.W.subIn K (.ref D) (.type "BaseException") == some true) = true then (if ((PySem.W.clsIn K D).isSome && PySem.W.typeIn K (.ref D) == some (.type "type")) = true then PySem.W.subIn K (.ref C) (.ref D) else none) else none) = _
  rw [if_pos e1, if_pos y.isCls, x.sub]
  congr 1
  by_cases e : C = D
  · subst e
    simp
  · have b1 : (Value.ref D == Value.ref C) = false := beq_eq_false_iff_ne.mpr fun z => e (Value.ref.inj z).symm
    have b2 : (Value.ref D == Value.ref CP) = false := beq_eq_false_iff_ne.mpr fun z => hp (Value.ref.inj z)
    rw [List.contains_cons, List.contains_cons, b1, b2, decide_eq_false e]
    rfl
end
def spI (C : Addr) (fld : Str) : Sp := fun vs H Q _ => ∃ (a : Addr) (v : V), vs = [.ref a, v] ∧ H a = some (exo a C none) ∧
  ∀ (dx : Addr) (H' : Hp), H dx = none → dx ≠ a → H' = upd (upd H dx (exd dx [(fld, v)])) a (exo a C (some dx)) → Q .non H'
/-- an error of one value -/
structure New1 (P : Program) (w : World) (K : PySem.W.Frag) (mg : Str → Option Value) (base : Heap) (CP : Addr) (x fld : Str) (C fI : Addr) (fd : FuncData) : Prop where
  xc : XcOk K CP C
  g : mg x = some (.ref C)
  iC : PySem.W.findIn K (.ref C) "__init__" = some (some (.ref fI))
  tI : PySem.W.typeIn K (.ref fI) = some (.type "function")
  no : PySem.W.findIn K (.ref C) fld = some none
  ok : FnOk P w K mg base CX0 1 fI fd ["self", fld] (spI C fld)
  b : Binds K fd ["self", fld] []
/-- raise C(v): the way out -/
@[irreducible] def RaiseK (C : Addr) (fld : Str) (v : V) (H : Hp) (Q : XK) : Prop := [v].length ≤ 1000 ∧ ∀ a, H a = none → spI C fld (.ref a :: ([v] ++ [])) (upd H a (exo a C none))
  (fun u H2 => u = .non ∧ ∃ (d : Addr) (fs : List (Str × V)), H2 a = some (exo a C (some d)) ∧ H2 d = some (exd d fs) ∧ H d = none ∧ Q (.ref C) (some d) (upd (del H2 a) d (.xd fs))) (fun _ _ _ => False)
theorem raiseK {C : Addr} {fld : Str} {v : V} {H : Hp} {Q : XK} (h : ∀ (d : Addr) (H' : Hp), H d = none → Same H H' → H' d = some (.xd [(fld, v)]) → Q (.ref C) (some d) H') : RaiseK C fld v H Q := by
  unfold RaiseK
  refine ⟨(by show 1 ≤ 1000; decide), fun a ha => ⟨a, v, rfl, upd_same, fun dx H' hd hne e => ⟨rfl, dx, [(fld, v)], ?_, ?_, ?_, ?_⟩⟩⟩
  · rw [e, upd_same]
  · rw [e, upd_ne hne, upd_same]
  · rw [upd_ne hne] at hd
    exact hd
  · rw [upd_ne hne] at hd
    refine h dx _ hd (fun b o z => ?_) upd_same
    have n1 := ne_of_none z ha
    have n2 := ne_of_none z hd
    rw [upd_ne n2, del_ne n1, e, upd_ne n1, upd_ne n2, upd_ne n1]
    exact z
def tRaiseI (C : Addr) (fld : Str) (W : WX) (te : TE) : TS := fun _ σ H => te σ H fun v H1 => RaiseK C fld v H1 fun cls d H' => W cls d σ H'
section
variable {X : Cx}
theorem ps_raiseI {x fld : Str} {CP C fI : Addr} {fd : FuncData} {e : Expr} {te : TE} {W : WX} {p pos pos2 : Pos} (N : New1 X.prog X.w X.K X.mg X.base CP x fld C fI fd) (hc : X.calm = true) (hr : Room 2 X.A) (tk : Takes X W) (hg : Gl X x) (he : PE X e te)
    (hdb : (x == ("__debug__" : Str)) = false := by decide) (h1 : starEach [e] X.env = (false, eval e X.env) :: starEach [] X.env := by rfl) (hpl : (backTo pos (starEach [] X.env)).any (·.1) = false := by rfl) :
    PS X (.Raise (some (.Call (.Name x p) [e] [] pos)) none pos2) (tRaiseI C fld W te) := by
  have M := pmk_oex (X := X) (pos := pos) (p := p) N.xc.oex N.iC N.tI N.ok hr N.b .nil (fun _ _ _ _ _ _ _ z => z.elim) hg N.g (pa_cons he pa_nil h1) hdb h1 hpl
  have R := ps_raise (pos := pos2) hc tk M
  have e : tRaiseI C fld W te = fun _ σ H => tMkO C (spI C fld) [] (tCons te tNil) σ H fun cls d H' => W cls d σ H' := by
    unfold tRaiseI RaiseK
    rfl
  rw [e]
  exact R
end
end XR

/-! value trees -/
namespace VT
open PySem L2 XR
inductive D where
  | non
  | bl (b : Bool)
  | int (i : Int)
  | str (x : Str)
  | unk
  | tup (l : List D)
  | map (ks : List Str) (ds : List D)
mutual
def dep : D → Nat
  | .tup l => depL l + 1
  | .map _ ds => depL ds + 1
  | _ => 0
def depL : List D → Nat
  | [] => 0
  | d :: r => max (dep d) (depL r)
end
mutual
def sz : D → Nat
  | .tup l => szL l + 1
  | .map _ ds => szL ds + 1
  | _ => 0
def szL : List D → Nat
  | [] => 0
  | d :: r => sz d + 1 + szL r
end
theorem dep_mem : ∀ {l : List D} {d : D}, d ∈ l → dep d ≤ depL l
  | x :: r, d, h => by
    rw [depL]
    rcases List.mem_cons.mp h with rfl | h
    · exact Nat.le_max_left _ _
    · exact Nat.le_trans (dep_mem h) (Nat.le_max_right _ _)
theorem depL_le {n : Nat} : ∀ {l : List D}, (∀ d ∈ l, dep d ≤ n) → depL l ≤ n
  | [], _ => Nat.zero_le _
  | x :: r, h => by
    rw [depL]
    exact Nat.max_le.mpr ⟨h x List.mem_cons_self, depL_le fun d hd => h d (List.mem_cons_of_mem _ hd)⟩
theorem sz_mem : ∀ {l : List D} {d : D}, d ∈ l → sz d < szL l
  | x :: r, d, h => by
    rw [szL]
    rcases List.mem_cons.mp h with rfl | h
    · omega
    · have := sz_mem h
      omega
/-- a dict of texts -/
def mkv (ks : List Str) (vs : List V) : List (Key × V) := (ks.zip vs).map fun p => (Sum.inr p.1, p.2)
theorem mkv_length {ks : List Str} {vs : List V} (h : ks.length = vs.length) : (mkv ks vs).length = ks.length := by
  unfold mkv
  rw [List.length_map, List.length_zip, ← h, Nat.min_self]
theorem mkv_keys : ∀ {ks : List Str} {vs : List V}, ks.length = vs.length → (mkv ks vs).map (·.1) = ks.map Sum.inr
  | [], [], _ => rfl
  | k :: ks, v :: vs, h => by
    show (Sum.inr k : Key) :: (mkv ks vs).map (·.1) = Sum.inr k :: ks.map Sum.inr
    rw [mkv_keys (Nat.succ.inj h)]
theorem mkv_val : ∀ {ks : List Str} {vs : List V} {i : Nat} {k : Str} {v : V}, ks.Nodup → ks[i]? = some k → vs[i]? = some v → valV (mkv ks vs) (Sum.inr k) = some v
  | k0 :: ks, v0 :: vs, 0, k, v, _, hk, hv => by
    cases hk; cases hv
    exact valV_pos rfl
  | k0 :: ks, v0 :: vs, i + 1, k, v, nd, hk, hv => by
    have hk' : ks[i]? = some k := hk
    have hv' : vs[i]? = some v := hv
    have nd' := List.nodup_cons.mp nd
    have ne : ¬ (Sum.inr k0 : Key) = Sum.inr k := fun z => nd'.1 (by cases z; exact List.mem_of_getElem? hk')
    show valV ((Sum.inr k0, v0) :: mkv ks vs) (Sum.inr k) = some v
    rw [valV_neg ne]
    exact mkv_val nd'.2 hk' hv'
theorem mkv_none : ∀ {ks : List Str} {vs : List V} {k : Str}, k ∉ ks → valV (mkv ks vs) (Sum.inr k) = none
  | [], _, _, _ => rfl
  | k0 :: ks, [], _, _ => rfl
  | k0 :: ks, v0 :: vs, k, h => by
    have ne : ¬ (Sum.inr k0 : Key) = Sum.inr k := fun z => h (by cases z; exact List.mem_cons_self)
    show valV ((Sum.inr k0, v0) :: mkv ks vs) (Sum.inr k) = none
    rw [valV_neg ne]
    exact mkv_none fun z => h (List.mem_cons_of_mem _ z)
def TxOk (x : Str) : Prop := PyData.strOk x = true ∧ x.length ≤ 1000
/-- the value v stands for the tree d -/
inductive Rep (CU : Addr) (H : Hp) : V → D → Prop
  | non : Rep CU H .non .non
  | bl (b : Bool) : Rep CU H (.bl b) (.bl b)
  | int (i : Int) : Rep CU H (.int i) (.int i)
  | str (x : Str) (h : TxOk x) : Rep CU H (.str x) (.str x)
  | unk {a dx : Addr} (h : H a = some (.ins CU dx [])) : Rep CU H (.ref a) .unk
  | tup {a : Addr} {xs : List V} {ds : List D} (h : H a = some (.tup xs)) (hl : xs.length = ds.length) (hz : ds.length ≤ 60) (hs : ∀ (i : Nat) (v : V) (d : D), xs[i]? = some v → ds[i]? = some d → Rep CU H v d) : Rep CU H (.ref a) (.tup ds)
  | map {a : Addr} {vs : List V} {ks : List Str} {ds : List D} (h : H a = some (.dK (mkv ks vs))) (hv : vs.length = ds.length) (hk : ks.length = ds.length) (hz : ds.length ≤ 60) (nd : ks.Nodup) (ko : ∀ k ∈ ks, TxOk k)
      (hs : ∀ (i : Nat) (v : V) (d : D), vs[i]? = some v → ds[i]? = some d → Rep CU H v d) : Rep CU H (.ref a) (.map ks ds)
/-- the objects of which trees are made -/
def Tr (CU : Addr) (o : HO) : Prop := (∃ dx, o = .ins CU dx []) ∨ (∃ xs, o = .tup xs) ∨ ∃ kvs, o = .dK kvs
section
variable {CU : Addr} {H H' : Hp} {v : V} {d : D}
theorem Rep.mono (m : ∀ a o, H a = some o → Tr CU o → H' a = some o) (h : Rep CU H v d) : Rep CU H' v d := by
  induction h with
  | non => exact .non
  | bl b => exact .bl b
  | int i => exact .int i
  | str x h => exact .str x h
  | unk h => exact .unk (m _ _ h (.inl ⟨_, rfl⟩))
  | tup h hl hz _ ih => exact .tup (m _ _ h (.inr (.inl ⟨_, rfl⟩))) hl hz ih
  | map h hv hk hz nd ko _ ih => exact .map (m _ _ h (.inr (.inr ⟨_, rfl⟩))) hv hk hz nd ko ih
theorem Rep.same (m : Same H H') (h : Rep CU H v d) : Rep CU H' v d := h.mono fun a o e _ => m a o e
theorem tr_lst {xs : List V} : ¬ Tr CU (.lst xs) := fun h => by
  rcases h with ⟨_, z⟩ | ⟨_, z⟩ | ⟨_, z⟩ <;> cases z
theorem Rep.but {w : Addr} {ow : HO} (m : But w H H') (e : H w = some ow) (n : ¬ Tr CU ow) (h : Rep CU H v d) : Rep CU H' v d := h.mono fun a o ea t => m a o ea fun z => n (by rw [z, e] at ea; cases ea; exact t)
theorem ext_get {α : Type} {xs ys : List α} (hl : xs.length = ys.length) (h : ∀ (i : Nat) (x y : α), xs[i]? = some x → ys[i]? = some y → x = y) : xs = ys := by
  refine List.ext_getElem hl fun i h1 h2 => h i _ _ (List.getElem?_eq_getElem h1) (List.getElem?_eq_getElem h2)
theorem mkv_inj : ∀ {ks ks' : List Str} {vs vs' : List V}, ks.length = vs.length → ks'.length = vs'.length → mkv ks vs = mkv ks' vs' → ks = ks' ∧ vs = vs'
  | [], [], [], [], _, _, _ => ⟨rfl, rfl⟩
  | [], k' :: ks', [], v' :: vs', _, _, h => nomatch h
  | k :: ks, [], v :: vs, [], _, _, h => nomatch h
  | k :: ks, k' :: ks', v :: vs, v' :: vs', h1, h2, h => by
    have h0 : ((Sum.inr k : Key), v) :: mkv ks vs = (Sum.inr k', v') :: mkv ks' vs' := h
    have e := List.cons.inj h0
    obtain ⟨e1, e2⟩ := mkv_inj (Nat.succ.inj h1) (Nat.succ.inj h2) e.2
    have e3 := Prod.mk.inj e.1
    refine ⟨?_, ?_⟩
    · rw [e1, Sum.inr.inj e3.1]
    · rw [e2, e3.2]
theorem Rep.fn {d' : D} (h : Rep CU H v d) (h' : Rep CU H v d') : d = d' := by
  induction h generalizing d' with
  | non => cases h'; rfl
  | bl b => cases h'; rfl
  | int i => cases h'; rfl
  | str x h => cases h'; rfl
  | unk h =>
    cases h' with
    | unk h2 => rfl
    | tup h2 => rw [h] at h2; cases h2
    | map h2 => rw [h] at h2; cases h2
  | @tup a xs ds h hl hz hs ih =>
    cases h' with
    | unk h2 => rw [h] at h2; cases h2
    | map h2 => rw [h] at h2; cases h2
    | @tup _ xs' ds' h2 hl2 hz2 hs2 =>
      rw [h] at h2
      cases h2
      congr 1
      refine ext_get (hl.symm.trans hl2) fun i x y hx hy => ?_
      have hi : i < xs.length := by rw [hl]; exact (List.getElem?_eq_some_iff.mp hx).1
      exact ih i _ x (List.getElem?_eq_getElem hi) hx (hs2 i _ y (List.getElem?_eq_getElem hi) hy)
  | @map a vs ks ds h hv hk hz nd ko hs ih =>
    cases h' with
    | unk h2 => rw [h] at h2; cases h2
    | tup h2 => rw [h] at h2; cases h2
    | @map _ vs' ks' ds' h2 hv2 hk2 hz2 nd2 ko2 hs2 =>
      rw [h] at h2
      obtain ⟨e1, e2⟩ := mkv_inj (hk.trans hv.symm) (hk2.trans hv2.symm) (HO.dK.inj (Option.some.inj h2))
      subst e1
      subst e2
      congr 1
      refine ext_get (hv.symm.trans hv2) fun i x y hx hy => ?_
      have hi : i < vs.length := by rw [hv]; exact (List.getElem?_eq_some_iff.mp hx).1
      exact ih i _ x (List.getElem?_eq_getElem hi) hx (hs2 i _ y (List.getElem?_eq_getElem hi) hy)
/-- a tree in which the object at a does not stand -/
theorem Rep.off {a : Addr} {D0 : D} {o : HO} (h0 : Rep CU H (.ref a) D0) (h : Rep CU H v d) (hs : sz d < sz D0) : Rep CU (upd H a o) v d := by
  have key : ∀ {b : Addr} {d' : D} {u : HO}, Rep CU H (.ref b) d' → sz d' < sz D0 → H b = some u → upd H a o b = some u := fun {b d' u} r hz e => by
    rw [upd_ne]
    · exact e
    · intro z
      subst z
      rw [r.fn h0] at hz
      exact Nat.lt_irrefl _ hz
  induction h with
  | non => exact .non
  | bl b => exact .bl b
  | int i => exact .int i
  | str x h => exact .str x h
  | unk h => exact .unk (key (.unk h) hs h)
  | @tup b xs ds h hl hz hs' ih =>
    refine .tup (key (.tup h hl hz hs') hs h) hl hz fun i v d hx hd => ih i v d hx hd ?_
    have := sz_mem (List.mem_of_getElem? hd)
    rw [sz] at hs
    omega
  | @map b vs ks ds h hv hk hz nd ko hs' ih =>
    refine .map (key (.map h hv hk hz nd ko hs') hs h) hv hk hz nd ko fun i v d hx hd => ih i v d hx hd ?_
    have := sz_mem (List.mem_of_getElem? hd)
    rw [sz] at hs
    omega
end
end VT

/-! value trees, in plain Lean: sorts, sameness -/
namespace VT
open PySem L2
def letters : List Nat := ("abcdefghijklmnopqrstuvwxyz" : Str).cps.toList
def isName (x : Str) : Bool := decide (1 ≤ x.length) && decide (x.length ≤ 12) && x.cps.toList.all fun c => decide (c ∈ letters)
def isTag : List D → Bool
  | [.str m, .str n, .int i] => decide (m = "#") && isName n && decide (1 ≤ i)
  | _ => false
def sort : D → Str
  | .tup l => if isTag l then "tag" else "tuple"
  | .bl _ => "bool"
  | .int _ => "integer"
  | .map _ _ => "map"
  | .str _ => "text"
  | .non => "none"
  | .unk => "none"
def isU : D → Bool
  | .unk => true
  | _ => false
def lsort (d : D) : Str := if isU d then "unknown" else sort d
def leqT : List D → List D → Bool
  | [.str m, .str n, .int i], [.str m', .str n', .int i'] => decide (m = m') && decide (n = n') && decide (i = i')
  | _, _ => false
def get (ks : List Str) (ds : List D) (k : Str) : D := ((ks.zip ds).lookup k).getD .non
def kids : D → D → Option (List (D × D))
  | .tup l, .tup l' => if isTag l then (if leqT l l' then some [] else none) else if l.length = l'.length then some (l.zip l') else none
  | .map ks ds, .map ks' ds' => if ks.Perm ks' then some ((ks.zip ds).map fun p => (p.2, get ks' ds' p.1)) else none
  | .non, .non => some []
  | .bl a, .bl b => if a = b then some [] else none
  | .int a, .int b => if a = b then some [] else none
  | .str a, .str b => if a = b then some [] else none
  | _, _ => none
def verdict (l : List D) : D := if (l.any fun d => match d with | .bl false => true | _ => false) then .bl false else if l.any isU then .unk else .bl true
def same : Nat → D → D → D
  | 0, _, _ => .bl false
  | n + 1, a, b => if (isU a || isU b) = true then .unk else if sort a = sort b then (match kids a b with | none => .bl false | some ps => verdict (ps.map fun p => same n p.1 p.2)) else .bl false
def may : Nat → D → D → Bool
  | 0, _, _ => false
  | n + 1, a, b => if (isU a || isU b) = true then true else if sort a = sort b then (match kids a b with | none => false | some ps => ps.all fun p => may n p.1 p.2) else false
def opn : Nat → D → Nat
  | 0, _ => 0
  | n + 1, d => match d with
    | .unk => 1
    | .tup l => if isTag l then 0 else (l.map (opn n)).sum
    | .map _ ds => (ds.map (opn n)).sum
    | _ => 0
def known : Nat → D → Bool
  | 0, _ => true
  | n + 1, d => match d with
    | .unk => false
    | .tup l => isTag l || l.all (known n)
    | .map _ ds => ds.all (known n)
    | _ => true
/-- keys of a map are unlike, and as many as its values -/
inductive Wf : D → Prop
  | leaf {d : D} (h1 : ∀ l, d ≠ .tup l) (h2 : ∀ ks ds, d ≠ .map ks ds) : Wf d
  | tup {l : List D} (h : ∀ d ∈ l, Wf d) : Wf (.tup l)
  | map {ks : List Str} {ds : List D} (nd : ks.Nodup) (hl : ks.length = ds.length) (h : ∀ d ∈ ds, Wf d) : Wf (.map ks ds)
theorem Rep.wf {CU : Addr} {H : Hp} {v : V} {d : D} (h : Rep CU H v d) : Wf d := by
  induction h with
  | non => exact .leaf (fun _ z => nomatch z) (fun _ _ z => nomatch z)
  | bl b => exact .leaf (fun _ z => nomatch z) (fun _ _ z => nomatch z)
  | int i => exact .leaf (fun _ z => nomatch z) (fun _ _ z => nomatch z)
  | str x h => exact .leaf (fun _ z => nomatch z) (fun _ _ z => nomatch z)
  | unk h => exact .leaf (fun _ z => nomatch z) (fun _ _ z => nomatch z)
  | @tup a xs ds h hl hz hs ih =>
    refine .tup fun d hd => ?_
    obtain ⟨i, hi, rfl⟩ := List.mem_iff_getElem.mp hd
    exact ih i xs[i] _ (List.getElem?_eq_getElem (by omega)) (List.getElem?_eq_getElem hi)
  | @map a vs ks ds h hv hk hz nd ko hs ih =>
    refine .map nd hk fun d hd => ?_
    obtain ⟨i, hi, rfl⟩ := List.mem_iff_getElem.mp hd
    exact ih i vs[i] _ (List.getElem?_eq_getElem (by omega)) (List.getElem?_eq_getElem hi)
theorem get_at : ∀ {ks : List Str} {ds : List D} {i : Nat} {k : Str} {d : D}, ks.Nodup → ks[i]? = some k → ds[i]? = some d → get ks ds k = d
  | k0 :: ks, d0 :: ds, 0, k, d, _, hk, hd => by
    cases hk; cases hd
    simp [get, List.lookup_cons]
  | k0 :: ks, d0 :: ds, i + 1, k, d, nd, hk, hd => by
    have hk' : ks[i]? = some k := hk
    have hd' : ds[i]? = some d := hd
    have nd' := List.nodup_cons.mp nd
    have ne : (k == k0) = false := beq_eq_false_iff_ne.mpr fun z => nd'.1 (by rw [← z]; exact List.mem_of_getElem? hk')
    have := get_at nd'.2 hk' hd'
    simpa [get, List.lookup_cons, ne] using this
theorem get_map {ks : List Str} {ds : List D} (nd : ks.Nodup) (hl : ks.length = ds.length) : ks.map (get ks ds) = ds := by
  refine List.ext_getElem (by rw [List.length_map]; exact hl) fun i h1 h2 => ?_
  rw [List.getElem_map]
  have h3 : i < ks.length := by rw [hl]; exact h2
  exact get_at nd (List.getElem?_eq_getElem h3) (List.getElem?_eq_getElem h2)
/-- what the two lists of a pair list add up to -/
theorem sum_pairs (f : D → Nat) : ∀ ps : List (D × D), ((ps.map (·.1)).map f).sum + ((ps.map (·.2)).map f).sum = (ps.map fun p => f p.1 + f p.2).sum
  | [] => rfl
  | p :: ps => by
    have := sum_pairs f ps
    simp only [List.map_cons, List.sum_cons]
    omega
theorem kids_sum {n : Nat} {a b : D} {ps : List (D × D)} (wa : Wf a) (wb : Wf b) (ua : isU a = false) (ub : isU b = false) (hs : sort a = sort b) (hk : kids a b = some ps) : opn (n + 1) a + opn (n + 1) b = (ps.map fun p => opn n p.1 + opn n p.2).sum := by
  rw [← sum_pairs]
  unfold kids at hk
  split at hk
  · rename_i l l'
    split at hk
    · rename_i ht
      split at hk
      · cases hk
        have ht' : isTag l' = true := by
          by_cases z : isTag l' = true
          · exact z
          · simp only [sort, if_pos ht, if_neg z] at hs
            exact absurd hs (by decide +kernel)
        simp [opn, ht, ht']
      · cases hk
    · rename_i ht
      have ht' : ¬ isTag l' = true := fun z => by
        simp only [sort, if_neg ht, if_pos z] at hs
        exact absurd hs (by decide +kernel)
      split at hk
      · rename_i hl
        cases hk
        rw [List.map_fst_zip (Nat.le_of_eq hl), List.map_snd_zip (Nat.le_of_eq hl.symm)]
        simp only [opn, if_neg ht, if_neg ht']
      · cases hk
  · rename_i ks ds ks' ds'
    split at hk
    · rename_i hp
      cases hk
      cases wa with
      | leaf _ h => exact absurd rfl (h _ _)
      | map nd hl hw =>
      cases wb with
      | leaf _ h => exact absurd rfl (h _ _)
      | map nd' hl' hw' =>
      have e1 : ((ks.zip ds).map fun p => (p.2, get ks' ds' p.1)).map (·.1) = ds := by
        rw [List.map_map]
        exact List.map_snd_zip (Nat.le_of_eq hl.symm)
      have e2 : ((ks.zip ds).map fun p => (p.2, get ks' ds' p.1)).map (·.2) = ks.map (get ks' ds') := by
        rw [List.map_map]
        have : (fun p : Str × D => get ks' ds' p.1) = (get ks' ds') ∘ (fun p : Str × D => p.1) := rfl
        show (ks.zip ds).map (fun p : Str × D => get ks' ds' p.1) = _
        rw [this, ← List.map_map, List.map_fst_zip (Nat.le_of_eq hl)]
      rw [e1, e2]
      have hq : (ks.map (get ks' ds')).Perm ds' := by
        have := hp.map (get ks' ds')
        rwa [get_map nd' hl'] at this
      have := (hq.map (opn n)).sum_nat
      simp only [opn]
      rw [this]
    · cases hk
  · cases hk; rfl
  · split at hk
    · cases hk; rfl
    · cases hk
  · split at hk
    · cases hk; rfl
    · cases hk
  · split at hk
    · cases hk; rfl
    · cases hk
  · cases hk
theorem get_mem {ks : List Str} {ds : List D} {k : Str} (nd : ks.Nodup) (hl : ks.length = ds.length) (h : k ∈ ks) : get ks ds k ∈ ds := by
  obtain ⟨i, hi, rfl⟩ := List.mem_iff_getElem.mp h
  have h2 : i < ds.length := by omega
  rw [get_at nd (List.getElem?_eq_getElem hi) (List.getElem?_eq_getElem h2)]
  exact List.getElem_mem h2
/-- the pairs of a and b are of children of a and children of b -/
theorem kids_of {a b : D} {ps : List (D × D)} (wa : Wf a) (wb : Wf b) (hk : kids a b = some ps) : ∀ p ∈ ps, Wf p.1 ∧ Wf p.2 ∧ dep p.1 < dep a ∧ dep p.2 < dep b := by
  unfold kids at hk
  intro p hp
  split at hk
  · rename_i l l'
    have h1 : ∀ {l : List D}, Wf (.tup l) → ∀ d ∈ l, Wf d ∧ dep d < dep (.tup l) := fun {l} w d hd => by
      cases w with
      | leaf h _ => exact absurd rfl (h _)
      | tup h =>
        have := dep_mem hd
        rw [dep]
        exact ⟨h d hd, by omega⟩
    split at hk
    · split at hk
      · cases hk; cases hp
      · cases hk
    · split at hk
      · cases hk
        obtain ⟨m1, m2⟩ := List.of_mem_zip (a := p.1) (b := p.2) hp
        exact ⟨(h1 wa _ m1).1, (h1 wb _ m2).1, (h1 wa _ m1).2, (h1 wb _ m2).2⟩
      · cases hk
  · rename_i ks ds ks' ds'
    split at hk
    · rename_i hpm
      cases hk
      cases wa with
      | leaf _ h => exact absurd rfl (h _ _)
      | map nd hl hw =>
      cases wb with
      | leaf _ h => exact absurd rfl (h _ _)
      | map nd' hl' hw' =>
      obtain ⟨q, hq, rfl⟩ := List.mem_map.mp hp
      obtain ⟨m1, m2⟩ := List.of_mem_zip (a := q.1) (b := q.2) hq
      have m3 := get_mem nd' hl' (hpm.mem_iff.mp m1)
      have d1 := dep_mem m2
      have d2 := dep_mem m3
      have f1 : dep (.map ks ds) = depL ds + 1 := by rw [dep]
      have f2 : dep (.map ks' ds') = depL ds' + 1 := by rw [dep]
      exact ⟨hw _ m2, hw' _ m3, by rw [f1]; exact Nat.lt_succ_of_le d1, by rw [f2]; exact Nat.lt_succ_of_le d2⟩
    · cases hk
  · cases hk; cases hp
  · split at hk
    · cases hk; cases hp
    · cases hk
  · split at hk
    · cases hk; cases hp
    · cases hk
  · split at hk
    · cases hk; cases hp
    · cases hk
  · cases hk
def res (m : Bool) (o : Nat) : D := if m then (if o = 0 then .bl true else .unk) else .bl false
theorem verdict_res {α : Type} (f : α → Bool) (g : α → Nat) (l : List α) : verdict (l.map fun x => res (f x) (g x)) = res (l.all f) (l.map g).sum := by
  unfold verdict
  rw [List.any_map, List.any_map]
  by_cases ha : l.all f = true
  · have h1 : (l.any ((fun d => match d with | D.bl false => true | _ => false) ∘ fun x => res (f x) (g x))) = false := by
      rw [List.any_eq_false]
      intro x hx
      have := List.all_eq_true.mp ha x hx
      simp only [Function.comp, res, this]
      by_cases z : g x = 0 <;> simp [z]
    rw [h1, ha]
    by_cases hs : (l.map g).sum = 0
    · rw [show res true (l.map g).sum = .bl true from by simp only [res, hs, if_true]]
      have h2 : l.any (isU ∘ fun x => res (f x) (g x)) = false := by
        rw [List.any_eq_false]
        intro x hx
        have e1 := List.all_eq_true.mp ha x hx
        have e2 : g x = 0 := (List.sum_eq_zero_iff_forall_eq_nat.mp hs) _ (List.mem_map.mpr ⟨x, hx, rfl⟩)
        simp [Function.comp, res, e1, e2, isU]
      rw [h2]
      rfl
    · rw [show res true (l.map g).sum = .unk from by simp only [res, if_neg hs, if_true]]
      have h2 : l.any (isU ∘ fun x => res (f x) (g x)) = true := by
        rw [List.any_eq_true]
        have : ∃ x ∈ l, g x ≠ 0 := by
          refine Classical.byContradiction fun z => hs (List.sum_eq_zero_iff_forall_eq_nat.mpr fun y hy => ?_)
          obtain ⟨x, hx, rfl⟩ := List.mem_map.mp hy
          exact Classical.byContradiction fun q => z ⟨x, hx, q⟩
        obtain ⟨x, hx, hg⟩ := this
        have e1 := List.all_eq_true.mp ha x hx
        exact ⟨x, hx, by simp [Function.comp, res, e1, hg, isU]⟩
      rw [h2]
      rfl
  · have ha' : l.all f = false := by simpa using ha
    have h1 : (l.any ((fun d => match d with | D.bl false => true | _ => false) ∘ fun x => res (f x) (g x))) = true := by
      rw [List.any_eq_true]
      have : ∃ x ∈ l, f x = false := by
        refine Classical.byContradiction fun z => ha (List.all_eq_true.mpr fun x hx => ?_)
        cases q : f x with
        | true => rfl
        | false => exact absurd ⟨x, hx, q⟩ z
      obtain ⟨x, hx, hf⟩ := this
      exact ⟨x, hx, by simp [Function.comp, res, hf]⟩
    rw [h1, ha']
    rfl
/-- same is what the law makes of may and of the unknown parts -/
theorem same_is : ∀ (n : Nat) (a b : D), Wf a → Wf b → dep a < n → dep b < n → same n a b = res (may n a b) (opn n a + opn n b)
  | 0, _, _, _, _, h, _ => absurd h (Nat.not_lt_zero _)
  | n + 1, a, b, wa, wb, ha, hb => by
    rw [same, may]
    by_cases hu : (isU a || isU b) = true
    · rw [if_pos hu, if_pos hu]
      have : opn (n + 1) a + opn (n + 1) b ≠ 0 := by
        rcases Bool.or_eq_true_iff.mp hu with z | z
        · cases a <;> simp [isU] at z
          simp [opn]
        · cases b <;> simp [isU] at z
          simp [opn]
      simp only [res, if_true, if_neg this]
    · rw [if_neg hu, if_neg hu]
      have hu' : isU a = false ∧ isU b = false := by simpa using hu
      by_cases hs : sort a = sort b
      · rw [if_pos hs, if_pos hs]
        cases hk : kids a b with
        | none => rfl
        | some ps =>
          show verdict (ps.map fun p => same n p.1 p.2) = res (ps.all fun p => may n p.1 p.2) (opn (n + 1) a + opn (n + 1) b)
          rw [kids_sum wa wb hu'.1 hu'.2 hs hk, ← verdict_res]
          congr 1
          refine List.map_congr_left fun p hp => ?_
          obtain ⟨w1, w2, d1, d2⟩ := kids_of wa wb hk p hp
          exact same_is n p.1 p.2 w1 w2 (by omega) (by omega)
      · rw [if_neg hs, if_neg hs]
        rfl
theorem known_is : ∀ (n : Nat) (d : D), dep d < n → known n d = decide (opn n d = 0)
  | 0, _, h => absurd h (Nat.not_lt_zero _)
  | n + 1, d, h => by
    have key : ∀ l : List D, depL l < n → l.all (known n) = decide ((l.map (opn n)).sum = 0) := fun l hl => by
      rw [Bool.eq_iff_iff, List.all_eq_true, decide_eq_true_iff, List.sum_eq_zero_iff_forall_eq_nat]
      constructor
      · intro z y hy
        obtain ⟨x, hx, rfl⟩ := List.mem_map.mp hy
        have := z x hx
        rw [known_is n x (Nat.lt_of_le_of_lt (dep_mem hx) hl)] at this
        exact of_decide_eq_true this
      · intro z x hx
        rw [known_is n x (Nat.lt_of_le_of_lt (dep_mem hx) hl)]
        exact decide_eq_true (z _ (List.mem_map.mpr ⟨x, hx, rfl⟩))
    cases d with
    | tup l =>
      rw [dep] at h
      have e1 : known (n + 1) (.tup l) = (isTag l || l.all (known n)) := rfl
      have e2 : opn (n + 1) (.tup l) = if isTag l then 0 else (l.map (opn n)).sum := rfl
      rw [e1, e2]
      by_cases ht : isTag l = true
      · simp [ht]
      · rw [if_neg ht, key l (by omega)]
        simp [ht]
    | map ks ds =>
      rw [dep] at h
      exact key ds (by omega)
    | non => simp [known, opn]
    | bl b => simp [known, opn]
    | int i => simp [known, opn]
    | str x => simp [known, opn]
    | unk => simp [known, opn]
end VT

namespace VT
open PySem L2
def pairAt (ks : List Str) (ds : List D) (ks' : List Str) (ds' : List D) (k : Str) : D × D := (get ks ds k, get ks' ds' k)
theorem zip_pairs {ks ks' : List Str} {ds ds' : List D} (nd : ks.Nodup) (hl : ks.length = ds.length) : (ks.zip ds).map (fun p => (p.2, get ks' ds' p.1)) = ks.map (pairAt ks ds ks' ds') := by
  refine List.ext_getElem (by simp [hl]) fun i h1 h2 => ?_
  have h3 : i < ks.length := by simpa using h2
  have h4 : i < ds.length := by omega
  simp only [List.getElem_map, List.getElem_zip, pairAt]
  rw [get_at nd (List.getElem?_eq_getElem h3) (List.getElem?_eq_getElem h4)]
theorem leqT_symm (l l' : List D) : leqT l l' = leqT l' l := by
  unfold leqT
  split
  · rename_i m n i m' n' i'
    simp only [eq_comm]
  · rename_i h
    split
    · rename_i m n i m' n' i'
      exact absurd rfl (h _ _ _ _ _ _ rfl)
    · rfl
def swp (p : D × D) : D × D := (p.2, p.1)
theorem zip_swp : ∀ l l' : List D, (l.zip l').map swp = l'.zip l
  | [], [] => rfl
  | [], _ :: _ => rfl
  | _ :: _, [] => rfl
  | x :: l, y :: l' => by
    show swp (x, y) :: (l.zip l').map swp = (y, x) :: l'.zip l
    rw [zip_swp l l']
    rfl
theorem kids_symm {a b : D} (wa : Wf a) (wb : Wf b) (hs : sort a = sort b) : (kids a b = none ∧ kids b a = none) ∨ ∃ ps qs, kids a b = some ps ∧ kids b a = some qs ∧ qs.Perm (ps.map swp) := by
  cases a with
  | tup l =>
    cases b with
    | tup l' =>
      have ht : isTag l = isTag l' := by
        cases h1 : isTag l <;> cases h2 : isTag l' <;> simp only [sort, h1, h2] at hs <;> first | rfl | exact absurd hs (by decide +kernel)
      show ((if isTag l then (if leqT l l' then some [] else none) else if l.length = l'.length then some (l.zip l') else none) = none ∧ (if isTag l' then (if leqT l' l then some [] else none) else if l'.length = l.length then some (l'.zip l) else none) = none) ∨
        ∃ ps qs, (if isTag l then (if leqT l l' then some [] else none) else if l.length = l'.length then some (l.zip l') else none) = some ps ∧ (if isTag l' then (if leqT l' l then some [] else none) else if l'.length = l.length then some (l'.zip l) else none) = some qs ∧ qs.Perm (ps.map swp)
      rw [← ht, leqT_symm l' l]
      by_cases h1 : isTag l = true
      · rw [if_pos h1, if_pos h1]
        by_cases h2 : leqT l l' = true
        · rw [if_pos h2]
          exact .inr ⟨[], [], rfl, rfl, .nil⟩
        · rw [if_neg h2]
          exact .inl ⟨rfl, rfl⟩
      · rw [if_neg h1, if_neg h1]
        by_cases h2 : l.length = l'.length
        · rw [if_pos h2, if_pos h2.symm]
          refine .inr ⟨_, _, rfl, rfl, ?_⟩
          rw [zip_swp]
        · rw [if_neg h2, if_neg fun z => h2 z.symm]
          exact .inl ⟨rfl, rfl⟩
    | _ => exact .inl ⟨rfl, rfl⟩
  | map ks ds =>
    cases b with
    | map ks' ds' =>
      cases wa with
      | leaf _ h => exact absurd rfl (h _ _)
      | map nd hl hw =>
      cases wb with
      | leaf _ h => exact absurd rfl (h _ _)
      | map nd' hl' hw' =>
      show ((if ks.Perm ks' then some ((ks.zip ds).map fun p => (p.2, get ks' ds' p.1)) else none) = none ∧ (if ks'.Perm ks then some ((ks'.zip ds').map fun p => (p.2, get ks ds p.1)) else none) = none) ∨
        ∃ ps qs, (if ks.Perm ks' then some ((ks.zip ds).map fun p => (p.2, get ks' ds' p.1)) else none) = some ps ∧ (if ks'.Perm ks then some ((ks'.zip ds').map fun p => (p.2, get ks ds p.1)) else none) = some qs ∧ qs.Perm (ps.map swp)
      by_cases h : ks.Perm ks'
      · rw [if_pos h, if_pos h.symm, zip_pairs nd hl, zip_pairs nd' hl']
        refine .inr ⟨_, _, rfl, rfl, ?_⟩
        rw [List.map_map]
        exact h.symm.map _
      · rw [if_neg h, if_neg fun z => h z.symm]
        exact .inl ⟨rfl, rfl⟩
    | _ => exact .inl ⟨rfl, rfl⟩
  | non => cases b <;> first | exact .inl ⟨rfl, rfl⟩ | exact .inr ⟨[], [], rfl, rfl, .nil⟩
  | unk => cases b <;> exact .inl ⟨rfl, rfl⟩
  | bl x =>
    cases b with
    | bl y =>
      show ((if x = y then some [] else none) = none ∧ (if y = x then some [] else none) = none) ∨ ∃ ps qs, (if x = y then some [] else none) = some ps ∧ (if y = x then some [] else none) = some qs ∧ qs.Perm (ps.map swp)
      by_cases h : x = y
      · rw [if_pos h, if_pos h.symm]; exact .inr ⟨[], [], rfl, rfl, .nil⟩
      · rw [if_neg h, if_neg fun z => h z.symm]; exact .inl ⟨rfl, rfl⟩
    | _ => exact .inl ⟨rfl, rfl⟩
  | int x =>
    cases b with
    | int y =>
      show ((if x = y then some [] else none) = none ∧ (if y = x then some [] else none) = none) ∨ ∃ ps qs, (if x = y then some [] else none) = some ps ∧ (if y = x then some [] else none) = some qs ∧ qs.Perm (ps.map swp)
      by_cases h : x = y
      · rw [if_pos h, if_pos h.symm]; exact .inr ⟨[], [], rfl, rfl, .nil⟩
      · rw [if_neg h, if_neg fun z => h z.symm]; exact .inl ⟨rfl, rfl⟩
    | _ => exact .inl ⟨rfl, rfl⟩
  | str x =>
    cases b with
    | str y =>
      show ((if x = y then some [] else none) = none ∧ (if y = x then some [] else none) = none) ∨ ∃ ps qs, (if x = y then some [] else none) = some ps ∧ (if y = x then some [] else none) = some qs ∧ qs.Perm (ps.map swp)
      by_cases h : x = y
      · rw [if_pos h, if_pos h.symm]; exact .inr ⟨[], [], rfl, rfl, .nil⟩
      · rw [if_neg h, if_neg fun z => h z.symm]; exact .inl ⟨rfl, rfl⟩
    | _ => exact .inl ⟨rfl, rfl⟩
theorem all_perm {α : Type} {f : α → Bool} {l l' : List α} (h : l.Perm l') : l.all f = l'.all f := by
  rw [Bool.eq_iff_iff, List.all_eq_true, List.all_eq_true]
  exact ⟨fun z x hx => z x (h.mem_iff.mpr hx), fun z x hx => z x (h.mem_iff.mp hx)⟩
theorem any_perm {α : Type} {f : α → Bool} {l l' : List α} (h : l.Perm l') : l.any f = l'.any f := by
  rw [Bool.eq_iff_iff, List.any_eq_true, List.any_eq_true]
  exact ⟨fun ⟨x, hx, z⟩ => ⟨x, h.mem_iff.mp hx, z⟩, fun ⟨x, hx, z⟩ => ⟨x, h.mem_iff.mpr hx, z⟩⟩
theorem verdict_perm {l l' : List D} (h : l.Perm l') : verdict l = verdict l' := by
  unfold verdict
  rw [any_perm h, any_perm (f := isU) h]
theorem may_symm : ∀ (n : Nat) (a b : D), Wf a → Wf b → may n a b = may n b a
  | 0, _, _, _, _ => rfl
  | n + 1, a, b, wa, wb => by
    rw [may, may, Bool.or_comm (isU b)]
    by_cases hu : (isU a || isU b) = true
    · rw [if_pos hu, if_pos hu]
    · rw [if_neg hu, if_neg hu]
      by_cases hs : sort a = sort b
      · rw [if_pos hs, if_pos hs.symm]
        rcases kids_symm wa wb hs with ⟨h1, h2⟩ | ⟨ps, qs, h1, h2, hp⟩
        · rw [h1, h2]
        · rw [h1, h2]
          show (ps.all fun p => may n p.1 p.2) = qs.all fun p => may n p.1 p.2
          rw [all_perm hp, List.all_map]
          refine Bool.eq_iff_iff.mpr ?_
          rw [List.all_eq_true, List.all_eq_true]
          have key : ∀ p ∈ ps, may n p.1 p.2 = may n p.2 p.1 := fun p hp' => by
            obtain ⟨w1, w2, _⟩ := kids_of wa wb h1 p hp'
            exact may_symm n p.1 p.2 w1 w2
          exact ⟨fun z p hp' => (key p hp').symm.trans (z p hp'), fun z p hp' => (key p hp').trans (z p hp')⟩
      · rw [if_neg hs, if_neg fun z => hs z.symm]
theorem same_symm (n : Nat) (a b : D) (wa : Wf a) (wb : Wf b) (ha : dep a < n) (hb : dep b < n) : same n b a = res (may n a b) (opn n a + opn n b) := by
  rw [same_is n b a wb wa hb ha, may_symm n b a wb wa, Nat.add_comm]
end VT

/-! list comprehensions, item by item -/
namespace XR
open PySem L2
theorem yes_i {te : TE} {σ : L2.St} {H : Hp} {N : VK} {M : Hp → Prop} (h : te σ H N) : tYes σ H (fun b H3 => if b = true then te σ H3 N else M H3) := by
  show (if true = true then te σ H N else M H)
  rw [if_pos rfl]
  exact h
theorem lc_rel {J : It} {n : Nat} {G : Hp → Prop} {Y : Nat → Hp → V → Hp → Prop} (w : Walk J n G Y) {g : TG} {te : TE} {vs : List Nat} {σ : L2.St} {H1 : Hp} {D : Addr} {Qd : Hp → Prop} (hD : H1 D = none) (hz : n < sizeLine) (R : Nat → Hp → V → Prop)
    (mS : ∀ i H H' v, Same H H' → R i H v → R i H' v) (mD : ∀ i H H' v l, But D H H' → H D = some (.lst l) → R i H v → R i H' v) (hG : ∀ H', Same H1 H' → G H')
    (hs : ∀ i x H2 H3, i < n → Same H1 H2 → Y i H2 x H3 → ∀ N : V → Hp → Prop, (∀ y H5, Same H2 H5 → R i H5 y → N y H5) → g x (wipe σ vs) H3 fun σ2 H4 => wipe σ2 vs = wipe σ vs ∧ te σ2 H4 N)
    (mono : ∀ x H3 (Q Q' : L2.St → Hp → Prop), (∀ σ2 H4, Q σ2 H4 → Q' σ2 H4) → g x (wipe σ vs) H3 Q → g x (wipe σ vs) H3 Q')
    (hd : ∀ H' ys, Same H1 H' → H' D = some (.lst ys) → ys.length = n → (∀ i v, ys[i]? = some v → R i H' v) → Qd H') :
    ∃ W : Nat → Nat → Hp → Prop, (∃ m, W 0 m (upd H1 D (.lst []))) ∧ ∀ i m H, W i m H →
      (J.stop i H ∧ Qd H) ∨ (J.go i H ∧ ∃ Nx : Hp → Prop, (∀ H', Nx H' → ∃ m', m' < m ∧ W (i + 1) m' H') ∧ ∀ x H', J.yld i H x H' → g x (wipe σ vs) H' fun σ2 H2 => wipe σ2 vs = wipe σ vs ∧ tYes σ2 H2 fun b H3 =>
        if b = true then te σ2 H3 fun y H4 => ∃ acc, H4 D = some (.lst acc) ∧ acc.length < sizeLine ∧ Nx (upd H4 D (.lst (acc ++ [y]))) else Nx H3) := by
  refine lc_it w (fun i H' => Same H1 H' ∧ ∃ acc, H' D = some (.lst acc) ∧ acc.length = i ∧ ∀ j v, acc[j]? = some v → R j H' v) ⟨same_new hD, [], upd_same, rfl, fun j v h => nomatch h⟩ (fun i H' _ q => hG H' q.1) ?_ ?_
  · rintro i x H2 H3 hi ⟨m, acc, f, hl, hr⟩ hy
    refine mono x H3 _ _ (fun σ2 H4 q => ⟨q.1, yes_i q.2⟩) (hs i x H2 H3 hi m hy _ fun y H5 m5 ry => ?_)
    have f5 := m5 _ _ f
    refine ⟨acc, f5, by omega, fun b o e => ?_, acc ++ [y], upd_same, by rw [List.length_append, hl]; rfl, fun j v hj => ?_⟩
    · rw [upd_ne (ne_of_none e hD)]
      exact m5 _ _ (m _ _ e)
    · have bu : But D H5 (upd H5 D (.lst (acc ++ [y]))) := But.upd
      by_cases hjl : j < acc.length
      · rw [List.getElem?_append_left hjl] at hj
        exact mD j _ _ v _ bu f5 (mS j _ _ v m5 (hr j v hj))
      · have hlt := (List.getElem?_eq_some_iff.mp hj).1
        rw [List.length_append] at hlt
        have hlt2 : j < acc.length + 1 := hlt
        have : j = acc.length := by omega
        subst this
        rw [List.getElem?_append_right (Nat.le_refl _), Nat.sub_self] at hj
        cases hj
        rw [hl]
        exact mD i _ _ _ _ bu f5 ry
  · rintro H' ⟨m, acc, f, hl, hr⟩
    exact hd H' acc m f hl hr
theorem mono_name {i : Nat} {σ : L2.St} : ∀ x H3 (Q Q' : L2.St → Hp → Prop), (∀ σ2 H4, Q σ2 H4 → Q' σ2 H4) → gName i x σ H3 Q → gName i x σ H3 Q' := fun _ _ _ _ h q => h _ _ q
theorem mono_pair {K : PySem.W.Frag} {i j n : Nat} {σ : L2.St} : ∀ x H3 (Q Q' : L2.St → Hp → Prop), (∀ σ2 H4, Q σ2 H4 → Q' σ2 H4) → gTup K n (gCons (gName i) (gCons (gName j) gNil)) x σ H3 Q → gTup K n (gCons (gName i) (gCons (gName j) gNil)) x σ H3 Q' := by
  rintro x H3 Q Q' h ⟨a, xs, e1, e2, e3, v, r, e4, v2, r2, e5, e6, q⟩
  exact ⟨a, xs, e1, e2, e3, v, r, e4, v2, r2, e5, e6, h _ _ q⟩
/-- the items are those of ys, whatever the heap -/
theorem lc_pure {J : It} {n : Nat} {G : Hp → Prop} {Y : Nat → Hp → V → Hp → Prop} (w : Walk J n G Y) {g : TG} {te : TE} {vs : List Nat} {σ : L2.St} {H1 : Hp} {D : Addr} {Qd : Hp → Prop} (hD : H1 D = none) (ys : List V) (hn : ys.length = n) (hz : n < sizeLine) (hG : ∀ H', Same H1 H' → G H')
    (hs : ∀ i x H2 H3 y, ys[i]? = some y → Same H1 H2 → Y i H2 x H3 → ∀ N : V → Hp → Prop, (∀ H5, Same H2 H5 → N y H5) → g x (wipe σ vs) H3 fun σ2 H4 => wipe σ2 vs = wipe σ vs ∧ te σ2 H4 N)
    (mono : ∀ x H3 (Q Q' : L2.St → Hp → Prop), (∀ σ2 H4, Q σ2 H4 → Q' σ2 H4) → g x (wipe σ vs) H3 Q → g x (wipe σ vs) H3 Q')
    (hd : ∀ H', Same H1 H' → H' D = some (.lst ys) → Qd H') :
    ∃ W : Nat → Nat → Hp → Prop, (∃ m, W 0 m (upd H1 D (.lst []))) ∧ ∀ i m H, W i m H →
      (J.stop i H ∧ Qd H) ∨ (J.go i H ∧ ∃ Nx : Hp → Prop, (∀ H', Nx H' → ∃ m', m' < m ∧ W (i + 1) m' H') ∧ ∀ x H', J.yld i H x H' → g x (wipe σ vs) H' fun σ2 H2 => wipe σ2 vs = wipe σ vs ∧ tYes σ2 H2 fun b H3 =>
        if b = true then te σ2 H3 fun y H4 => ∃ acc, H4 D = some (.lst acc) ∧ acc.length < sizeLine ∧ Nx (upd H4 D (.lst (acc ++ [y]))) else Nx H3) := by
  refine lc_rel w hD hz (fun i _ v => ys[i]? = some v) (fun _ _ _ _ _ h => h) (fun _ _ _ _ _ _ _ h => h) hG (fun i x H2 H3 hi m hy N hN => ?_) mono (fun H' zs m f hl hr => ?_)
  · have hi' : i < ys.length := by omega
    exact hs i x H2 H3 ys[i] (List.getElem?_eq_getElem hi') m hy N fun H5 m5 => hN _ H5 m5 (List.getElem?_eq_getElem hi')
  · have e : zs = ys := by
      refine List.ext_getElem (by omega) fun i h1 h2 => ?_
      have := hr i zs[i] (List.getElem?_eq_getElem h1)
      rw [List.getElem?_eq_getElem h2] at this
      exact (Option.some.inj this).symm
    rw [e] at f
    exact hd H' m f
theorem same_lock {H H' : Hp} {d : Addr} {od : Obj} {u : HO} (hd : H d = some u) (m : Same (upd H d (.frz od u)) H') : Same H (upd H' d u) := fun b o e => by
  by_cases hb : b = d
  · subst hb
    rw [upd_same, ← hd, e]
  · rw [upd_ne hb]
    exact m b o (by rw [upd_ne hb]; exact e)
theorem mkv_get : ∀ {ks : List Str} {vs : List V} {i : Nat} {k : Key} {v : V}, (VT.mkv ks vs)[i]? = some (k, v) → ∃ x, ks[i]? = some x ∧ k = Sum.inr x ∧ vs[i]? = some v
  | [], _, i, k, v, h => by cases h
  | _ :: _, [], i, k, v, h => by cases h
  | k0 :: ks, v0 :: vs, 0, k, v, h => by
    have h' : some ((Sum.inr k0 : Key), v0) = some (k, v) := h
    cases h'
    exact ⟨k0, rfl, rfl, rfl⟩
  | k0 :: ks, v0 :: vs, i + 1, k, v, h => mkv_get (ks := ks) (vs := vs) (i := i) h
end XR

/-! list(zip(a, b)) of two tuples -/
namespace XZ
open PySem PySem.Spec PyProof.Rows L2 RZ
section
variable {prog : Program} {w : World} {A : Around} {E : Value → Shared → Prop} {s : Shared}
theorem zipT_item_held {z TI TO T i1 i2 l1 l2 : Addr} {f : Bool} {oT : Obj} {k1 k2 : Nat} {xs ys : Array Value} {x y : Value} {Q : Option Value → Shared → Prop} (D : ZipApart z TI TO i1 i2 l1 l2)
    (hz : IsZipHeld s.heap z TI TO T f) (hT : s.heap.get? T = some oT) (hTI : IsPair s.heap TI (.ref i1) (.ref i2))
    (h1 : s.heap.IsTupleIter i1 l1 k1) (h2 : s.heap.IsTupleIter i2 l2 k2) (hl1 : s.heap.IsTuple l1 xs) (hl2 : s.heap.IsTuple l2 ys) (hx : xs[k1]? = some x) (hy : ys[k2]? = some y)
    (hQ : ∀ h', IsZipHeld h' z TI TO T true → h'.IsTupleIter i1 l1 (k1 + 1) → h'.IsTupleIter i2 l2 (k2 + 1) → IsPair h' s.heap.objs.size x y → h'.objs.size = s.heap.objs.size + 1 →
      (∀ c o, c ≠ z → c ≠ i1 → c ≠ i2 → s.heap.get? c = some o → h'.get? c = some o) → Q (some (.ref s.heap.objs.size)) { s with heap := h' }) :
    wpAny (model prog w) A (pyNext (.ref z)) Q E s := by
  have hTy : s.TypeIs (.ref z) "zip" := ⟨_, hz, rfl⟩
  have nx : ∀ {A : Around} {E : Value → Shared → Prop}, wpAny (model prog w) A (Builtin.«zip.__next__» ⟨[.ref z], []⟩) (fun fin s' => ∃ v, fin = .done (.ret v) ∧ Q (some v) s') E s := by
    intro A E
    show wpAny _ _ (field (.ref z) 2 >>= _) _ _ _
    refine wpAny_bind (wpAny_field hz rfl (x := .bool false) rfl ?_)
    show wpAny _ _ (field (.ref z) 3 >>= _) _ _ _
    refine wpAny_bind (wpAny_field hz rfl (x := .ref TI) rfl ?_)
    refine wpAny_bind (wpAny_seqItems hTI rfl ?_)
    show wpAny _ _ (Builtin.SmallTypes.ownedTupleIsFree (.ref z) >>= _) _ _ _
    refine wpAny_bind (wpAny_tupleHeld_zip hz hT fun h₁ hz₁ hs₁ => ?_)
    simp only [Bool.false_eq_true, if_false]
    refine wpAny_bind ?_
    rw [← Array.forIn_toList]
    simp only [List.forIn_cons, List.forIn_nil]
    refine wpAny_bind (wpAny_bind (wpAny_holding ?_))
    show wpAny _ _ (Builtin.SmallTypes.nextOf (.ref i1) >>= _) _ _ _
    refine wpAny_bind (nextOf_tuple_item (s := { s with heap := h₁ }) (h1.extBut hs₁.extBut D.i1z) (hl1.extBut hs₁.extBut D.l1z) hx fun h₂ h1₂ hs₂ => wpAny_pure ?_)
    refine wpAny_pure ?_
    refine wpAny_bind (wpAny_bind (wpAny_holding ?_))
    show wpAny _ _ (Builtin.SmallTypes.nextOf (.ref i2) >>= _) _ _ _
    refine wpAny_bind (nextOf_tuple_item (s := { s with heap := h₂ }) ((h2.extBut hs₁.extBut D.i2z).extBut hs₂.extBut D.i12.symm) ((hl2.extBut hs₁.extBut D.l2z).extBut hs₂.extBut D.l2i1) hy fun h₃ h2₃ hs₃ => wpAny_pure ?_)
    refine wpAny_pure (wpAny_pure ?_)
    show wpAny _ _ (newTuple [x, y] >>= _) _ _ _
    refine wpAny_bind (wpAny_newTuple ?_)
    have hsz : h₃.objs.size = s.heap.objs.size := by rw [hs₃.1, hs₂.1, hs₁.1]
    have hz₃ : IsZipHeld h₃ z TI TO T true := hs₃.extBut _ _ D.i2z.symm (hs₂.extBut _ _ D.i1z.symm hz₁)
    have hk : ∀ c o, c ≠ z → c ≠ i1 → c ≠ i2 → s.heap.get? c = some o → h₃.get? c = some o := fun c o c1 c2 c3 e => hs₃.extBut _ _ c3 (hs₂.extBut _ _ c2 (hs₁.extBut _ _ c1 e))
    have h1₃ : h₃.IsTupleIter i1 l1 (k1 + 1) := h1₂.extBut hs₃.extBut D.i12
    refine wpAny_pure ⟨_, rfl, ?_⟩
    show Q (some (.ref h₃.objs.size)) _
    have hp : IsPair (h₃.push { cls := .type "tuple", data := .seq #[x, y] }) h₃.objs.size x y := Heap.get?_push_size _ rfl
    have hz4 : (h₃.push { cls := .type "tuple", data := .seq #[x, y] }).objs.size = h₃.objs.size + 1 := Heap.size_push ..
    rw [hsz] at hp hz4 ⊢
    exact hQ _ (Heap.get?_push_of_some _ hz₃) (h1₃.at fun o e => Heap.get?_push_of_some _ e) (h2₃.at fun o e => Heap.get?_push_of_some _ e) hp hz4 fun c o c1 c2 c3 e => Heap.get?_push_of_some _ (hk c o c1 c2 c3 e)
  unfold pyNext
  refine wpAny_bind (wpAny_attempt (wpAny_callSpecial?_slot (name := Str.ofString "__next__") hTy F.slot_zip_next
    (wpAny_call_entry F.slot_zip_next hTy F.entry_zip_next (wpAny_mono nx (fun fin s' hq => ?_) fun _ _ x => x) (F.args_zip_next_1 _))))
  obtain ⟨v, rfl, q⟩ := hq
  exact ⟨v, rfl, wpAny_pure q⟩
theorem zipT_end_held {z TI TO T i1 i2 l1 l2 : Addr} {f : Bool} {oT : Obj} {k1 : Nat} {xs : Array Value} {Q : Option Value → Shared → Prop} (hh : A.handled = none) (D : ZipApart z TI TO i1 i2 l1 l2)
    (hz : IsZipHeld s.heap z TI TO T f) (hT : s.heap.get? T = some oT) (hTI : IsPair s.heap TI (.ref i1) (.ref i2))
    (h1 : s.heap.IsTupleIter i1 l1 k1) (hl1 : s.heap.IsTuple l1 xs) (hx : xs[k1]? = none)
    (hQ : ∀ h', (∀ c o, c ≠ z → c ≠ i1 → c ≠ i2 → s.heap.get? c = some o → h'.get? c = some o) → Q none { s with heap := h' }) : wpAny (model prog w) A (pyNext (.ref z)) Q E s := by
  have hTy : s.TypeIs (.ref z) "zip" := ⟨_, hz, rfl⟩
  unfold pyNext
  refine wpAny_bind (wpAny_attempt (wpAny_callSpecial?_slot (name := Str.ofString "__next__") hTy F.slot_zip_next
    (wpAny_call_entry F.slot_zip_next hTy F.entry_zip_next ?_ (F.args_zip_next_1 _))))
  show wpAny _ _ (field (.ref z) 2 >>= _) _ _ _
  refine wpAny_bind (wpAny_field hz rfl (x := .bool false) rfl ?_)
  show wpAny _ _ (field (.ref z) 3 >>= _) _ _ _
  refine wpAny_bind (wpAny_field hz rfl (x := .ref TI) rfl ?_)
  refine wpAny_bind (wpAny_seqItems hTI rfl ?_)
  show wpAny _ _ (Builtin.SmallTypes.ownedTupleIsFree (.ref z) >>= _) _ _ _
  refine wpAny_bind (wpAny_tupleHeld_zip hz hT fun h₁ hz₁ hs₁ => ?_)
  simp only [Bool.false_eq_true, if_false]
  refine wpAny_bind ?_
  rw [← Array.forIn_toList]
  simp only [List.forIn_cons, List.forIn_nil]
  refine wpAny_bind (wpAny_bind (wpAny_holding ?_))
  show wpAny _ _ (Builtin.SmallTypes.nextOf (.ref i1) >>= _) _ _ _
  refine wpAny_bind (nextOf_tuple_end (s := { s with heap := h₁ }) hh (h1.extBut hs₁.extBut D.i1z) (hl1.extBut hs₁.extBut D.l1z) hx fun h₂ e hs₂ he => ?_)
  obtain ⟨o, ho, hc⟩ := he
  refine wpAny_bind (wpAny_isInstance (T := "StopIteration") (b := true) ⟨o, ho, hc⟩ isSubtype_stop ?_)
  exact wpAny_pure (hQ _ fun c o c1 c2 _ x => hs₂ _ _ c2 (hs₁.extBut _ _ c1 x))
end
/-- the zip ahead of its i-th pair -/
def ZSt (h : Heap) (z TI TO i1 i2 l1 l2 S : Addr) (xs ys : Array Value) (i : Nat) : Prop :=
  IsPair h TI (.ref i1) (.ref i2) ∧ h.IsTupleIter i1 l1 i ∧ h.IsTupleIter i2 l2 i ∧ h.IsTuple l1 xs ∧ h.IsTuple l2 ys ∧
    ((IsZip h z TI TO .none ∧ ∃ a b, IsPair h TO a b) ∨ ∃ T f oT, IsZipHeld h z TI TO T f ∧ h.get? T = some oT ∧ T ≠ z ∧ T ≠ i1 ∧ T ≠ i2 ∧ T ≠ S)
/-- where the zip's own objects lie, seen from the list at S -/
structure Sep (z TI TO i1 i2 l1 l2 S : Addr) : Prop where
  z : z < S
  TI : TI < S
  TO : TO < S
  i1 : i1 < S
  i2 : i2 < S
  l1 : l1 < S
  l2 : l2 < S
structure ZG (xs ys : Array Value) (lo : Addr) (h : Heap) (as : List Addr) : Prop where
  rise : as.Pairwise (· < ·)
  above : ∀ a ∈ as, lo < a
  pairs : ∀ (j : Nat) (a : Addr), as[j]? = some a → ∃ x y, xs[j]? = some x ∧ ys[j]? = some y ∧ IsPair h a x y
theorem ZG.there {xs ys : Array Value} {lo : Addr} {h : Heap} {as : List Addr} (g : ZG xs ys lo h as) {a : Addr} (ha : a ∈ as) : a < h.objs.size := by
  obtain ⟨j, hj⟩ := List.mem_iff_getElem?.mp ha
  obtain ⟨_, _, _, _, e⟩ := g.pairs j a hj
  exact Heap.lt_size e
theorem ZSt.keep {h h' : Heap} {z TI TO i1 i2 l1 l2 S : Addr} {xs ys : Array Value} {i : Nat} (p : Sep z TI TO i1 i2 l1 l2 S) (x : ZSt h z TI TO i1 i2 l1 l2 S xs ys i) (hk : ∀ b o, b ≠ S → h.get? b = some o → h'.get? b = some o) : ZSt h' z TI TO i1 i2 l1 l2 S xs ys i := by
  obtain ⟨a1, a2, a3, a4, a5, a6⟩ := x
  refine ⟨hk _ _ (Nat.ne_of_lt p.TI) a1, a2.at fun o e => hk _ o (Nat.ne_of_lt p.i1) e, a3.at fun o e => hk _ o (Nat.ne_of_lt p.i2) e, ?_, ?_, ?_⟩
  · obtain ⟨o, ho, r⟩ := a4
    exact ⟨o, hk _ _ (Nat.ne_of_lt p.l1) ho, r⟩
  · obtain ⟨o, ho, r⟩ := a5
    exact ⟨o, hk _ _ (Nat.ne_of_lt p.l2) ho, r⟩
  · rcases a6 with ⟨b1, a, b, b2⟩ | ⟨T, f, oT, b1, b2, b3, b4, b5, b6⟩
    · exact .inl ⟨hk _ _ (Nat.ne_of_lt p.z) b1, a, b, hk _ _ (Nat.ne_of_lt p.TO) b2⟩
    · exact .inr ⟨T, f, oT, hk _ _ (Nat.ne_of_lt p.z) b1, hk _ _ b6 b2, b3, b4, b5, b6⟩
section
variable {prog : Program} {w : World} {A : Around} {E : Value → Shared → Prop} {s : Shared} {z TI TO i1 i2 l1 l2 S : Addr} {xs ys : Array Value}
theorem tup_keep {h h' : Heap} {l : Addr} {xs : Array Value} (x : h.IsTuple l xs) (hk : ∀ o, h.get? l = some o → h'.get? l = some o) : h'.IsTuple l xs := by
  obtain ⟨o, ho, r⟩ := x
  exact ⟨o, hk _ ho, r⟩
theorem z_item {i : Nat} {x y : Value} {Q : Option Value → Shared → Prop} (D : ZipApart z TI TO i1 i2 l1 l2) (p : Sep z TI TO i1 i2 l1 l2 S) (hS : S < s.heap.objs.size) (hst : ZSt s.heap z TI TO i1 i2 l1 l2 S xs ys i) (hx : xs[i]? = some x) (hy : ys[i]? = some y)
    (hQ : ∀ h', ZSt h' z TI TO i1 i2 l1 l2 S xs ys (i + 1) → IsPair h' s.heap.objs.size x y → h'.objs.size = s.heap.objs.size + 1 → (∀ c o, c ≠ z → c ≠ TO → c ≠ i1 → c ≠ i2 → s.heap.get? c = some o → h'.get? c = some o) → Q (some (.ref s.heap.objs.size)) { s with heap := h' }) :
    wpAny (model prog w) A (pyNext (.ref z)) Q E s := by
  obtain ⟨a1, a2, a3, a4, a5, a6⟩ := hst
  have big : ∀ {b : Addr}, b < S → s.heap.objs.size ≠ b := fun {b} h => Nat.ne_of_gt (Nat.lt_trans h hS)
  rcases a6 with ⟨b1, a, b, b2⟩ | ⟨T, f, oT, b1, b2, b3, b4, b5, b6⟩
  · refine pyNext_zipT_item D b1 a1 b2 a2 a3 a4 a5 hx hy fun h' c1 c2 c3 c4 c5 c6 c7 => hQ h' ⟨c7 _ _ D.TIz D.TITO D.TIi1 D.TIi2 a1, c3, c4, tup_keep a4 fun o e => c7 _ o D.l1z D.l1TO D.l1i1 D.l1i2 e, tup_keep a5 fun o e => c7 _ o D.l2z D.l2TO D.l2i1 D.l2i2 e, .inr ⟨_, false, _, c1, c5, big p.z, big p.i1, big p.i2, Nat.ne_of_gt hS⟩⟩ c5 c6 c7
  · refine zipT_item_held D b1 b2 a1 a2 a3 a4 a5 hx hy fun h' c1 c3 c4 c5 c6 c7 => hQ h' ⟨c7 _ _ D.TIz D.TIi1 D.TIi2 a1, c3, c4, tup_keep a4 fun o e => c7 _ o D.l1z D.l1i1 D.l1i2 e, tup_keep a5 fun o e => c7 _ o D.l2z D.l2i1 D.l2i2 e, .inr ⟨T, true, oT, c1, c7 _ _ b3 b4 b5 b2, b3, b4, b5, b6⟩⟩ c5 c6 fun c o d1 _ d3 d4 e => c7 c o d1 d3 d4 e
theorem z_done {i : Nat} {Q : Option Value → Shared → Prop} (hh : A.handled = none) (D : ZipApart z TI TO i1 i2 l1 l2) (hst : ZSt s.heap z TI TO i1 i2 l1 l2 S xs ys i) (hx : xs[i]? = none)
    (hQ : ∀ h', (∀ c o, c ≠ z → c ≠ TO → c ≠ i1 → c ≠ i2 → s.heap.get? c = some o → h'.get? c = some o) → Q none { s with heap := h' }) : wpAny (model prog w) A (pyNext (.ref z)) Q E s := by
  obtain ⟨a1, a2, a3, a4, a5, a6⟩ := hst
  rcases a6 with ⟨b1, a, b, b2⟩ | ⟨T, f, oT, b1, b2, b3, b4, b5, b6⟩
  · exact pyNext_zipT_end hh D b1 a1 b2 a2 a3 a4 a5 (.inl hx) hQ
  · exact zipT_end_held hh D b1 b2 a1 a2 a4 hx fun h' k => hQ h' fun c o d1 _ d3 d4 e => k c o d1 d3 d4 e
end
section
variable {prog : Program} {w : World} {A : Around} {s : Shared} {R : Result → Shared → Prop} {z TI TO i1 i2 l1 l2 S : Addr} {xs ys : Array Value}
theorem z_loop (hh : A.handled = none) (D : ZipApart z TI TO i1 i2 l1 l2) (p : Sep z TI TO i1 i2 l1 l2 S) (hn : xs.size ≤ sizeLine) (hxy : xs.size = ys.size) (res : Value) {h₁ : Heap}
    (hR : ∀ h' tk acc c as, (∀ b o, b ≠ S → b ≠ z → b ≠ TO → b ≠ i1 → b ≠ i2 → h₁.get? b = some o → h'.get? b = some o) → h'.get? S = some { cls := .type "list", dict := none, data := .seq acc c, slots := #[] } → as.length = xs.size → ZG xs ys S h' as →
      acc.toList = as.map Value.ref → R (.ok (.ret res)) { s with heap := h', toks := tk }) :
    ∀ (k i : Nat) (h : Heap) (tk c : Nat) (acc : Array Value) (as : List Addr), xs.size - i = k → i ≤ xs.size → ZSt h z TI TO i1 i2 l1 l2 S xs ys i → (∀ b o, b ≠ S → b ≠ z → b ≠ TO → b ≠ i1 → b ≠ i2 → h₁.get? b = some o → h.get? b = some o) →
      h.get? S = some { cls := .type "list", dict := none, data := .seq acc c, slots := #[] } → acc.toList = as.map Value.ref → as.length = i → ZG xs ys S h as →
      codeAny (model prog w) A (.builtin "list.extend.loop" ⟨[.ref S, .ref z, res], []⟩) R { s with heap := h, toks := tk } := by
  have off : ∀ {a : Addr}, S < a → a ≠ z ∧ a ≠ TO ∧ a ≠ i1 ∧ a ≠ i2 := fun {a} h => ⟨Nat.ne_of_gt (Nat.lt_trans p.z h), Nat.ne_of_gt (Nat.lt_trans p.TO h), Nat.ne_of_gt (Nat.lt_trans p.i1 h), Nat.ne_of_gt (Nat.lt_trans p.i2 h)⟩
  have offS : S ≠ z ∧ S ≠ TO ∧ S ≠ i1 ∧ S ≠ i2 := ⟨Nat.ne_of_gt p.z, Nat.ne_of_gt p.TO, Nat.ne_of_gt p.i1, Nat.ne_of_gt p.i2⟩
  intro k
  induction k with
  | zero =>
    intro i h tk c acc as hk hi hst hkeep hS hacc hal hG
    have hin : i = xs.size := by omega
    refine codeAny_builtin PySem.F.entry_extend_loop ?_
    rw [Around.under_plainId PySem.F.plain_extend_loop _]
    show wpAny _ A.in1 (pyNext (.ref z) >>= _) _ _ _
    refine wpAny_bind (z_done (s := { s with heap := h, toks := tk }) (A := A.in1) hh D hst (Array.getElem?_eq_none (by omega)) fun h' he => ?_)
    refine wpAny_pure (hR h' tk acc c as (fun b o h1 h2 h3 h4 h5 e => he b o h2 h3 h4 h5 (hkeep b o h1 h2 h3 h4 h5 e)) (he S _ offS.1 offS.2.1 offS.2.2.1 offS.2.2.2 hS) (by omega) ⟨hG.rise, hG.above, fun j a hj => ?_⟩ hacc)
    obtain ⟨x, y, e1, e2, e3⟩ := hG.pairs j a hj
    obtain ⟨o1, o2, o3, o4⟩ := off (hG.above a (List.mem_of_getElem? hj))
    exact ⟨x, y, e1, e2, he a _ o1 o2 o3 o4 e3⟩
  | succ k ih =>
    intro i h tk c acc as hk hi hst hkeep hS hacc hal hG
    have hlt : i < xs.size := by omega
    have hx : xs[i]? = some xs[i] := Array.getElem?_eq_getElem hlt
    have hlt2 : i < ys.size := by omega
    have hy : ys[i]? = some ys[i] := Array.getElem?_eq_getElem hlt2
    have hsz : acc.size = i := by rw [← Array.length_toList, hacc, List.length_map, hal]
    have hSl : S < h.objs.size := Heap.lt_size hS
    refine codeAny_builtin PySem.F.entry_extend_loop ?_
    rw [Around.under_plainId PySem.F.plain_extend_loop _]
    show wpAny _ A.in1 (pyNext (.ref z) >>= _) _ _ _
    refine wpAny_bind (z_item (s := { s with heap := h, toks := tk }) D p hSl hst hx hy fun h' hst' ht hz hkp => ?_)
    dsimp only at ht hz hkp ⊢
    have hS' := hkp S _ offS.1 offS.2.1 offS.2.2.1 offS.2.2.2 hS
    have up : ∀ b o, b ≠ S → h'.get? b = some o → (h'.update S (Obj.mapSeq (·.push (Value.ref h.objs.size)))).get? b = some o := fun b o hb e => (Heap.get?_update_other _ _ (Ne.symm hb)).trans e
    show wpAny _ A.in1 (updateSeq S (·.push (Value.ref h.objs.size)) >>= _) _ _ _
    refine wpAny_bind ?_
    refine wpAny_updateSeq hS' rfl (wpAny_pure ⟨plainId_quiet PySem.F.plain_extend_loop _, ih (i + 1) _ tk _ (acc.push (Value.ref h.objs.size)) (as ++ [h.objs.size]) (by omega) hlt (hst'.keep p up)
      (fun b o h1 h2 h3 h4 h5 e => up b o h1 (hkp b o h2 h3 h4 h5 (hkeep b o h1 h2 h3 h4 h5 e))) (Heap.get?_update_self _ hS' rfl) (by rw [Array.toList_push, hacc, List.map_append]; rfl) (by rw [List.length_append, hal]; rfl) ⟨?_, ?_, ?_⟩⟩) (by rw [hsz]; omega) (by show (acc.push (Value.ref h.objs.size)).size ≤ sizeLine + 1; rw [Array.size_push, hsz]; omega)
    · refine List.pairwise_append.mpr ⟨hG.rise, List.pairwise_singleton _ _, fun a ha b hb => ?_⟩
      rw [List.mem_singleton.mp hb]
      exact hG.there ha
    · intro a ha
      rcases List.mem_append.mp ha with ha | ha
      · exact hG.above a ha
      · rw [List.mem_singleton.mp ha]; exact hSl
    · intro j b hj
      rcases Nat.lt_trichotomy j as.length with h1 | h1 | h1
      · rw [List.getElem?_append_left h1] at hj
        obtain ⟨x', y', e1, e2, e3⟩ := hG.pairs j b hj
        have hb := hG.above b (List.mem_of_getElem? hj)
        obtain ⟨o1, o2, o3, o4⟩ := off hb
        exact ⟨x', y', e1, e2, up b _ (Nat.ne_of_gt hb) (hkp b _ o1 o2 o3 o4 e3)⟩
      · subst h1
        have hb : h.objs.size = b := by simpa using hj
        subst hb
        exact ⟨_, _, by rw [hal]; exact hx, by rw [hal]; exact hy, up _ _ (Nat.ne_of_gt hSl) ht⟩
      · have hnone : (as ++ [h.objs.size])[j]? = none := List.getElem?_eq_none (by rw [List.length_append, List.length_singleton]; omega)
        rw [hnone] at hj; cases hj
end
theorem zip_no_len : typeLookup (.type "zip") "__len__" = pure none := by rw [typeLookup_type, builtinLookup_eq_fast]; kernel_rfl
theorem zip_no_hint : typeLookup (.type "zip") "__length_hint__" = pure none := by rw [typeLookup_type, builtinLookup_eq_fast]; kernel_rfl
section
variable {prog : Program} {w : World} {A : Around} {E : Value → Shared → Prop} {s : Shared} {R : Result → Shared → Prop} {z TI TO i1 i2 l1 l2 S : Addr} {xs ys : Array Value}
theorem z_extend (hh : A.handled = none) (D : ZipApart z TI TO i1 i2 l1 l2) (p : Sep z TI TO i1 i2 l1 l2 S) (hn : xs.size ≤ sizeLine) (hxy : xs.size = ys.size) (res : Value) (c₀ : Nat) (hS : s.heap.get? S = some { cls := .type "list", data := .seq #[] c₀ })
    (hz : IsZip s.heap z TI TO .none) (hst : ZSt s.heap z TI TO i1 i2 l1 l2 S xs ys 0)
    (hR : ∀ h' tk acc c as, (∀ b o, b ≠ S → b ≠ z → b ≠ TO → b ≠ i1 → b ≠ i2 → s.heap.get? b = some o → h'.get? b = some o) → h'.get? S = some { cls := .type "list", dict := none, data := .seq acc c, slots := #[] } → as.length = xs.size → ZG xs ys S h' as →
      acc.toList = as.map Value.ref → R (.ok (.ret res)) { s with heap := h', toks := tk }) :
    wpAny (model prog w) A.in1 (Builtin.List.listExtendWith (.ref S) (.ref z) res)
      (fun fin s' => match fin with | .done f => R (.ok f) s' | .again c' => c'.quiet = true ∧ codeAny (model prog w) A c' R s') (fun e s' => R (.error e) s') s := by
  have hT : s.TypeIs (.ref z) "zip" := ⟨_, hz, rfl⟩
  unfold Builtin.List.listExtendWith
  refine wpAny_bind (wpAny_typeOf hT ?_)
  have h1 : Builtin.List.listSameRef (.ref S) (.ref z) = false := by simp [Builtin.List.listSameRef, Nat.ne_of_gt p.z]
  have h2 : (Value.type "zip" == Value.type "list") = false := by decide
  have h3 : (Value.type "zip" == Value.type "tuple") = false := by decide
  simp only [h1, h2, h3, Bool.or_false, Bool.false_eq_true, if_false]
  refine wpAny_bind (wpAny_pyIter_zip hz ?_)
  refine wpAny_bind (wpAny_holding ?_)
  unfold Builtin.List.listLengthHint
  refine wpAny_bind (wpAny_specialOf hT zip_no_len ?_)
  show wpAny _ A.in1 (specialOf (Value.ref z) (Str.ofString "__length_hint__") >>= _) _ _ _
  refine wpAny_bind (wpAny_specialOf hT zip_no_hint ?_)
  refine wpAny_pure ?_
  show wpAny _ A.in1 (rule "list.extend.makes-room" >>= fun _ => Builtin.List.listTouch (.ref S) >>= fun _ =>
    again (.builtin "list.extend.loop" ⟨[.ref S, .ref z, res], []⟩)) _ _ _
  refine wpAny_bind (wpAny_rule ?_)
  refine wpAny_bind ?_
  show wpAny _ A.in1 (updateSeq S (·.push .none) >>= fun _ => updateSeq S (·.pop)) _ _ _
  refine wpAny_bind (wpAny_updateSeq hS rfl ?_)
  have hS₂ := Heap.get?_update_self (Obj.mapSeq (·.push Value.none)) hS rfl
  refine wpAny_updateSeq (hz := by seq_fits) hS₂ rfl ?_
  have hS₃ := Heap.get?_update_self (Obj.mapSeq (·.pop)) hS₂ rfl
  have oth : ∀ b o, b ≠ S → s.heap.get? b = some o → ((s.heap.update S (Obj.mapSeq (·.push Value.none))).update S (Obj.mapSeq (·.pop))).get? b = some o :=
    fun b o hb e => (Heap.get?_update_other _ _ (Ne.symm hb)).trans ((Heap.get?_update_other _ _ (Ne.symm hb)).trans e)
  refine wpAny_pure ⟨plainId_quiet F.plain_extend_loop _, z_loop (s := s) (h₁ := s.heap) hh D p hn hxy res hR xs.size 0 _ s.toks _ #[] [] (Nat.sub_zero _) (Nat.zero_le _) (hst.keep p oth) (fun b o hb _ _ _ _ e => oth b o hb e) hS₃ rfl rfl
    ⟨List.Pairwise.nil, (fun _ ha => nomatch ha), (fun j a hj => by simp at hj)⟩⟩
theorem z_init (hh : A.handled = none) (D : ZipApart z TI TO i1 i2 l1 l2) (p : Sep z TI TO i1 i2 l1 l2 S) (hn : xs.size ≤ sizeLine) (hxy : xs.size = ys.size) (hS : s.heap.get? S = some { cls := .type "list", data := .seq #[] })
    (hz : IsZip s.heap z TI TO .none) (hst : ZSt s.heap z TI TO i1 i2 l1 l2 S xs ys 0)
    (hR : ∀ h' tk acc c as, (∀ b o, b ≠ S → b ≠ z → b ≠ TO → b ≠ i1 → b ≠ i2 → s.heap.get? b = some o → h'.get? b = some o) → h'.get? S = some { cls := .type "list", dict := none, data := .seq acc c, slots := #[] } → as.length = xs.size → ZG xs ys S h' as →
      acc.toList = as.map Value.ref → R (.ok (.ret .none)) { s with heap := h', toks := tk }) :
    wpAny (model prog w) A.in1 (Builtin.«list.__init__» ⟨[.ref S, .ref z], []⟩)
      (fun fin s' => match fin with | .done f => R (.ok f) s' | .again c' => c'.quiet = true ∧ codeAny (model prog w) A c' R s') (fun e s' => R (.error e) s') s := by
  show wpAny _ _ (do let old ← Builtin.List.listItems (.ref S); Builtin.List.listUpdate (.ref S) (fun _ => #[]); letGo old.toList.reverse; Builtin.List.listExtendWith (.ref S) (.ref z) .none) _ _ s
  refine wpAny_bind ?_
  unfold Builtin.List.listItems
  refine wpAny_bind (wpAny_seqItems hS rfl (wpAny_pure ?_))
  show wpAny _ _ (updateSeq S (fun _ => #[]) >>= fun _ => letGo (#[] : Array Value).toList.reverse >>= fun _ => Builtin.List.listExtendWith (.ref S) (.ref z) .none) _ _ s
  refine wpAny_bind (wpAny_updateSeq hS rfl ?_)
  have hS₂ := Heap.get?_update_self (Obj.mapSeq (fun _ => (#[] : Array Value))) hS rfl
  have oth : ∀ b o, b ≠ S → s.heap.get? b = some o → (s.heap.update S (Obj.mapSeq (fun _ => (#[] : Array Value)))).get? b = some o :=
    fun b o hb e => (Heap.get?_update_other _ _ (Ne.symm hb)).trans e
  refine wpAny_bind (wpAny_letGo ?_)
  exact z_extend hh D p hn hxy .none _ hS₂ (oth _ _ (Nat.ne_of_lt p.z) hz) (hst.keep p oth) fun h' tk acc c as hk hS' hl hG hacc => hR h' tk acc c as (fun b o hb h2 h3 h4 h5 e => hk b o hb h2 h3 h4 h5 (oth b o hb e)) hS' hl hG hacc
theorem z_call {Q : Value → Shared → Prop} (hh : A.handled = none) (D : ZipApart z TI TO i1 i2 l1 l2) (p : Sep z TI TO i1 i2 l1 l2 s.heap.objs.size) (hn : xs.size ≤ sizeLine) (hxy : xs.size = ys.size) (hz : IsZip s.heap z TI TO .none) (hst : ZSt s.heap z TI TO i1 i2 l1 l2 s.heap.objs.size xs ys 0)
    (hQ : ∀ h' tk acc c as, (∀ b o, b ≠ z → b ≠ TO → b ≠ i1 → b ≠ i2 → s.heap.get? b = some o → h'.get? b = some o) → h'.get? s.heap.objs.size = some { cls := .type "list", dict := none, data := .seq acc c, slots := #[] } → as.length = xs.size → ZG xs ys s.heap.objs.size h' as →
      acc.toList = as.map Value.ref → Q (.ref s.heap.objs.size) { s with heap := h', toks := tk }) :
    wpAny (model prog w) A (call (.type "list") [.ref z]) Q E s := by
  refine callType_codes (Q₁ := fun obj s₁ => obj = .ref s.heap.objs.size ∧ s₁ = { s with heap := s.heap.push { cls := .type "list", data := .seq #[] } }) PySem.F.called_list (PySem.F.typeCall_list_1 _) PySem.F.entry_list_init
    (code_list_new _ ⟨rfl, rfl⟩) fun obj s₁ h₁ => ?_
  obtain ⟨rfl, rfl⟩ := h₁
  have hS : (s.heap.push { cls := .type "list", data := .seq #[] }).get? s.heap.objs.size = some { cls := .type "list", data := .seq #[] } := Heap.get?_push_size _ rfl
  refine ⟨⟨_, hS, rfl⟩, PySem.F.args_list_init_2 _ _, z_init (A := A.in1) hh D p hn hxy hS (Heap.get?_push_of_some _ hz) (hst.keep p fun b o _ e => Heap.get?_push_of_some _ e) fun h' tk acc c as hk hS' hl hG hacc => ?_⟩
  exact ⟨rfl, hQ h' tk acc c as (fun b o h2 h3 h4 h5 e => hk b o (Nat.ne_of_lt (Heap.lt_size e)) h2 h3 h4 h5 (Heap.get?_push_of_some _ e)) hS' hl hG hacc⟩
end
end XZ

/-! list(zip(a, b)) of two tuples, over the layer -/
namespace XZ
open PySem PySem.Spec PyProof.Rows L2 RZ
def putZ : Hp → List Addr → List (V × V) → Hp
  | H, a :: as, p :: r => putZ (upd H a (.tup [p.1, p.2])) as r
  | H, _, _ => H
theorem putZ_off {b : Addr} : ∀ (as : List Addr) (r : List (V × V)) (H : Hp), b ∉ as → putZ H as r b = H b
  | [], _, _, _ => rfl
  | _ :: _, [], _, _ => rfl
  | a :: as, p :: r, H, h => by
    show putZ (upd H a (.tup [p.1, p.2])) as r b = H b
    rw [putZ_off as r _ (fun z => h (List.mem_cons_of_mem _ z)), upd_ne (fun z => h (by rw [z]; exact List.mem_cons_self))]
theorem putZ_at : ∀ (as : List Addr) (r : List (V × V)) (H : Hp), as.Nodup → ∀ (j : Nat) (t : Addr) (p : V × V), as[j]? = some t → r[j]? = some p → putZ H as r t = some (.tup [p.1, p.2])
  | [], _, _, _, j, t, p, h, _ => by cases h
  | _ :: _, [], _, _, j, t, p, _, h => by cases h
  | a :: as, q :: r, H, hn, 0, t, p, h1, h2 => by
    cases h1; cases h2
    show putZ (upd H a (.tup [q.1, q.2])) as r a = _
    rw [putZ_off as r _ (List.nodup_cons.mp hn).1, upd_same]
  | a :: as, q :: r, H, hn, j + 1, t, p, h1, h2 => putZ_at as r _ (List.nodup_cons.mp hn).2 j t p h1 h2
theorem vals_get {xs : List V} {us : List Value} (h : Vals xs us) : ∀ {j : Nat} {u : Value}, us[j]? = some u → ∃ v, xs[j]? = some v ∧ RelV v u := by
  induction h with
  | nil => intro j u e; cases e
  | cons r t ih =>
    intro j u e
    cases j with
    | zero => cases e; exact ⟨_, rfl, r⟩
    | succ j => exact ih e
section
variable {X : Cx} {pins : List (Addr × Obj)} {σ : L2.St} {H : Hp} {s : Shared}
theorem zip_laid {h' : Heap} {tk : Nat} {xs ys : List V} {us ws : List Value} {acc : Array Value} {c : Nat} {as : List Addr} {p : Addr} (I : Inv X pins σ H s) (hz : xs.length ≤ sizeLine) (rx : Vals xs us) (ry : Vals ys ws) (hxy : xs.length = ys.length)
    (hk : ∀ b o, s.heap.get? b = some o → h'.get? b = some o) (hp : s.heap.objs.size ≤ p) (hS : h'.get? p = some { cls := .type "list", dict := none, data := .seq acc c, slots := #[] }) (hl : as.length = us.length) (hG : ZG us.toArray ws.toArray p h' as) (hacc : acc.toList = as.map Value.ref) :
    ∃ H' : Hp, (∀ b o, H b = some o → H' b = some o) ∧ H p = none ∧ H' p = some (.lst (as.map V.ref)) ∧ (∀ (j : Nat) (t : Addr), as[j]? = some t → ∃ x y, xs[j]? = some x ∧ ys[j]? = some y ∧ H' t = some (.tup [x, y])) ∧ Inv X pins σ H' { s with heap := h', toks := tk } := by
  have lx : xs.length = us.length := Paired.length rx
  have nd : as.Nodup := List.Pairwise.imp (fun {a b} (h : a < b) => Nat.ne_of_lt h) hG.rise
  have hSn : p ∉ as := fun z => Nat.lt_irrefl _ (hG.above _ z)
  have new : ∀ t ∈ as, H t = none := fun t ht => I.hok.fresh (Nat.le_trans hp (Nat.le_of_lt (hG.above t ht)))
  have newS : H p = none := I.hok.fresh hp
  have atP := putZ_at as (xs.zip ys) (upd H p (.lst (as.map V.ref))) nd
  have off : ∀ b, b ∉ as → b ≠ p → putZ (upd H p (.lst (as.map V.ref))) as (xs.zip ys) b = H b := fun b h1 h2 => by rw [putZ_off as _ _ h1, upd_ne h2]
  have low : ∀ b o, s.heap.get? b = some o → b ∉ as ∧ b ≠ p := fun b o e => ⟨fun z => absurd (Heap.lt_size e) (Nat.not_lt.mpr (Nat.le_trans hp (Nat.le_of_lt (hG.above b z)))), Nat.ne_of_lt (Nat.lt_of_lt_of_le (Heap.lt_size e) hp)⟩
  have kp : ∀ b u, H b = some u → (putZ (upd H p (.lst (as.map V.ref))) as (xs.zip ys)) b = some u := fun b u e => by
    rw [off b (fun z => by rw [new b z] at e; cases e) (fun z => by rw [z, newS] at e; cases e)]
    exact e
  have eS : putZ (upd H p (.lst (as.map V.ref))) as (xs.zip ys) p = some (.lst (as.map V.ref)) := by rw [putZ_off as _ _ hSn, upd_same]
  have pr : ∀ (j : Nat) (t : Addr), as[j]? = some t → ∃ x y, xs[j]? = some x ∧ ys[j]? = some y ∧ putZ (upd H p (.lst (as.map V.ref))) as (xs.zip ys) t = some (.tup [x, y]) := fun j t hj => by
    have hj' : j < xs.length := by rw [lx, ← hl]; exact (List.getElem?_eq_some_iff.mp hj).1
    have hj2 : j < ys.length := by omega
    refine ⟨xs[j], ys[j], List.getElem?_eq_getElem hj', List.getElem?_eq_getElem hj2, ?_⟩
    exact atP j t (xs[j], ys[j]) hj (by rw [List.getElem?_zip_eq_some]; exact ⟨List.getElem?_eq_getElem hj', List.getElem?_eq_getElem hj2⟩)
  refine ⟨putZ (upd H p (.lst (as.map V.ref))) as (xs.zip ys), kp, newS, eS, pr, ?_⟩
  refine I.call' (ch := []) rfl ⟨fun b o q _ _ _ => hk b o q, fun b o q _ _ _ => ⟨o.slots, hk b o q⟩, fun b o q n _ => ?_, fun b o q _ => ⟨o, hk b o q⟩, fun b xs q => kp b _ q, fun b o u q => kp b _ q, fun b ps q => ⟨#[], by rw [kp b _ q]; simp⟩⟩ (fun b u q => ?_) I.bare fun b z => by simp at z
  · obtain ⟨z1, z2⟩ := low b o q
    rw [off b z1 z2]
    exact n
  · by_cases hb : b ∈ as
    · obtain ⟨j, hj⟩ := List.mem_iff_getElem?.mp hb
      obtain ⟨x, y, e1, e2, e3⟩ := pr j b hj
      rw [e3] at q
      cases q
      obtain ⟨u1, u2, f1, f2, f3⟩ := hG.pairs j b hj
      obtain ⟨v1, g1, r1⟩ := vals_get rx (j := j) (u := u1) (by simpa using f1)
      obtain ⟨v2, g2, r2⟩ := vals_get ry (j := j) (u := u2) (by simpa using f2)
      rw [e1] at g1
      rw [e2] at g2
      cases g1
      cases g2
      exact ⟨by show 2 ≤ sizeLine; decide, [u1, u2], .cons r1 (.cons r2 .nil), ⟨_, f3, rfl, _, rfl⟩⟩
    · by_cases hb2 : b = p
      · rw [hb2] at q ⊢
        rw [eS] at q
        cases q
        refine ⟨by rw [List.length_map]; omega, acc.toList, c, by rw [hacc]; exact LiI.vals_refs as, ?_⟩
        rw [Array.toArray_toList]
        exact hS
      · rw [off b hb hb2] at q
        exact (I.hok b u q).stay (fun d v _ y => hk d v y) (fun d y => kp d _ y) fun d xs y => kp d _ y
end
def tListZip (K : PySem.W.Frag) (ta : TA) : TE := fun σ H Q => ta σ H fun vs H1 => ∃ a b xs ys, vs = [.ref a, .ref b] ∧ SqT K H1 a xs ∧ SqT K H1 b ys ∧ xs.length = ys.length ∧
  ∀ (H' : Hp) (p : Addr) (ts : List Addr), (∀ b o, H1 b = some o → H' b = some o) → H1 p = none → H' p = some (.lst (ts.map V.ref)) → ts.length = xs.length → (∀ (j : Nat) (t : Addr), ts[j]? = some t → ∃ x y, xs[j]? = some x ∧ ys[j]? = some y ∧ H' t = some (.tup [x, y])) → Q (.ref p) H'
/-- list(zip(e, e2)) -/
theorem pe_listZip {X : Cx} {e e2 : Expr} {ta : TA} {p p2 pos pos2 : Pos} (hc : X.calm = true) (hg : Gl X "list") (hm : X.mg "list" = none) (hv : bootBuiltins "list" = some (.type "list")) (hg2 : Gl X "zip") (hm2 : X.mg "zip" = none) (ha : PA X [e, e2] ta)
    (hs2 : starEach [e, e2] X.env = (false, eval e X.env) :: starEach [e2] X.env := by rfl) (hpl2 : (backTo pos2 (starEach [e2] X.env)).any (·.1) = false := by rfl)
    (hs : starEach [.Call (.Name "zip" p2) [e, e2] [] pos2] X.env = (false, eval (.Call (.Name "zip" p2) [e, e2] [] pos2) X.env) :: starEach [] X.env := by rfl) :
    PE X (.Call (.Name "list" p) [.Call (.Name "zip" p2) [e, e2] [] pos2] [] pos) (tListZip X.K ta) := by
  refine ⟨fun pins s σ H Q I hq => ?_⟩
  refine wpAny_Call_Name_kw (ld_blt I hg hm hv ?_)
  refine PyProof.Rows.callWith_type1 ?_ hs rfl
  rw [hs]
  show wpAny _ _ (spliced ((false, eval (.Call (.Name "zip" p2) [e, e2] [] pos2) X.env) :: backTo pos (starEach [] X.env))) _ _ s
  refine Calls.spliced_cons ?_
  refine Call_ (ld_blt I hg2 hm2 PyProof.Rows.boot_zip (PyProof.Rows.callWith_type1 (thn (ha.run pos2 pins s σ H _ I hq) fun us s1 ⟨vs, H1, I1, r1, q1⟩ => ?_) hs2 hpl2))
  obtain ⟨a, b, xs, ys, ex, hqx, hqy, hxy, q⟩ := q1
  subst ex
  cases r1 with
  | cons r rr =>
  cases rr with
  | cons r' rr =>
  cases rr
  cases r
  cases r'
  obtain ⟨its, rv, p1, hz1⟩ := I1.tuple hqx
  obtain ⟨its2, rv2, p2', hz2⟩ := I1.tuple hqy
  obtain ⟨o1, ho1, _⟩ := id p1
  obtain ⟨o2, ho2, _⟩ := id p2'
  have la := Heap.lt_size ho1
  have lb := Heap.lt_size ho2
  have D := PySem.W.ktu_apart s1.heap.objs.size a b la lb
  have e1 : xs.length = its.length := Paired.length rv
  have e2 : ys.length = its2.length := Paired.length rv2
  refine call_zipT (show s1.heap.IsTuple a its.toArray from p1) (show s1.heap.IsTuple b its2.toArray from p2') fun h' hz hTI hTO h1 h2 hsz hk => ?_
  refine Calls.spliced_nil ?_
  refine z_call (s := { s1 with heap := h' }) (xs := its.toArray) (ys := its2.toArray) (I1.ok.hd hc) D ⟨by show _ < h'.objs.size; omega, by show _ < h'.objs.size; omega, by show _ < h'.objs.size; omega, by show _ < h'.objs.size; omega, by show _ < h'.objs.size; omega, Nat.lt_of_lt_of_le la (hsz ▸ Nat.le_add_right _ _), Nat.lt_of_lt_of_le lb (hsz ▸ Nat.le_add_right _ _)⟩
    (by rw [List.size_toArray]; omega) (by rw [List.size_toArray, List.size_toArray]; omega) hz ⟨hTI, h1, h2, tup_keep p1 fun o e => hk _ o e, tup_keep p2' fun o e => hk _ o e, .inl ⟨hz, _, _, hTO⟩⟩ fun h2 tk acc c as hk2 hS hl hG hacc => ?_
  have hkk : ∀ b o, s1.heap.get? b = some o → h2.get? b = some o := fun b o e => by
    have hb : b < s1.heap.objs.size := Heap.lt_size e
    have ge : ∀ k : Nat, b ≠ s1.heap.objs.size + k := fun k z => absurd hb (by rw [z]; exact Nat.not_lt.mpr (Nat.le_add_right _ _))
    exact hk2 b o (ge 4) (ge 3) (ge 0) (ge 1) (hk b o e)
  obtain ⟨H', k1, k2, k3, k4, J⟩ := zip_laid (tk := tk) (p := h'.objs.size) I1 (by omega) rv rv2 hxy hkk (hsz ▸ Nat.le_add_right _ _) hS (by rw [hl, List.size_toArray]) hG hacc
  exact ⟨.ref _, H', J, rfl, q H' _ as k1 k2 k3 (by rw [hl, List.size_toArray]; omega) k4⟩
end XZ

/-! == of an own instance with any value; x in a list of bools and such instances -/
namespace XR
open PySem PySem.Spec PyProof.Rows L2
section
variable {X : Cx} {C f : Addr} {fd : FuncData} {ps : List Str} {n : Nat} {sp : Sp}
/-- the own __eq__ called from inside richCompare -/
theorem own_eq_call {A : Around} {pins : List (Addr × Obj)} {σ : L2.St} {H : Hp} {s : Shared} {x y : V} {u v : Value} {Q : VK} (F : FnOk X.prog X.w X.K X.mg X.base CX0 n f fd ps sp) (hb : Binds X.K fd ps []) (sb : Sub X n A) (I : Inv X pins σ H s) (rx : RelV x u) (ry : RelV y v)
    (hsp : sp [x, y] H (fun v H' => (∃ b, v = .bl b) ∧ Q v H') E0) : wpAny (model X.prog X.w) A (call (.ref f) [u, v]) (fun w' s' => ∃ b H', w' = .bool b ∧ Inv X pins σ H' s' ∧ Q (.bl b) H') X.xe s := by
  have e0 : Env0 X.prog X.w X.K X.mg X.base A X.stack s H := by
    have e := I.env0
    exact ⟨by rw [sb.fr]; exact e.frames, e.mod, e.bs, e.bsz, e.funs, e.frf, e.hok, e.bare⟩
  have hl := F.len _ _ _ _ hsp
  have r2 : Vals [x, y] [u, v] := .cons rx (.cons ry .nil)
  refine wpAny_call (codeAny_mono (F.run A X.stack s H ⟨[u, v], []⟩ [u, v] [x, y] _ E0 sb.room e0 (by
    have := hb s [u, v] I.kIn (by simpa using hl)
    simpa using this) r2 hsp) fun r s' hq => ?_)
  cases r with
  | error e => exact (show False from hq).elim
  | ok fl =>
    cases fl with
    | ret w =>
      obtain ⟨z, H', I', rz, ⟨b, ez⟩, q⟩ := I.after hq
      subst ez
      cases rz
      exact ⟨b, H', rfl, I', q⟩
    | next => exact False.elim hq
    | brk => exact False.elim hq
    | cont => exact False.elim hq
/-- the left one an own instance, the right one anything -/
theorem rc_own {A : Around} {pins : List (Addr × Obj)} {σ : L2.St} {H : Hp} {s : Shared} {a dx : Addr} {fs : List (Str × V)} {y : V} {v t : Value} {Q : VK} (F : FnOk X.prog X.w X.K X.mg X.base CX0 n f fd ps sp)
    (hs : PySem.W.findIn X.K (.ref C) "__eq__" = some (some (.ref f))) (hf : PySem.W.isFn X.K (.ref f) = true) (hb : Binds X.K fd ps []) (sb : Sub X n A) (I : Inv X pins σ H s) (ry : RelV y v) (ha : H a = some (.ins C dx fs)) (ty : TyX X.K H y t) (hn : PySem.W.notFirst X.K C t = true)
    (hsp : sp [.ref a, y] H (fun v H' => (∃ b, v = .bl b) ∧ Q v H') E0) : wpAny (model X.prog X.w) A (richCompare .Eq (.ref a) v) (fun w' s' => ∃ b H', w' = .bool b ∧ Inv X pins σ H' s' ∧ Q (.bl b) H') X.xe s := by
  obtain ⟨mA, J, _⟩ := ins_get I.hok ha
  obtain ⟨od, J, _⟩ := J.look
  obtain ⟨m, hF⟩ := I.fr
  obtain ⟨Pk, Z, hP, _⟩ := kit_of I ry ty
  refine PySem.W.cmp_K (op := .Eq) (tb := t) sb.room.units0 hF I.ok.mod.kin J (Z.ty _ _ I.kIn hP) hn hs hf ?_
  refine wpAny_mono (own_eq_call F hb sb I (x := .ref a) rfl ry hsp) (fun w' s' hq => ?_) fun _ _ x => x
  obtain ⟨b, H', rfl, q⟩ := hq
  exact ⟨b, H', rfl, q⟩
def rEqU (K : PySem.W.Frag) (C : Addr) (sp : Sp) : R2 := fun x y H Q => ∃ a dx fs t, x = .ref a ∧ H a = some (.ins C dx fs) ∧ TyX K H y t ∧ PySem.W.notFirst K C t = true ∧ sp [x, y] H (fun v H' => (∃ b, v = .bl b) ∧ Q v H') E0
theorem op_eqU (F : FnOk X.prog X.w X.K X.mg X.base CX0 n f fd ps sp) (hs : PySem.W.findIn X.K (.ref C) "__eq__" = some (some (.ref f))) (hf : PySem.W.isFn X.K (.ref f) = true) (hb : Binds X.K fd ps []) (hr : Room n X.A) :
    OpR X (compareOp .Eq) (rEqU X.K C sp) := by
  intro pins s σ H x y v u Q I rx ry h
  obtain ⟨a, dx, fs, t, rfl, ha, ty, hn, hsp⟩ := h
  obtain rfl : v = Value.ref a := rx
  show wpAny (model X.prog X.w) X.A (richCompare .Eq (.ref a) u) (EP X pins σ Q) X.xe s
  refine wpAny_mono (rc_own F hs hf hb ⟨hr, rfl⟩ I ry ha ty hn hsp) (fun w' s' hq => ?_) fun _ _ x => x
  obtain ⟨b, H', rfl, I', q⟩ := hq
  exact ⟨.bl b, H', I', rfl, q⟩
theorem int_declines_plain (b : Bool) (l : Addr) (c : Value) (dd : Option Addr) (sl : Array (Option Value)) :
    Meets (Builtin.«int.__eq__» ⟨[.bool b, .ref l], []⟩) (fun _ R s => s.heap.get? l = some { cls := c, dict := dd, data := .plain, slots := sl } ∧ R (.ok (.ret .notImplemented)) s) :=
  .of_wp fun prog w A R s h => by obtain ⟨hp, g, d, tk, os⟩ := s; obtain ⟨hl, h⟩ := h; wp_walk using AutoSeq1.wpAny_loadPart' hl, wpAny_load hl; exact ⟨_, rfl, h⟩
/-- a bool on the left, an own instance on the right -/
theorem rc_bool_own {A : Around} {pins : List (Addr × Obj)} {σ : L2.St} {H : Hp} {s : Shared} {a dx : Addr} {fs : List (Str × V)} {b : Bool} {Q : VK} (F : FnOk X.prog X.w X.K X.mg X.base CX0 n f fd ps sp)
    (hs : PySem.W.findIn X.K (.ref C) "__eq__" = some (some (.ref f))) (hf : PySem.W.isFn X.K (.ref f) = true) (hb : Binds X.K fd ps []) (sb : Sub X n A) (I : Inv X pins σ H s) (ha : H a = some (.ins C dx fs)) (hsub : PySem.W.subIn X.K (.ref C) (.type "bool") = some false)
    (hsp : sp [.ref a, .bl b] H (fun v H' => (∃ b, v = .bl b) ∧ Q v H') E0) : wpAny (model X.prog X.w) A (richCompare .Eq (.bool b) (.ref a)) (fun w' s' => ∃ b H', w' = .bool b ∧ Inv X pins σ H' s' ∧ Q (.bl b) H') X.xe s := by
  obtain ⟨mA, J, _⟩ := ins_get I.hok ha
  obtain ⟨od, J, _⟩ := J.look
  obtain ⟨m, hF⟩ := I.fr
  have one : wpAny (model X.prog X.w) A (tryCompare (.ref a) "__eq__" (.bool b)) (fun r s' => ∃ v, r = some v ∧ ∃ b H', v = .bool b ∧ Inv X pins σ H' s' ∧ Q (.bl b) H') X.xe s := by
    unfold tryCompare
    refine wpAny_bind (PySem.W.ifBound_K I.kIn J hs hf (wpAny_mono (own_eq_call F hb sb I (x := .ref a) (y := .bl b) rfl rfl hsp) (fun v s' hv => ?_) fun _ _ e => e))
    obtain ⟨b', H', rfl, q⟩ := hv
    exact wpAny_pure ⟨_, rfl, b', H', rfl, q⟩
  have hT : s.TypeIs (.bool b) "bool" := rfl
  unfold richCompare
  simp only [hT.oneThing_none]
  refine wpAny_holding (wpAny_bind (wpAny_cRoomFor sb.room.units0 ?_))
  refine wpAny_bind (wpAny_typeOf hT (wpAny_bind (J.type.here ?_)))
  rw [if_pos (show ((Value.type "bool") != Value.ref C) = true from rfl)]
  refine wpAny_bind ((PySem.W.looks_subIn I.kIn hsub).here ?_)
  simp only [Bool.false_eq_true, if_false, Bool.not_false, if_true]
  have hda : s.heap.get? a = some (PySem.W.instObj C dx) := (show ObjOk _ _ _ _ a (.ins C dx fs) from I.hok a _ ha).2.2.2.1
  refine wpAny_bind (m := tryCompare (.bool b) _ _) (wpAny_tryCompare_declines hT PySem.F.slot_bool_eq (call_meets PySem.F.slot_bool_eq hT PySem.F.entry_int_eq (PySem.F.args_int_eq_2 _ _) (int_declines_plain b a _ _ _) ⟨hda, rfl, ?_⟩))
  refine wpAny_bind (m := tryCompare (.ref a) _ _) (wpAny_mono one (fun r s' z => ?_) fun _ _ e => e)
  obtain ⟨v, rfl, hq⟩ := z
  exact wpAny_pure hq
/-- x in the list at l, what stays true the while: Iv -/
theorem contains_loopG {prog : Program} {w : World} {A : Around} {R : Result → Shared → Prop} {l : Addr} {x : Value} (N : Nat) (e : Nat → Bool) (Iv : Shared → Prop)
    (ht : ∀ s, Iv s → ∃ items n dd sl, s.heap.get? l = some { cls := .type "list", dict := dd, data := .seq items n, slots := sl } ∧ items.size = N ∧
      ∀ (i : Nat) (h : i < items.size) (Q : Bool → Shared → Prop), (∀ s', Iv s' → Q (e i) s') → wpAny (model prog w) A.in1 (eqBool items[i] x) Q (fun er s' => R (.error er) s') s)
    (hR : ∀ s b, Iv s → (b = true ↔ ∃ i, i < N ∧ e i = true) → R (.ok (.ret (.bool b))) s) :
    ∀ (k i : Nat) (s : Shared), N - i = k → i ≤ N → (∀ j, j < i → e j = false) → Iv s →
      wpAny (model prog w) A.in1 (Builtin.«list.__contains__.loop» ⟨[.ref l, x, rawInt i], []⟩) (fun fin s' => match fin with | .done f => R (.ok f) s' | .again c' => c'.quiet = true ∧ codeAny (model prog w) A c' R s') (fun e s' => R (.error e) s') s := by
  intro k
  induction k with
  | zero =>
    intro i s hk hi hj I
    obtain ⟨items, n, dd, sl, hl, hN, _⟩ := ht s I
    have hin : i = N := by omega
    have fin := hR s false I ⟨fun z => Bool.noConfusion z, fun ⟨j, h1, h2⟩ => by rw [hj j (by omega)] at h2; cases h2⟩
    obtain ⟨hp, g, d, tk, os⟩ := s
    wp_walk using AutoSeq1.wpAny_loadPart' hl
    have hi : items[((i : Nat) : Int).toNat]? = none := by simp; omega
    rw [hi]
    wp_walk
    exact fin
  | succ k ih =>
    intro i s hk hi hj I
    obtain ⟨items, n, dd, sl, hl', hN, he⟩ := ht s I
    have hlt : i < items.size := by omega
    have heI := he i hlt
    obtain ⟨hp, g, d, tk, os⟩ := s
    wp_walk using AutoSeq1.wpAny_loadPart' hl'
    have hi2 : items[((i : Nat) : Int).toNat]? = some items[i] := by simp [hlt]
    rw [hi2]
    refine wpAny_bind (heI _ fun s' I' => ?_)
    cases hb : e i with
    | true =>
      have fin := hR s' true I' ⟨fun _ => ⟨i, by omega, hb⟩, fun _ => rfl⟩
      obtain ⟨hp, g, d, tk, os⟩ := s'
      wp_walk
      exact fin
    | false =>
      have nx := ih (i + 1) s' (by omega) (by omega) (fun j hj' => by
        rcases Nat.lt_succ_iff_lt_or_eq.mp hj' with z | z
        · exact hj j z
        · rw [z]; exact hb) I'
      have hc : ((i : Int) + 1) = ((i + 1 : Nat) : Int) := by push_cast; rfl
      obtain ⟨hp, g, d, tk, os⟩ := s'
      wp_walk
      rw [hc]
      exact ⟨plainId_quiet MeetsSeq.plain_contains_loop _, codeAny_builtin MeetsSeq.entry_contains_loop (by
        rw [Around.under_plainId MeetsSeq.plain_contains_loop _]
        exact nx)⟩
/-- the promise of «return isinstance(other, C)» -/
def spIsC (K : PySem.W.Frag) (C : Addr) : Sp := fun vs H Q _ => ∃ (a : Addr) (y : V) (t : Value) (b : Bool), vs = [.ref a, y] ∧ TyX K H y t ∧ PySem.W.kitOne K t (.ref C) = some b ∧ ∀ H', Same H H' → Q (.bl b) H'
structure UCls (K : PySem.W.Frag) (C f : Addr) : Prop where
  hs : PySem.W.findIn K (.ref C) "__eq__" = some (some (.ref f))
  hf : PySem.W.isFn K (.ref f) = true
  ty : ∀ (H : Hp) (a dx : Addr) (fs : List (Str × V)), H a = some (.ins C dx fs) → TyX K H (.ref a) (.ref C)
  kb : PySem.W.kitOne K (.type "bool") (.ref C) = some false
  kc : PySem.W.kitOne K (.ref C) (.ref C) = some true
  sb : PySem.W.subIn K (.ref C) (.type "bool") = some false
def isRefV : V → Bool
  | .ref _ => true
  | _ => false
theorem eqBool_bool {prog : Program} {w : World} {A : Around} {E : Value → Shared → Prop} {s : Shared} {b : Bool} {u : Addr} {Q : Bool → Shared → Prop} (h : wpAny (model prog w) A (richCompare .Eq (.bool b) (.ref u)) (fun v s' => ∃ r, v = .bool r ∧ Q r s') E s) : wpAny (model prog w) A (eqBool (.bool b) (.ref u)) Q E s := by
  unfold eqBool
  refine wpAny_holding ?_
  refine wpAny_ite_split (fun hab => by cases (eq_of_beq hab)) (fun _ => ?_)
  refine wpAny_bind (wpAny_mono h (fun v s' hv => ?_) fun _ _ x => x)
  obtain ⟨r, rfl, q⟩ := hv
  exact wpAny_truthy_bool q
theorem vals_at {xs : List V} {us : List Value} (h : Vals xs us) : ∀ {j : Nat} {v : V}, xs[j]? = some v → ∃ u, us[j]? = some u ∧ RelV v u := by
  induction h with
  | nil => intro j u e; cases e
  | cons r t ih =>
    intro j u e
    cases j with
    | zero => cases e; exact ⟨_, rfl, r⟩
    | succ j => exact ih e
def rInU (C : Addr) : R2 := fun x y H Q => ∃ u dx fs p zs, x = .ref u ∧ H u = some (.ins C dx fs) ∧ y = .ref p ∧ H p = some (.lst zs) ∧ (∀ z ∈ zs, (∃ b, z = .bl b) ∨ ∃ a dx fs, z = .ref a ∧ a ≠ u ∧ H a = some (.ins C dx fs)) ∧ ∀ H', Same H H' → Q (.bl (zs.any isRefV)) H'
theorem op_inU (U : UCls X.K C f) (F : FnOk X.prog X.w X.K X.mg X.base CX0 n f fd ps (spIsC X.K C)) (hb : Binds X.K fd ps []) (hr : Room (n + 1) X.A) : OpR X (compareOp .In) (rInU C) := by
  intro pins s σ H x y v u0 Q I rx ry h
  obtain ⟨u, dx, fs, p, zs, rfl, hu, rfl, hp, hz, q⟩ := h
  obtain rfl : v = Value.ref u := rx
  obtain rfl : u0 = Value.ref p := ry
  obtain ⟨z0, its, k0, r0, e0⟩ := I.hok p _ hp
  have hT : s.TypeIs (.ref p) "list" := ⟨_, e0, rfl⟩
  have sb : Sub X n X.A.in1 := (Sub.in1 ⟨hr, rfl⟩)
  show wpAny _ X.A (do return .bool (← contains (.ref p) (.ref u))) (EP X pins σ Q) X.xe s
  have len := r0.length
  have key : wpAny (model X.prog X.w) X.A.in1 (Builtin.«list.__contains__» ⟨[.ref p, .ref u], []⟩) (fun fin s' => match fin with | .done f => wants (fun v s' => ∃ b H', v = .bool b ∧ b = zs.any isRefV ∧ Inv X pins σ H' s' ∧ Same H H') X.xe (.ok f) s' | .again c' => c'.quiet = true ∧ codeAny (model X.prog X.w) X.A c' (wants (fun v s' => ∃ b H', v = .bool b ∧ b = zs.any isRefV ∧ Inv X pins σ H' s' ∧ Same H H') X.xe) s')
      (fun e s' => wants (fun v s' => ∃ b H', v = .bool b ∧ b = zs.any isRefV ∧ Inv X pins σ H' s' ∧ Same H H') X.xe (.error e) s') s := by
    have lp := contains_loopG (prog := X.prog) (w := X.w) (A := X.A) (R := wants (fun v s' => ∃ b H', v = .bool b ∧ b = zs.any isRefV ∧ Inv X pins σ H' s' ∧ Same H H') X.xe) (l := p) (x := .ref u) zs.length (fun i => (zs[i]?.map isRefV).getD false) (fun s' => ∃ H', Inv X pins σ H' s' ∧ Same H H')
      (fun s' ⟨H', I', m⟩ => by
        obtain ⟨z1, its, k1, r0, e1⟩ := I'.hok p _ (m _ _ hp)
        have len := r0.length
        refine ⟨its.toArray, k1, _, _, e1, by rw [List.size_toArray]; omega, fun i hi Q' hQ => ?_⟩
        have hi' : i < its.length := by simpa using hi
        have hiz : i < zs.length := by omega
        have hzi : zs[i]? = some zs[i] := List.getElem?_eq_getElem hiz
        obtain ⟨w', hw', rw'⟩ := vals_at r0 hzi
        have ew : its.toArray[i] = w' := by
          have : its[i]? = some its[i] := List.getElem?_eq_getElem hi'
          rw [this] at hw'
          simpa using hw'
        rw [ew]
        have eb : ((zs[i]?.map isRefV).getD false) = isRefV zs[i] := by rw [hzi]; rfl
        rw [eb] at hQ
        rcases hz _ (List.getElem_mem hiz) with ⟨b, ez⟩ | ⟨a, dxa, fsa, ez, nau, ha⟩
        · rw [ez] at rw' hQ
          obtain rfl : w' = .bool b := rw'
          refine eqBool_bool (wpAny_mono (rc_bool_own F U.hs U.hf hb sb I' (m _ _ hu) U.sb (Q := fun v H'' => v = .bl false ∧ Same H H'') ⟨u, .bl b, _, false, rfl, .base (.bl b), U.kb, fun H'' m' => ⟨⟨_, rfl⟩, rfl, m.trans m'⟩⟩) (fun r s'' hq => ?_) fun _ _ x => x)
          obtain ⟨b', H'', rfl, I'', eb', m''⟩ := hq
          cases eb'
          exact ⟨false, rfl, hQ s'' ⟨H'', I'', m''⟩⟩
        · rw [ez] at rw' hQ
          obtain rfl : w' = .ref a := rw'
          refine GQ.eqBool_refG nau (wpAny_mono (rc_own F U.hs U.hf hb sb I' (y := .ref u) rfl (m _ _ ha) (U.ty _ _ _ _ (m _ _ hu)) (by simp [PySem.W.notFirst]) (Q := fun v H'' => v = .bl true ∧ Same H H'') ⟨a, .ref u, _, true, rfl, U.ty _ _ _ _ (m _ _ hu), U.kc, fun H'' m' => ⟨⟨_, rfl⟩, rfl, m.trans m'⟩⟩) (fun r s'' hq => ?_) fun _ _ x => x)
          obtain ⟨b', H'', rfl, I'', eb', m''⟩ := hq
          cases eb'
          exact ⟨true, rfl, hQ s'' ⟨H'', I'', m''⟩⟩)
      (fun s' b ⟨H', I', m⟩ hb' => ⟨b, H', rfl, by
        rw [Bool.eq_iff_iff, hb', List.any_eq_true]
        constructor
        · rintro ⟨i, hiz, e⟩
          rw [List.getElem?_eq_getElem hiz] at e
          exact ⟨zs[i], List.getElem_mem hiz, e⟩
        · rintro ⟨z, hz', e⟩
          obtain ⟨i, hi, rfl⟩ := List.mem_iff_getElem.mp hz'
          refine ⟨i, hi, ?_⟩
          rw [List.getElem?_eq_getElem hi]
          exact e, I', m⟩)
      zs.length 0 s (Nat.sub_zero _) (Nat.zero_le _) (fun j hj => absurd hj (Nat.not_lt_zero _)) ⟨H, I, fun _ _ z => z⟩
    obtain ⟨hp', g, d, tk, os⟩ := s
    wp_walk
    exact ⟨plainId_quiet MeetsSeq.plain_contains_loop _, codeAny_builtin MeetsSeq.entry_contains_loop (by
      rw [Around.under_plainId MeetsSeq.plain_contains_loop _]
      exact lp)⟩
  refine wpAny_bind (wpAny_contains_slot hT PySem.F.slot_list_contains (wpAny_mono (wpAny_call (codeAny_call_builtin PySem.F.slot_list_contains.plain PySem.F.entry_list_contains (PySem.F.slot_list_contains.check _ _ _ _ _ _ _ _ hT (PySem.F.args_list_contains_2 _ _) key))) (fun v s' hv => ?_) fun _ _ e => e))
  obtain ⟨b, H', rfl, rfl, I', m⟩ := hv
  exact wpAny_truthy_bool (wpAny_pure ⟨.bl _, H', I', rfl, q H' m⟩)
end
end XR

/-! list(d.values()) -/
namespace XR
open PySem PySem.Spec PyProof.Rows L2
theorem vals_snd : ∀ {kvs : List (Key × V)} {vs : List (Key × Value)}, KV kvs vs → Vals (kvs.map Prod.snd) (vs.map Prod.snd) := by
  intro kvs vs h
  unfold KV at h
  induction h with
  | nil => exact .nil
  | cons r t ih => exact .cons r.2 ih
def tListVals (te : TE) : TE := fun σ H Q => te σ H fun x H1 => ∃ (d : Addr) (kvs : List (Key × V)), x = .ref d ∧ H1 d = some (.dK kvs) ∧ ∀ p, H1 p = none → Q (.ref p) (upd H1 p (.lst (kvs.map Prod.snd)))
theorem pe_listVals {X : Cx} {e : Expr} {te : TE} {p apos cpos pos : Pos} (hc : X.calm = true) (he : PE X e te) (hg : Gl X "list") (hm : X.mg "list" = none) (hv : bootBuiltins "list" = some (.type "list")) (hbase : attributeBase e "values" X.env (eval e X.env) = eval e X.env := by rfl) (hline : (apos.endLine == cpos.line) = true := by rfl)
    (hs : starEach [.Call (.Attribute e "values" apos) [] [] cpos] X.env = (false, eval (.Call (.Attribute e "values" apos) [] [] cpos) X.env) :: starEach [] X.env := by rfl) :
    PE X (.Call (.Name "list" p) [.Call (.Attribute e "values" apos) [] [] cpos] [] pos) (tListVals te) := by
  refine ⟨fun pins s σ H Q I hq => ?_⟩
  refine wpAny_Call_Name_kw (ld_blt I hg hm hv ?_)
  refine PyProof.Rows.callWith_type1 ?_ hs rfl
  rw [hs]
  show wpAny _ _ (spliced ((false, eval (.Call (.Attribute e "values" apos) [] [] cpos) X.env) :: backTo pos (starEach [] X.env))) _ _ s
  refine Calls.spliced_cons ?_
  refine wpAny_Call_method (T := "dict") (id := "dict.values") hbase rfl hline F.plainAttrs_dict F.slot_dict_values F.type_dict_values (thn (he.run pins s σ H _ I hq) fun u s1 ⟨x, H1, I1, rx, d, kvs, ex, hd, q⟩ => ?_)
  subst ex
  obtain rfl : u = Value.ref d := rx
  obtain ⟨hz, hs0, vs, kv, hdo⟩ := I1.hok d _ hd
  obtain ⟨ep, hat⟩ := hdo.dictAt
  have lk : kvs.length = vs.length := Paired.length kv
  have I2 : Inv X pins σ H1 { s1 with heap := s1.heap.push { cls := .type "dict_values", data := .fields #[.ref d] } } := I1.kept (t' := s1.toks) fun b ob q => Heap.get?_push_of_some _ q
  refine ⟨hdo.typeIs, hdo.mapOf.noDict, ?_⟩
  show wpAny _ _ (callWith cpos (.builtin "dict.values") [.ref d] [] []) _ X.xe s1
  refine method_meetsIn F.slot_dict_values F.entry_dict_values rfl (PySem.evalArgs_none ⟨rfl, hdo.typeIs, F.args_dict_values_1 _, _, meets_dict_values (mixKind X.prog X.w) d hs0, ⟨vs, hdo⟩, ?_⟩)
  refine Calls.spliced_nil ?_
  refine PySem.W.kdl_call (PySem.W.kdl_values (knd := mixKind X.prog X.w) (kvs := vs) (ep := ep)) (I1.ok.hd hc) ⟨⟨_, Heap.get?_push_size _ rfl, rfl, rfl⟩, hat.push _⟩ (by omega) fun h' tk acc c hk hS hacc => ?_
  have ea : acc.toList = vs.map Prod.snd := by
    refine List.ext_getElem (by rw [List.length_map, Array.length_toList, hacc.1]) fun i h1 h2 => ?_
    have hi : i < acc.size := by simpa using h1
    obtain ⟨k, hk'⟩ := hacc.2 i acc[i] (Array.getElem?_eq_getElem hi)
    have hv : i < vs.length := by simpa using h2
    rw [List.getElem?_eq_getElem hv] at hk'
    rw [Array.getElem_toList, List.getElem_map, Option.some.inj hk']
  have rv : Vals (kvs.map Prod.snd) acc.toList := by
    rw [ea]
    exact vals_snd kv
  refine ⟨.ref _, _, I2.laid (t' := tk) hk (Nat.le_refl _) (show ObjOk X.prog X.w _ h' _ (.lst (kvs.map Prod.snd)) from ⟨by rw [List.length_map]; exact hz, acc.toList, c, rv, by rw [Array.toArray_toList]; exact hS⟩), rfl, q _ (I2.hok.fresh (Nat.le_refl _))⟩
end XR

/-! sorted texts: the one order -/
namespace VT
open PySem PyProof.Rows
def leS (a b : Str) : Prop := a.cps.toList ≤ b.cps.toList
theorem leS_of {a b : Str} (h : (!PySem.Spec.ltCps b.cps.toList a.cps.toList) = true) : leS a b := by
  rw [ltCps_eq] at h
  have : ¬ b.cps.toList < a.cps.toList := by simpa using h
  exact List.not_lt.mp this
theorem leS_trans {a b c : Str} (h1 : leS a b) (h2 : leS b c) : leS a c := List.le_trans h1 h2
theorem leS_anti {a b : Str} (h1 : leS a b) (h2 : leS b a) : a = b := by
  have h := List.le_antisymm h1 h2
  cases a
  cases b
  congr 1
  exact Array.toList_inj.mp h
theorem rising_pw : ∀ (p : Str) (l : List Str), risingS p l = true → (p :: l).Pairwise leS
  | p, [], _ => List.pairwise_singleton _ _
  | p, x :: r, h => by
    rw [risingS, Bool.and_eq_true] at h
    have ih := rising_pw x r h.2
    have hx := leS_of h.1
    refine List.pairwise_cons.mpr ⟨fun y hy => ?_, ih⟩
    rcases List.mem_cons.mp hy with rfl | hy
    · exact hx
    · exact leS_trans hx ((List.pairwise_cons.mp ih).1 y hy)
theorem sorted_pw : ∀ (l : List Str), sortedS l = true → l.Pairwise leS
  | [], _ => List.Pairwise.nil
  | x :: r, h => rising_pw x r h
theorem sorted_one {ys zs ks ls : List Str} (h1 : ys.Perm ks) (s1 : sortedS ys = true) (h2 : zs.Perm ls) (s2 : sortedS zs = true) : ys = zs ↔ ks.Perm ls := by
  constructor
  · intro e
    exact h1.symm.trans (e ▸ h2)
  · intro h
    exact List.Perm.eq_of_pairwise (fun a b _ _ x y => leS_anti x y) (sorted_pw _ s1) (sorted_pw _ s2) (h1.trans (h.trans h2.symm))
/-- == of two lists of texts -/
theorem eqv_strs : ∀ (ys zs : List Str), PyData.eqvAll (ys.map .str) (zs.map .str) = decide (ys = zs)
  | [], [] => by simp [PyData.eqvAll]
  | [], z :: zs => by simp [PyData.eqvAll]
  | y :: ys, [] => by simp [PyData.eqvAll]
  | y :: ys, z :: zs => by
    have := eqv_strs ys zs
    simp only [List.map_cons, PyData.eqvAll, PyData.eqv, this]
    rw [Bool.eq_iff_iff]
    simp
end VT

/-! C() of an own class without an __init__ -/
namespace XR
open PySem PySem.Spec PyProof.Rows L2
structure Bare (K : PySem.W.Frag) (mg : Str → Option Value) (x : Str) (C : Addr) : Prop where
  makes : PySem.W.makesIn K C = true
  ini : PySem.W.findIn K (.ref C) "__init__" = some (some (.builtin "object.__init__"))
  kp : PySem.W.keepIn K (.ref C) = true
  g : mg x = some (.ref C)
def tBare (C : Addr) : TE := fun _ H Q => ∀ a dx, H a = none → H dx = none → dx ≠ a → Q (.ref a) (upd (upd H dx (.own a)) a (.ins C dx []))
theorem pe_bare {X : Cx} {C : Addr} {x : Str} {p pos : Pos} (B : Bare X.K X.mg x C) (hg : Gl X x) (hdb : (x == ("__debug__" : Str)) = false := by decide) : PE X (.Call (.Name x p) [] [] pos) (tBare C) := by
  refine ⟨fun pins s σ H Q I h => ?_⟩
  refine wpAny_Call_Name_kw (ld_glob I hg B.g ?_ hdb)
  refine PySem.W.callWith_K0 I.kIn B.kp ?_
  have hq := h (s.heap.objs.size + 1) s.heap.objs.size (I.hok.fresh (Nat.le_succ _)) (I.hok.fresh (Nat.le_refl _)) (Nat.ne_of_lt (Nat.lt_succ_self _))
  have I2 := Inv.made (C := C) I
  have Y := PySem.W.makes_of (M := model X.prog X.w) I.kIn B.makes
  refine wpAny_call (make_map0 (R := wants (EP X pins σ Q) X.xe) I.kIn B.makes B.ini (fun self => PySem.W.Looks.of_pure (PySem.W.oi_bind self)) ?_)
  have hx : ((s.heap.push PySem.W.emptyDict).push (PySem.W.instObj C s.heap.objs.size)).get? (s.heap.objs.size + 1) = some (PySem.W.instObj C s.heap.objs.size) := by
    have := Heap.get?_push_size (s.heap.push PySem.W.emptyDict) (o := PySem.W.instObj C s.heap.objs.size) rfl
    rwa [Heap.size_push] at this
  have t1 : PySem.W.Looks (model X.prog X.w) ((s.heap.push PySem.W.emptyDict).push (PySem.W.instObj C s.heap.objs.size)) (typeOf (.ref (s.heap.objs.size + 1))) (.ref C) := (PySem.W.Looks.ld hx).andThen .now
  have t2 : PySem.W.Looks (model X.prog X.w) ((s.heap.push PySem.W.emptyDict).push (PySem.W.instObj C s.heap.objs.size)) (isInstance (.ref (s.heap.objs.size + 1)) (.type "object")) true := t1.andThen (Y.top.keeps fun b o e => Heap.get?_push_of_some _ (Heap.get?_push_of_some _ e))
  refine codeAny_call_builtin PySem.W.oi_plain PySem.W.entry_oi (@PySem.W.check_slot (model X.prog X.w) _ _ _ "object.__init__" "object" "__init__" (.ref (s.heap.objs.size + 1)) [] [] _ PySem.W.oi_kind PySem.W.oi_split t2 (PySem.W.oi_args (.ref (s.heap.objs.size + 1))) ?_)
  rw [PySem.W.oi_run]
  exact wpAny_pure (And.intro rfl ⟨V.ref (s.heap.objs.size + 1), _, I2, rfl, hq⟩)
end XR

namespace K01
open PySem L2 XR VT
def top (i : Nat) : Stmt := PySem.Challenge.pw_planfirst_k01_values_that_are_the_same.main.body.getD i (.Pass ⟨0, 0, 0, 0⟩)
abbrev sInt : Stmt := top 4
abbrev sName : Stmt := top 5
abbrev sTag : Stmt := top 6
abbrev sKnown : Stmt := top 7
abbrev sSort : Stmt := top 8
abbrev sParts : Stmt := top 9
abbrev sSame : Stmt := top 10
abbrev sAgrees : Stmt := top 11
abbrev sUEq : Stmt := inClass (top 3) 0
def tyN : D → String
  | .non => "NoneType"
  | .bl _ => "bool"
  | .int _ => "int"
  | .str _ => "str"
  | .tup _ => "tuple"
  | .map _ _ => "dict"
  | .unk => ""
def tyD (CU : Addr) : D → Value
  | .unk => .ref CU
  | d => .type (tyN d)
def isD (t : String) (d : D) : Bool := tyN d == t || (tyN d == "bool" && t == "int")
abbrev tys : List String := ["tuple", "bool", "int", "dict", "str"]
structure Txt (K : PySem.W.Frag) (mg : Str → Option Value) (CU : Addr) : Prop where
  isi : mg "isinstance" = none
  len : mg "len" = none
  all : mg "all" = none
  zip : mg "zip" = none
  tuple : mg "tuple" = none
  dict : mg "dict" = none
  list : mg "list" = none
  bool : mg "bool" = none
  int : mg "int" = none
  str : mg "str" = none
  sorted : mg "sorted" = none
  gU : mg "Unknown" = some (.ref CU)
  letters : ∃ t, mg "LETTERS" = some (.str "abcdefghijklmnopqrstuvwxyz" t)
  mark : ∃ t, mg "MARK" = some (.str "#" t)
  kU : ∀ d : D, PySem.W.kitOne K (tyD CU d) (.ref CU) = some (isU d)
  kT : ∀ t ∈ tys, PySem.W.kitOne K (.ref CU) (.type t) = some false
  cu : Cls K CU
  c1 : PySem.W.findIn K (.ref CU) "__class__" = some (some (.builtin "object.__class__"))
  c2 : PySem.W.specialIn K (.builtin "object.__class__") "__get__" = some (some (.builtin "getset_descriptor.__get__"))
  c3 : PySem.W.takesIn K (.builtin "object.__class__") = some true
  c4 : PySem.W.mroIn K CU (.type "object") = some true
section
variable {P : Program} {w : World} {K : PySem.W.Frag} {mg : Str → Option Value} {base : Heap} {CU : Addr}
theorem Rep.ty {H : Hp} {v : V} {d : D} (T : Txt K mg CU) (h : Rep CU H v d) : TyX K H v (tyD CU d) := by
  cases h with
  | non => exact .base .non
  | bl b => exact .base (.bl b)
  | int i => exact .base (.int i)
  | str x h => exact .base (.str x)
  | unk h => exact .base (.ins h T.cu T.c1 T.c2 T.c3 T.c4)
  | tup h => exact .base (.tup h)
  | map h => exact .base (.dK h)
theorem Txt.kit (T : Txt K mg CU) (t : String) (ht : t ∈ tys) (d : D) : PySem.W.kitOne K (tyD CU d) (.type t) = some (isD t d) := by
  have tb : ∀ a ∈ ["NoneType", "bool", "int", "str", "tuple", "dict"], ∀ t ∈ tys, kitB a t = some (a == t || (a == "bool" && t == "int")) := by decide +kernel
  have un : ∀ t ∈ tys, (some false : Option Bool) = some (("" : String) == t || (("" : String) == "bool" && t == "int")) := by decide +kernel
  cases d with
  | unk => exact (T.kT t ht).trans (un t ht)
  | non => exact kit_ty (tb "NoneType" (by decide) t ht)
  | bl b => exact kit_ty (tb "bool" (by decide) t ht)
  | int i => exact kit_ty (tb "int" (by decide) t ht)
  | str x => exact kit_ty (tb "str" (by decide) t ht)
  | tup l => exact kit_ty (tb "tuple" (by decide) t ht)
  | map ks ds => exact kit_ty (tb "dict" (by decide) t ht)
def intD : D → Bool
  | .int _ => true
  | _ => false
def nameD : D → Bool
  | .str x => isName x
  | _ => false
def tagD : D → Bool
  | .tup l => isTag l
  | _ => false
/-- a test of a value tree -/
def spD (CU : Addr) (f : D → V) : Sp := fun vs H Q _ => ∃ (v : V) (d : D), vs = [v] ∧ Rep CU H v d ∧ ∀ H', Same H H' → Q (f d) H'
theorem spD_len {f : D → V} {vs : List V} {H : Hp} {Q : VK} {E : XK} (h : spD CU f vs H Q E) : vs.length = 1 := by
  obtain ⟨v, d, rfl, _⟩ := h
  rfl
theorem scIn : FnScope ["thing"] ["thing"] (defScope sInt) := ⟨rfl, rfl, rfl, by decide +kernel, rfl, by decide +kernel, by decide +kernel⟩
theorem ok_int {f : Addr} {fd : FuncData} (F : Fun K "is_integer" "is_integer" sInt f fd) (T : Txt K mg CU) : FnOk P w K mg base CX0 1 f fd ["thing"] (spD CU fun d => .bl (intD d)) := by
  refine F.ok scIn (fun vs H Q E h => spD_len h) (fun cdv A outer s H vs Q E hr h => ?_)
  obtain ⟨v, d, rfl, hd, k⟩ := h
  refine ⟨_, (pss_one (ps_ret (pe_and (pe_callB call_isi (by rfl) T.isi (by decide +kernel) (pa_cons (pv 0) (pa_cons (pe_bltn (v := .ty "int") (by rfl) T.int (by decide +kernel) rfl) pa_nil))) (pe_one (pe_not (pe_callB call_isi (by rfl) T.isi (by decide +kernel) (pa_cons (pv 0) (pa_cons (pe_bltn (v := .ty "bool") (by rfl) T.bool (by decide +kernel) rfl) pa_nil)))))))), ?_⟩
  have tv := Rep.ty T hd
  refine ⟨_, rfl, _, _, _, _, _, rfl, .ty _, tv, T.kit "int" (by decide) d, _, rfl, ?_⟩
  have fin : ∀ b, Q (.bl (intD d)) H → b = intD d → Q (.bl b) H := fun b q e => by rw [e]; exact q
  cases e1 : isD "int" d with
  | false => exact iteF (fin _ (k H (fun _ _ z => z)) (by cases d <;> first | rfl | (simp [isD, tyN] at e1)))
  | true =>
    refine iteT ⟨_, rfl, _, _, _, _, _, rfl, .ty _, tv, T.kit "bool" (by decide) d, _, rfl, ?_⟩
    exact fin _ (k H (fun _ _ z => z)) (by cases d <;> first | rfl | (simp [isD, tyN] at e1))
theorem scNa : FnScope ["thing", "letter"] ["thing"] (defScope sName) := ⟨rfl, rfl, rfl, by decide +kernel, rfl, by decide +kernel, by decide +kernel⟩
theorem ok_name {f : Addr} {fd : FuncData} (F : Fun K "is_name" "is_name" sName f fd) (T : Txt K mg CU) : FnOk P w K mg base CX0 1 f fd ["thing"] (spD CU fun d => .bl (nameD d)) := by
  obtain ⟨tL, hL⟩ := T.letters
  refine F.ok scNa (fun vs H Q E h => spD_len h) (fun cdv A outer s H vs Q E hr h => ?_)
  obtain ⟨v, d, rfl, hd, k⟩ := h
  refine ⟨_, (pss_one (ps_ret (pe_and (pe_callB call_isi (by rfl) T.isi (by decide +kernel) (pa_cons (pv 0) (pa_cons (pe_bltn (v := .ty "str") (by rfl) T.str (by decide +kernel) rfl) pa_nil))) (pe_and (pe_chain op_le op_le pe_int (pe_callB call_len (by rfl) T.len (by decide +kernel) (pa_cons (pv 0) pa_nil)) pe_int) (pe_one (pe_callB (cr_all rfl) (by rfl) T.all (by decide +kernel) (pa_cons (pe_lc (own := [("letter", 1)]) (g := gName 1) (tt := tYes) rfl scNa.nd (pi_str (pv 0)) (blkOk_by (own := [("letter", 1)]) (N := ["thing", "letter"]) (sc := (defScope sName)) (by decide +kernel)) (fun _ _ _ _ _ => pg_name (i := 1) scNa.nd rfl (Or.inl rfl)) (fun _ _ _ _ _ => pts_nil) (fun _ _ _ _ _ => (pe_cmpR op_in_sign (pv 1) (pe_glob (v := .str "abcdefghijklmnopqrstuvwxyz") rfl hL ⟨_, rfl⟩) (by rfl)))) pa_nil))))))), ?_⟩
  have tv := Rep.ty T hd
  refine ⟨_, rfl, _, _, _, _, _, rfl, .ty _, tv, T.kit "str" (by decide) d, _, rfl, ?_⟩
  cases hd with
  | str x hx =>
    refine iteT ?_
    have hxl := hx.2
    have fin : ∀ b H', Same H H' → b = isName x → Q (.bl b) H' := fun b H' m e => by rw [e]; exact k H' m
    refine ⟨_, rfl, _, _, rfl, ⟨(by rw [sizeLine_eq]; omega), rfl⟩, ?_⟩
    refine ⟨1, _, rfl, rfl, _, rfl, ?_⟩
    have lx : x.length = x.cps.size := rfl
    by_cases h1 : (1 : Int) ≤ (x.length : Int)
    case neg =>
      rw [decide_eq_false h1]
      refine iteF ⟨_, rfl, iteF (fin _ H (fun _ _ z => z) ?_)⟩
      have : ¬ 1 ≤ x.length := by omega
      simp [isName, this]
    rw [decide_eq_true h1]
    refine iteT ⟨_, 12, rfl, rfl, _, rfl, ?_⟩
    by_cases h2 : (x.length : Int) ≤ 12
    case neg =>
      rw [decide_eq_false h2]
      refine iteF (fin _ H (fun _ _ z => z) ?_)
      have : ¬ x.length ≤ 12 := by omega
      simp [isName, this]
    rw [decide_eq_true h2]
    refine iteT ?_
    refine ⟨_, rfl, x, rfl, fun D hD => ?_⟩
    refine lc_pure walk_str hD (x.cps.toList.map fun c => V.bl (decide (c ∈ letters))) (by rw [List.length_map]; rfl) (by show x.length < sizeLine; rw [sizeLine_eq]; omega) (fun _ _ => trivial) (fun i y H2 H3 z hz m hy N hN => ?_) mono_name (fun H' m f => ?_)
    · obtain ⟨rfl, c, hc, rfl⟩ := hy
      have hc' : x.cps.toList[i]? = some c := by rw [Array.getElem?_toList]; exact hc
      rw [List.getElem?_map, hc'] at hz
      cases hz
      exact ⟨rfl, _, rfl, c, _, rfl, rfl, hN _ (fun _ _ z => z)⟩
    · have e : x.cps.toList.map (fun c => V.bl (decide (c ∈ letters))) = (x.cps.toList.map fun c => decide (c ∈ letters)).map V.bl := by
        rw [List.map_map]
        rfl
      rw [e] at f
      refine ⟨D, _, rfl, SqL.of f, fin _ H' m ?_⟩
      have h1' : 1 ≤ x.length := by omega
      have h2' : x.length ≤ 12 := by omega
      rw [List.all_map]
      simp [isName, h1', h2']
  | _ => exact iteF (k H (fun _ _ z => z))
theorem scTg : FnScope ["thing"] ["thing"] (defScope sTag) := ⟨rfl, rfl, rfl, by decide +kernel, rfl, by decide +kernel, by decide +kernel⟩
theorem three {α : Type} {l : List α} (h : l.length = 3) : ∃ a b c, l = [a, b, c] := match l, h with | [a, b, c], _ => ⟨a, b, c, rfl⟩
theorem isTag3 {l : List D} (h : l.length ≠ 3) : isTag l = false := by
  unfold isTag
  split
  · exact absurd rfl h
  · rfl
theorem ok_tag {f fN fI : Addr} {fd dN dI : FuncData} (F : Fun K "is_tag" "is_tag" sTag f fd) (T : Txt K mg CU) (FN : Fun K "is_name" "is_name" sName fN dN) (gN : mg "is_name" = some (.ref fN)) (bN : Binds K dN ["thing"] []) (FI : Fun K "is_integer" "is_integer" sInt fI dI) (gI : mg "is_integer" = some (.ref fI)) (bI : Binds K dI ["thing"] []) :
    FnOk P w K mg base CX0 2 f fd ["thing"] (spD CU fun d => .bl (tagD d)) := by
  obtain ⟨tM, hM⟩ := T.mark
  have GN : FnOk P w K mg base CX0 1 fN dN ["thing"] (spD CU fun d => .bl (nameD d)) := ok_name FN T
  have GI : FnOk P w K mg base CX0 1 fI dI ["thing"] (spD CU fun d => .bl (intD d)) := ok_int FI T
  have kN := FN.kp
  have kI := FI.kp
  refine F.ok scTg (fun vs H Q E h => spD_len h) (fun cdv A outer s H vs Q E hr h => ?_)
  obtain ⟨v, d, rfl, hd, k⟩ := h
  refine ⟨_, (pss_cons (ps_if (PW.pt (pw_or (pt_not (pt_val (pe_callB call_isi (by rfl) T.isi (by decide +kernel) (pa_cons (pv 0) (pa_cons (pe_bltn (v := .ty "tuple") (by rfl) T.tuple (by decide +kernel) rfl) pa_nil))))) (pw_or (pt_cmpR op_ne (pe_callB call_len (by rfl) T.len (by decide +kernel) (pa_cons (pv 0) pa_nil)) pe_int (nomark _)) (pw_or (pt_not (pt_val (pe_callB call_isi (by rfl) T.isi (by decide +kernel) (pa_cons (pe_ix ix_tup (pv 0) pe_int (fun _ _ => rfl)) (pa_cons (pe_bltn (v := .ty "str") (by rfl) T.str (by decide +kernel) rfl) pa_nil))))) (pw_or1 (pt_cmpR op_ne (pe_ix ix_tup (pv 0) pe_int (fun _ _ => rfl)) (pe_glob (v := .str "#") rfl hM ⟨_, rfl⟩) (nomark _))))))) (pss_one (ps_ret pe_bl)) pss_nil)
      (pss_one (ps_ret (pe_and (pe_call GN hr rfl gN kN bN .nil pass0 (pa_cons (pe_ix ix_tup (pv 0) pe_int (fun _ _ => rfl)) pa_nil)) (pe_and (pe_call GI hr rfl gI kI bI .nil pass0 (pa_cons (pe_ix ix_tup (pv 0) pe_int (fun _ _ => rfl)) pa_nil)) (pe_one (pe_cmpR op_ge (pe_ix ix_tup (pv 0) pe_int (fun _ _ => rfl)) pe_int (nomark _)))))))), ?_⟩
  refine ⟨_, rfl, _, _, _, _, _, rfl, .ty _, Rep.ty T hd, T.kit "tuple" (by decide) d, _, rfl, ?_⟩
  cases hd with
  | @tup a xs ds h hl hz hs =>
    refine iteF ?_
    refine ⟨_, rfl, _, _, rfl, .inr ⟨_, SqT.of h, rfl⟩, rfl, _, rfl, ?_⟩
    have fin : ∀ b H', Same H H' → b = isTag ds → Q (.bl b) H' := fun b H' m e => by rw [e]; exact k H' m
    by_cases h3 : ds.length = 3
    case neg =>
      have h3' : ¬ V.int (xs.length : Int) = V.int 3 := fun z => h3 (by have := V.int.inj z; omega)
      rw [decide_eq_false h3']
      exact iteT (iteT (fin _ H (fun _ _ z => z) (isTag3 h3).symm))
    have h3' : V.int (xs.length : Int) = V.int 3 := by rw [hl, h3]; rfl
    rw [decide_eq_true h3']
    refine iteF ?_
    obtain ⟨d0, d1, d2, rfl⟩ := three h3
    obtain ⟨v0, v1, v2, rfl⟩ := three (hl.trans h3)
    have r0 := hs 0 v0 d0 rfl rfl
    have r1 := hs 1 v1 d1 rfl rfl
    have r2 := hs 2 v2 d2 rfl rfl
    have i0 : atI [v0, v1, v2] 0 = some v0 := atI_nat (j := 0) rfl
    have i1 : atI [v0, v1, v2] 1 = some v1 := atI_nat (j := 1) rfl
    have i2 : atI [v0, v1, v2] 2 = some v2 := atI_nat (j := 2) rfl
    refine ⟨_, rfl, a, _, 0, v0, rfl, rfl, SqT.of h, i0, _, _, _, _, _, rfl, .ty _, Rep.ty T r0, T.kit "str" (by decide) d0, _, rfl, ?_⟩
    have ff : ∀ {d0 d1 d2 : D}, (∀ x, d0 ≠ .str x) → isTag [d0, d1, d2] = false := fun {d0 d1 d2} n => by
      unfold isTag
      split
      · rename_i e
        cases e
        exact absurd rfl (n _)
      · rfl
    cases r0 with
    | str x hx =>
      refine iteF ?_
      refine ⟨_, rfl, a, _, 0, _, rfl, rfl, SqT.of h, i0, rfl, _, rfl, ?_⟩
      by_cases hm : x = "#"
      case neg =>
        have hm' : ¬ V.str x = V.str "#" := fun z => hm (by cases z; rfl)
        rw [decide_eq_false hm']
        refine iteT ((fin _ H (fun _ _ z => z) ?_))
        unfold isTag
        split
        · rename_i e
          cases e
          simp [hm]
        · rfl
      subst hm
      refine iteF ?_
      refine ⟨_, rfl, a, _, 1, v1, rfl, rfl, SqT.of h, i1, v1, d1, rfl, r1, fun H1 m1 => ⟨_, rfl, ?_⟩⟩
      have hA := m1 _ _ h
      have r2' := r2.same m1
      have e : isTag [.str "#", d1, d2] = (nameD d1 && (intD d2 && (match d2 with | .int i => decide (1 ≤ i) | _ => false))) := by
        cases d1 <;> cases d2 <;> simp [isTag, nameD, intD]
      cases hn : nameD d1 with
      | false =>
        refine iteF (fin _ H1 m1 ?_)
        rw [e, hn]
        rfl
      | true =>
        refine iteT ⟨_, rfl, a, _, 2, v2, rfl, rfl, SqT.of hA, i2, v2, d2, rfl, r2', fun H2 m2 => ⟨_, rfl, ?_⟩⟩
        have hB := m2 _ _ hA
        cases r2' with
        | int i =>
          refine iteT ⟨_, rfl, a, _, 2, _, rfl, rfl, SqT.of hB, i2, _, _, rfl, rfl, fin _ H2 (m1.trans m2) ?_⟩
          rw [e, hn]
          rfl
        | _ =>
          refine iteF (fin _ H2 (m1.trans m2) ?_)
          rw [e, hn]
          rfl
    | _ => exact iteT (iteT (fin _ H (fun _ _ z => z) (ff (by intro _ z; cases z)).symm))
  | _ => exact iteT (iteT (k H (fun _ _ z => z)))
end
end K01

namespace K01
open PySem L2 XR VT
section
variable {P : Program} {w : World} {K : PySem.W.Frag} {mg : Str → Option Value} {base : Heap} {CU : Addr}
theorem scSo : FnScope ["value"] ["value"] (defScope sSort) := ⟨rfl, rfl, rfl, by decide +kernel, rfl, by decide +kernel, by decide +kernel⟩
theorem ok_sort {f fT : Addr} {fd dT : FuncData} (F : Fun K "sort_of" "sort_of" sSort f fd) (T : Txt K mg CU) (GT : FnOk P w K mg base CX0 2 fT dT ["thing"] (spD CU fun d => .bl (tagD d))) (gT : mg "is_tag" = some (.ref fT)) (kT : PySem.W.keepIn K (.ref fT) = true) (bT : Binds K dT ["thing"] []) :
    FnOk P w K mg base CX0 3 f fd ["value"] (spD CU fun d => .str (sort d)) := by
  refine F.ok scSo (fun vs H Q E h => spD_len h) (fun cdv A outer s H vs Q E hr h => ?_)
  obtain ⟨v, d, rfl, hd, k⟩ := h
  refine ⟨_, (pss_cons (ps_if (pt_val (pe_callB call_isi (by rfl) T.isi (by decide +kernel) (pa_cons (pv 0) (pa_cons (pe_bltn (v := .ty "tuple") (by rfl) T.tuple (by decide +kernel) rfl) pa_nil)))) (pss_one (ps_ret (pe_ifExp (pt_val (pe_call GT hr rfl gT kT bT .nil pass0 (pa_cons (pv 0) pa_nil))) pe_str pe_str))) pss_nil)
      (pss_cons (ps_if (pt_val (pe_callB call_isi (by rfl) T.isi (by decide +kernel) (pa_cons (pv 0) (pa_cons (pe_bltn (v := .ty "bool") (by rfl) T.bool (by decide +kernel) rfl) pa_nil)))) (pss_one (ps_ret pe_str)) pss_nil)
      (pss_cons (ps_if (pt_val (pe_callB call_isi (by rfl) T.isi (by decide +kernel) (pa_cons (pv 0) (pa_cons (pe_bltn (v := .ty "int") (by rfl) T.int (by decide +kernel) rfl) pa_nil)))) (pss_one (ps_ret pe_str)) pss_nil)
      (pss_cons (ps_if (pt_val (pe_callB call_isi (by rfl) T.isi (by decide +kernel) (pa_cons (pv 0) (pa_cons (pe_bltn (v := .ty "dict") (by rfl) T.dict (by decide +kernel) rfl) pa_nil)))) (pss_one (ps_ret pe_str)) pss_nil)
      (pss_one (ps_ret (pe_ifExp (pt_val (pe_callB call_isi (by rfl) T.isi (by decide +kernel) (pa_cons (pv 0) (pa_cons (pe_bltn (v := .ty "str") (by rfl) T.str (by decide +kernel) rfl) pa_nil)))) pe_str pe_str))))))), ?_⟩
  have tv := Rep.ty T hd
  have k0 := k H (fun _ _ z => z)
  cases hd with
  | @tup a xs ds h hl hz hs =>
    refine ⟨_, rfl, _, _, _, _, _, rfl, .ty _, tv, T.kit "tuple" (by decide) _, _, rfl, iteT ⟨_, rfl, _, .tup ds, rfl, .tup h hl hz hs, fun H1 m1 => ⟨_, rfl, ?_⟩⟩⟩
    have e0 : sort (.tup ds) = (if isTag ds then ("tag" : Str) else ("tuple" : Str)) := rfl
    have k1 : Q (.str (sort (.tup ds))) H1 := k H1 m1
    rw [e0] at k1
    cases e : tagD (.tup ds) with
    | true =>
      rw [if_pos (show isTag ds = true from e)] at k1
      exact iteT k1
    | false =>
      have e' : ¬ isTag ds = true := fun z => by rw [show tagD (.tup ds) = true from z] at e; cases e
      rw [if_neg e'] at k1
      exact iteF k1
  | bl b => exact ⟨_, rfl, _, _, _, _, _, rfl, .ty _, tv, T.kit "tuple" (by decide) _, _, rfl, iteF ⟨_, rfl, _, _, _, _, _, rfl, .ty _, tv, T.kit "bool" (by decide) _, _, rfl, iteT k0⟩⟩
  | int i => exact ⟨_, rfl, _, _, _, _, _, rfl, .ty _, tv, T.kit "tuple" (by decide) _, _, rfl, iteF ⟨_, rfl, _, _, _, _, _, rfl, .ty _, tv, T.kit "bool" (by decide) _, _, rfl, iteF ⟨_, rfl, _, _, _, _, _, rfl, .ty _, tv, T.kit "int" (by decide) _, _, rfl, iteT k0⟩⟩⟩
  | map h hv hk hz nd ko hs => exact ⟨_, rfl, _, _, _, _, _, rfl, .ty _, tv, T.kit "tuple" (by decide) _, _, rfl, iteF ⟨_, rfl, _, _, _, _, _, rfl, .ty _, tv, T.kit "bool" (by decide) _, _, rfl, iteF ⟨_, rfl, _, _, _, _, _, rfl, .ty _, tv, T.kit "int" (by decide) _, _, rfl, iteF ⟨_, rfl, _, _, _, _, _, rfl, .ty _, tv, T.kit "dict" (by decide) _, _, rfl, iteT k0⟩⟩⟩⟩
  | str x hx => exact ⟨_, rfl, _, _, _, _, _, rfl, .ty _, tv, T.kit "tuple" (by decide) _, _, rfl, iteF ⟨_, rfl, _, _, _, _, _, rfl, .ty _, tv, T.kit "bool" (by decide) _, _, rfl, iteF ⟨_, rfl, _, _, _, _, _, rfl, .ty _, tv, T.kit "int" (by decide) _, _, rfl, iteF ⟨_, rfl, _, _, _, _, _, rfl, .ty _, tv, T.kit "dict" (by decide) _, _, rfl, iteF ⟨_, rfl, _, _, _, _, _, rfl, .ty _, tv, T.kit "str" (by decide) _, _, rfl, iteT k0⟩⟩⟩⟩⟩
  | non => exact ⟨_, rfl, _, _, _, _, _, rfl, .ty _, tv, T.kit "tuple" (by decide) _, _, rfl, iteF ⟨_, rfl, _, _, _, _, _, rfl, .ty _, tv, T.kit "bool" (by decide) _, _, rfl, iteF ⟨_, rfl, _, _, _, _, _, rfl, .ty _, tv, T.kit "int" (by decide) _, _, rfl, iteF ⟨_, rfl, _, _, _, _, _, rfl, .ty _, tv, T.kit "dict" (by decide) _, _, rfl, iteF ⟨_, rfl, _, _, _, _, _, rfl, .ty _, tv, T.kit "str" (by decide) _, _, rfl, iteF k0⟩⟩⟩⟩⟩
  | unk h => exact ⟨_, rfl, _, _, _, _, _, rfl, .ty _, tv, T.kit "tuple" (by decide) _, _, rfl, iteF ⟨_, rfl, _, _, _, _, _, rfl, .ty _, tv, T.kit "bool" (by decide) _, _, rfl, iteF ⟨_, rfl, _, _, _, _, _, rfl, .ty _, tv, T.kit "int" (by decide) _, _, rfl, iteF ⟨_, rfl, _, _, _, _, _, rfl, .ty _, tv, T.kit "dict" (by decide) _, _, rfl, iteF ⟨_, rfl, _, _, _, _, _, rfl, .ty _, tv, T.kit "str" (by decide) _, _, rfl, iteF k0⟩⟩⟩⟩⟩
/-- a def that goes through a tree of less than n floors -/
def spN (CU : Addr) (n : Nat) (f : D → V) : Sp := fun vs H Q _ => ∃ (v : V) (d : D), vs = [v] ∧ Rep CU H v d ∧ dep d < n ∧ ∀ H', Same H H' → Q (f d) H'
theorem spN_len {n : Nat} {f : D → V} {vs : List V} {H : Hp} {Q : VK} {E : XK} (h : spN CU n f vs H Q E) : vs.length = 1 := by
  obtain ⟨v, d, rfl, _⟩ := h
  rfl
theorem never0 {k : Nat} {f : Addr} {fd : FuncData} {x : Str} {g : D → V} : FnOk P w K mg base CX0 k f fd [x] (spN CU 0 g) := ⟨fun _ _ _ _ h => spN_len h, fun _ _ _ _ _ _ _ _ _ _ _ _ _ ⟨_, _, _, _, z, _⟩ => absurd z (Nat.not_lt_zero _)⟩
theorem scKn : FnScope ["value", "item", "key"] ["value"] (defScope sKnown) := ⟨rfl, rfl, rfl, by decide +kernel, rfl, by decide +kernel, by decide +kernel⟩
theorem ok_known {f fT : Addr} {fd dT : FuncData} {n k : Nat} (F : Fun K "is_known" "is_known" sKnown f fd) (T : Txt K mg CU) (gK : mg "is_known" = some (.ref f)) (bK : Binds K fd ["value"] []) (GT : FnOk P w K mg base CX0 2 fT dT ["thing"] (spD CU fun d => .bl (tagD d))) (gT : mg "is_tag" = some (.ref fT)) (kT : PySem.W.keepIn K (.ref fT) = true) (bT : Binds K dT ["thing"] []) (hk : 2 ≤ k)
    (GK : FnOk P w K mg base CX0 k f fd ["value"] (spN CU n fun d => .bl (known n d))) : FnOk P w K mg base CX0 (k + 1) f fd ["value"] (spN CU (n + 1) fun d => .bl (known (n + 1) d)) := by
  have kK := F.kp
  refine F.ok scKn (fun vs H Q E h => spN_len h) (fun cdv A outer s H vs Q E hr h => ?_)
  obtain ⟨v, d, rfl, hd, hn, k⟩ := h
  have hr2 : Room 2 _ := hr.mono hk
  have hu := hu_of hr
  refine ⟨_, (pss_cons (ps_if (pt_val (pe_callB call_isi (by rfl) T.isi (by decide +kernel) (pa_cons (pv 0) (pa_cons (pe_glob (v := .ref CU) rfl T.gU rfl) pa_nil)))) (pss_one (ps_ret pe_bl)) pss_nil)
      (pss_cons (ps_if (pt_val (pe_callB call_isi (by rfl) T.isi (by decide +kernel) (pa_cons (pv 0) (pa_cons (pe_bltn (v := .ty "tuple") (by rfl) T.tuple (by decide +kernel) rfl) pa_nil)))) (pss_one (ps_ret (pe_or (pe_call GT hr2 rfl gT kT bT .nil pass0 (pa_cons (pv 0) pa_nil)) (pe_one (pe_callB (cr_all rfl) (by rfl) T.all (by decide +kernel) (pa_cons (pe_lc (own := [("item", 1)]) (g := gName 1) (tt := tYes) rfl scKn.nd (pi_tup (pv 0)) (blkOk_by (own := [("item", 1)]) (N := ["value", "item", "key"]) (sc := (defScope sKnown)) (by decide +kernel)) (fun _ _ _ _ _ => pg_name (i := 1) scKn.nd rfl (Or.inl rfl)) (fun _ _ _ _ _ => pts_nil) (fun _ _ _ _ _ => (pe_call GK hr rfl gK kK bK .nil pass0 (pa_cons (pv 1) pa_nil)))) pa_nil)))))) pss_nil)
      (pss_one (ps_ret (pe_or (pe_not (pe_callB call_isi (by rfl) T.isi (by decide +kernel) (pa_cons (pv 0) (pa_cons (pe_bltn (v := .ty "dict") (by rfl) T.dict (by decide +kernel) rfl) pa_nil)))) (pe_one (pe_callB (cr_all rfl) (by rfl) T.all (by decide +kernel) (pa_cons (pe_lock (pe_lc (own := [("key", 2)]) (g := gName 2) (tt := tYes) rfl scKn.nd (pi_keys (pv 0)) (blkOk_by (own := [("key", 2)]) (N := ["value", "item", "key"]) (sc := (defScope sKnown)) (by decide +kernel)) (fun _ _ _ _ _ => pg_name (i := 2) scKn.nd rfl (Or.inl rfl)) (fun _ _ _ _ _ => pts_nil) (fun _ _ _ _ _ => (pe_call GK hr rfl gK kK bK .nil pass0 (pa_cons (pe_dget hu (pv 0) (pv 2) (fun _ _ => rfl)) pa_nil))))) pa_nil)))))))), ?_⟩
  have tv := Rep.ty T hd
  have k0 := k H (fun _ _ z => z)
  refine ⟨_, rfl, _, _, _, _, _, rfl, .own _, tv, T.kU d, _, rfl, ?_⟩
  cases hd with
  | unk h => exact iteT k0
  | @tup a xs ds h hl hz hs =>
    refine iteF ⟨_, rfl, _, _, _, _, _, rfl, .ty _, tv, T.kit "tuple" (by decide) _, _, rfl, iteT ⟨_, rfl, _, .tup ds, rfl, .tup h hl hz hs, fun H1 m1 => ⟨_, rfl, ?_⟩⟩⟩
    have k : ∀ H', Same H H' → Q (.bl (isTag ds || ds.all (known n))) H' := k
    cases e : tagD (.tup ds) with
    | true =>
      have k1 := k H1 m1
      rw [show isTag ds = true from e] at k1
      exact iteT k1
    | false =>
      rw [show isTag ds = false from e] at k
      have h1 := m1 _ _ h
      have hdl : depL ds < n := by rw [dep] at hn; omega
      refine iteF ⟨_, rfl, a, rfl, ⟨_, SqT.of h1⟩, fun D hD => ?_⟩
      refine lc_pure walk_tup hD (ds.map fun d => V.bl (known n d)) (by rw [List.length_map, hl]) (by rw [hl]; exact small1000 (by omega)) (fun H' m => SqT.of (m _ _ h1)) (fun i y H2 H3 z hz' m hy N hN => ?_) mono_name (fun H' m f => ?_)
      · obtain ⟨rfl, hx⟩ := hy
        rw [List.getElem?_map] at hz'
        obtain ⟨di, hdi, rfl⟩ := Option.map_eq_some_iff.mp hz'
        exact ⟨rfl, _, rfl, y, di, rfl, ((hs i y di hx hdi).same m1).same m, Nat.lt_of_le_of_lt (dep_mem (List.mem_of_getElem? hdi)) hdl, fun H5 m5 => hN H5 m5⟩
      · rw [show ds.map (fun d => V.bl (known n d)) = (ds.map (known n)).map V.bl from by rw [List.map_map]; rfl] at f
        have k1 := k H' (m1.trans m)
        refine ⟨D, _, rfl, SqL.of f, ?_⟩
        rw [List.all_map]
        exact k1
  | @map a vs ks ds h hv hk hz nd ko hs =>
    refine iteF ⟨_, rfl, _, _, _, _, _, rfl, .ty _, tv, T.kit "tuple" (by decide) _, _, rfl, iteF ⟨_, rfl, _, _, _, _, _, rfl, .ty _, tv, T.kit "dict" (by decide) _, _, rfl, _, rfl, iteF ?_⟩⟩
    have k : ∀ H', Same H H' → Q (.bl (ds.all (known n))) H' := k
    have hdl : depL ds < n := by rw [dep] at hn; omega
    have hrep : Rep CU H (.ref a) (.map ks ds) := .map h hv hk hz nd ko hs
    refine ⟨a, _, h, trivial, fun od => ?_⟩
    refine ⟨_, rfl, a, od, rfl, .inl ⟨_, upd_same, fun D hD => ?_⟩⟩
    have lkv : (mkv ks vs).length = ds.length := by rw [mkv_length (hk.trans hv.symm), hk]
    refine lc_pure walk_keys hD (ds.map fun d => V.bl (known n d)) (by rw [List.length_map, lkv]) (by rw [lkv]; exact small1000 (by omega)) (fun H' m => m _ _ upd_same) (fun i y H2 H3 z hz' m hy N hN => ?_) mono_name (fun H' m f => ?_)
    · obtain ⟨rfl, ky, vy, hx, rfl⟩ := hy
      rw [List.getElem?_map] at hz'
      obtain ⟨di, hdi, rfl⟩ := Option.map_eq_some_iff.mp hz'
      obtain ⟨x, hx1, rfl, hx3⟩ := mkv_get hx
      have hm := List.mem_of_getElem? hdi
      have hr1 : Rep CU (upd H a (.frz od (.dK (mkv ks vs)))) vy di := Rep.off hrep (hs i vy di hx3 hdi) (by rw [sz]; have := sz_mem hm; omega)
      exact ⟨rfl, _, rfl, _, rfl, a, vy, rfl, .inl ⟨_, Sum.inr x, .inr ⟨od, m _ _ upd_same⟩, rfl, (mkv_val nd hx1 hx3).symm⟩, vy, di, rfl, hr1.same m, Nat.lt_of_le_of_lt (dep_mem hm) hdl, fun H5 m5 => hN H5 m5⟩
    · rw [show ds.map (fun d => V.bl (known n d)) = (ds.map (known n)).map V.bl from by rw [List.map_map]; rfl] at f
      have nD : D ≠ a := fun z => by
        rw [z, upd_same] at hD
        cases hD
      have m3 := same_lock h m
      refine ⟨m _ _ upd_same, D, _, rfl, SqL.of (by rw [upd_ne nD]; exact f), ?_⟩
      have k1 := k _ m3
      rw [List.all_map]
      exact k1
  | _ => exact iteF ⟨_, rfl, _, _, _, _, _, rfl, .ty _, tv, T.kit "tuple" (by decide) _, _, rfl, iteF ⟨_, rfl, _, _, _, _, _, rfl, .ty _, tv, T.kit "dict" (by decide) _, _, rfl, _, rfl, iteT k0⟩⟩
end
end K01

namespace K01
open PySem L2 XR VT
/-- a list of pairs of trees -/
def PL (CU : Addr) (H : Hp) (p : Addr) (ps : List (D × D)) : Prop := ∃ ts : List Addr, H p = some (.lst (ts.map V.ref)) ∧ ts.length = ps.length ∧ ∀ (j : Nat) (t : Addr) (q : D × D), ts[j]? = some t → ps[j]? = some q → ∃ x y, H t = some (.tup [x, y]) ∧ Rep CU H x q.1 ∧ Rep CU H y q.2
def spParts (CU : Addr) : Sp := fun vs H Q _ => ∃ (v u : V) (a b : D), vs = [v, u] ∧ Rep CU H v a ∧ Rep CU H u b ∧ isU a = false ∧ isU b = false ∧ sort a = sort b ∧ (kids a b = none → ∀ H', Same H H' → Q .non H') ∧
  ∀ ps, kids a b = some ps → ∀ (p : Addr) (ps' : List (D × D)) (H' : Hp), Same H H' → ps'.Perm ps → PL CU H' p ps' → Q (.ref p) H'
section
variable {P : Program} {w : World} {K : PySem.W.Frag} {mg : Str → Option Value} {base : Heap} {CU : Addr}
theorem scPa : FnScope ["one", "other", "key"] ["one", "other"] (defScope sParts) := ⟨rfl, rfl, rfl, by decide +kernel, rfl, by decide +kernel, by decide +kernel⟩
theorem sort_tuple {d : D} (h : sort d = "tuple") : ∃ l, d = .tup l ∧ isTag l = false := by
  cases d with
  | tup l =>
    refine ⟨l, rfl, ?_⟩
    cases e : isTag l with
    | false => rfl
    | true =>
      have h' : (if isTag l then ("tag" : Str) else ("tuple" : Str)) = "tuple" := h
      rw [if_pos e] at h'
      exact absurd h' (by decide +kernel)
  | non => exact absurd (show ("none" : Str) = "tuple" from h) (by decide +kernel)
  | unk => exact absurd (show ("none" : Str) = "tuple" from h) (by decide +kernel)
  | bl b => exact absurd (show ("bool" : Str) = "tuple" from h) (by decide +kernel)
  | int i => exact absurd (show ("integer" : Str) = "tuple" from h) (by decide +kernel)
  | str x => exact absurd (show ("text" : Str) = "tuple" from h) (by decide +kernel)
  | map ks ds => exact absurd (show ("map" : Str) = "tuple" from h) (by decide +kernel)
theorem sort_map {d : D} (h : sort d = "map") : ∃ ks ds, d = .map ks ds := by
  cases d with
  | tup l =>
    have h' : (if isTag l then ("tag" : Str) else ("tuple" : Str)) = "map" := h
    split at h'
    · exact absurd h' (by decide +kernel)
    · exact absurd h' (by decide +kernel)
  | non => exact absurd (show ("none" : Str) = "map" from h) (by decide +kernel)
  | unk => exact absurd (show ("none" : Str) = "map" from h) (by decide +kernel)
  | bl b => exact absurd (show ("bool" : Str) = "map" from h) (by decide +kernel)
  | int i => exact absurd (show ("integer" : Str) = "map" from h) (by decide +kernel)
  | str x => exact absurd (show ("text" : Str) = "map" from h) (by decide +kernel)
  | map ks ds => exact ⟨ks, ds, rfl⟩
theorem tag_of {l : List D} (h : isTag l = true) : ∃ m n i, l = [.str m, .str n, .int i] := by
  unfold isTag at h
  split at h
  · exact ⟨_, _, _, rfl⟩
  · cases h
theorem tag_rep {H : Hp} {p : Addr} {xs : List V} {m n : Str} {i : Int} (h : H p = some (.tup xs)) (hl : xs.length = 3) (hs : ∀ (j : Nat) (v : V) (d : D), xs[j]? = some v → ([.str m, .str n, .int i] : List D)[j]? = some d → Rep CU H v d) :
    Dp K H (.ref p) (.tuple [.str m, .str n, .int i]) ∧ SeqAt.shaped (.tuple [.str m, .str n, .int i]) = true := by
  obtain ⟨v0, v1, v2, rfl⟩ := three hl
  have r0 := hs 0 v0 _ rfl rfl
  have r1 := hs 1 v1 _ rfl rfl
  have r2 := hs 2 v2 _ rfl rfl
  cases r0 with
  | str _ h0 =>
  cases r1 with
  | str _ h1 =>
  cases r2
  have a0 := h0.1
  have a1 := h1.1
  exact ⟨.tup (SqT.of h) (.cons (.str m) (.cons (.str n) (.cons (.int i) .nil))), by simp [SeqAt.shaped, PyData.canLay0, PyData.canLayAll0, PyData.depth, PyData.depthAll, a0, a1]⟩
theorem leaf_pair {H : Hp} {v u : V} {a b : D} (ha : Rep CU H v a) (hb : Rep CU H u b) (hua : isU a = false) (hub : isU b = false) (hsab : sort a = sort b) (n1 : ¬ sort a = "tuple") (n2 : ¬ sort a = "map") :
    ∃ da db, Dp K H v da ∧ Dp K H u db ∧ SeqAt.shaped da = true ∧ SeqAt.shaped db = true ∧ kids a b = (if PyData.eqv da db = true then some [] else none) := by
  cases ha with
  | non =>
    cases hb with
    | non => exact ⟨_, _, .non, .non, by simp [SeqAt.shaped, PyData.canLay0, PyData.canLayAll0, PyData.depth, PyData.depthAll], by simp [SeqAt.shaped, PyData.canLay0, PyData.canLayAll0, PyData.depth, PyData.depthAll], rfl⟩
    | bl b2 => exact absurd (show ("none" : Str) = "bool" from hsab) (by decide +kernel)
    | int i2 => exact absurd (show ("none" : Str) = "integer" from hsab) (by decide +kernel)
    | str x2 hx2 => exact absurd (show ("none" : Str) = "text" from hsab) (by decide +kernel)
    | unk h2 => cases hub
    | @tup p2 ys l' h2 hl2 hz2 hs2 =>
      have h' : ("none" : Str) = (if isTag l' then ("tag" : Str) else ("tuple" : Str)) := hsab
      split at h'
      · exact absurd h' (by decide +kernel)
      · exact absurd h' (by decide +kernel)
    | map h2 hv2 hk2 hz2 nd2 ko2 hs2 => exact absurd (show ("none" : Str) = "map" from hsab) (by decide +kernel)
  | bl b1 =>
    cases hb with
    | non => exact absurd (show ("bool" : Str) = "none" from hsab) (by decide +kernel)
    | bl b2 => exact ⟨_, _, .bl b1, .bl b2, by simp [SeqAt.shaped, PyData.canLay0, PyData.canLayAll0, PyData.depth, PyData.depthAll], by simp [SeqAt.shaped, PyData.canLay0, PyData.canLayAll0, PyData.depth, PyData.depthAll], by show (if b1 = b2 then _ else _) = _; simp [PyData.eqv]⟩
    | int i2 => exact absurd (show ("bool" : Str) = "integer" from hsab) (by decide +kernel)
    | str x2 hx2 => exact absurd (show ("bool" : Str) = "text" from hsab) (by decide +kernel)
    | unk h2 => cases hub
    | @tup p2 ys l' h2 hl2 hz2 hs2 =>
      have h' : ("bool" : Str) = (if isTag l' then ("tag" : Str) else ("tuple" : Str)) := hsab
      split at h'
      · exact absurd h' (by decide +kernel)
      · exact absurd h' (by decide +kernel)
    | map h2 hv2 hk2 hz2 nd2 ko2 hs2 => exact absurd (show ("bool" : Str) = "map" from hsab) (by decide +kernel)
  | int i1 =>
    cases hb with
    | non => exact absurd (show ("integer" : Str) = "none" from hsab) (by decide +kernel)
    | bl b2 => exact absurd (show ("integer" : Str) = "bool" from hsab) (by decide +kernel)
    | int i2 => exact ⟨_, _, .int i1, .int i2, by simp [SeqAt.shaped, PyData.canLay0, PyData.canLayAll0, PyData.depth, PyData.depthAll], by simp [SeqAt.shaped, PyData.canLay0, PyData.canLayAll0, PyData.depth, PyData.depthAll], by show (if i1 = i2 then _ else _) = _; simp [PyData.eqv]⟩
    | str x2 hx2 => exact absurd (show ("integer" : Str) = "text" from hsab) (by decide +kernel)
    | unk h2 => cases hub
    | @tup p2 ys l' h2 hl2 hz2 hs2 =>
      have h' : ("integer" : Str) = (if isTag l' then ("tag" : Str) else ("tuple" : Str)) := hsab
      split at h'
      · exact absurd h' (by decide +kernel)
      · exact absurd h' (by decide +kernel)
    | map h2 hv2 hk2 hz2 nd2 ko2 hs2 => exact absurd (show ("integer" : Str) = "map" from hsab) (by decide +kernel)
  | str x1 hx1 =>
    cases hb with
    | non => exact absurd (show ("text" : Str) = "none" from hsab) (by decide +kernel)
    | bl b2 => exact absurd (show ("text" : Str) = "bool" from hsab) (by decide +kernel)
    | int i2 => exact absurd (show ("text" : Str) = "integer" from hsab) (by decide +kernel)
    | str x2 hx2 => exact ⟨_, _, .str x1, .str x2, by simp [SeqAt.shaped, PyData.canLay0, PyData.canLayAll0, PyData.depth, PyData.depthAll, hx1.1], by simp [SeqAt.shaped, PyData.canLay0, PyData.canLayAll0, PyData.depth, PyData.depthAll, hx2.1], by show (if x1 = x2 then _ else _) = _; simp [PyData.eqv]⟩
    | unk h2 => cases hub
    | @tup p2 ys l' h2 hl2 hz2 hs2 =>
      have h' : ("text" : Str) = (if isTag l' then ("tag" : Str) else ("tuple" : Str)) := hsab
      split at h'
      · exact absurd h' (by decide +kernel)
      · exact absurd h' (by decide +kernel)
    | map h2 hv2 hk2 hz2 nd2 ko2 hs2 => exact absurd (show ("text" : Str) = "map" from hsab) (by decide +kernel)
  | unk h1 => cases hua
  | @tup p1 xs l h1 hl1 hz1 hs1 =>
    have t1 : isTag l = true := by
      cases e : isTag l with
      | true => rfl
      | false => exact absurd (show (if isTag l then ("tag" : Str) else ("tuple" : Str)) = "tuple" from by rw [e]; rfl) n1
    have s1 : sort (.tup l) = "tag" := by
      show (if isTag l then ("tag" : Str) else ("tuple" : Str)) = "tag"
      rw [t1]
      rfl
    rw [s1] at hsab
    cases hb with
    | @tup p2 ys l' h2 hl2 hz2 hs2 =>
      have t2 : isTag l' = true := by
        cases e : isTag l' with
        | true => rfl
        | false =>
          have h' : ("tag" : Str) = (if isTag l' then ("tag" : Str) else ("tuple" : Str)) := hsab
          rw [e] at h'
          exact absurd h' (by decide +kernel)
      obtain ⟨m, n, i, rfl⟩ := tag_of t1
      obtain ⟨m', n', i', rfl⟩ := tag_of t2
      obtain ⟨d1, sh1⟩ := tag_rep (K := K) h1 hl1 hs1
      obtain ⟨d2, sh2⟩ := tag_rep (K := K) h2 hl2 hs2
      refine ⟨_, _, d1, d2, sh1, sh2, ?_⟩
      show (if isTag [.str m, .str n, .int i] then (if leqT [.str m, .str n, .int i] [.str m', .str n', .int i'] then some [] else none) else _) = _
      rw [if_pos t1]
      have e : leqT [.str m, .str n, .int i] [.str m', .str n', .int i'] = PyData.eqv (.tuple [.str m, .str n, .int i]) (.tuple [.str m', .str n', .int i']) := by
        rw [Bool.eq_iff_iff]
        simp [leqT, PyData.eqv, PyData.eqvAll, and_assoc]
      rw [e]
    | unk h2 => cases hub
    | non => exact absurd (show ("tag" : Str) = "none" from hsab) (by decide +kernel)
    | bl b2 => exact absurd (show ("tag" : Str) = "bool" from hsab) (by decide +kernel)
    | int i2 => exact absurd (show ("tag" : Str) = "integer" from hsab) (by decide +kernel)
    | str x2 hx2 => exact absurd (show ("tag" : Str) = "text" from hsab) (by decide +kernel)
    | map h2 hv2 hk2 hz2 nd2 ko2 hs2 => exact absurd (show ("tag" : Str) = "map" from hsab) (by decide +kernel)
  | map h1 hv1 hk1 hz1 nd1 ko1 hs1 => exact absurd rfl n2
theorem refs_of : ∀ {zs : List V}, (∀ (i : Nat) (v : V), zs[i]? = some v → ∃ t, v = .ref t) → ∃ ts : List Addr, zs = ts.map V.ref
  | [], _ => ⟨[], rfl⟩
  | z :: zs, h => by
    obtain ⟨t, rfl⟩ := h 0 z rfl
    obtain ⟨ts, rfl⟩ := refs_of (zs := zs) fun i v e => h (i + 1) v e
    exact ⟨t :: ts, rfl⟩
theorem dp_strs {H : Hp} : ∀ ys : List Str, DpAll K H (ys.map V.str) (ys.map PyData.str)
  | [] => .nil
  | y :: ys => .cons (.str y) (dp_strs ys)
theorem lay_strs : ∀ {ys : List Str}, (∀ y ∈ ys, TxOk y) → PyData.canLayAll0 (ys.map PyData.str) = true ∧ PyData.depthAll (ys.map PyData.str) = 0
  | [], _ => ⟨rfl, rfl⟩
  | y :: ys, h => by
    obtain ⟨h1, h2⟩ := lay_strs (ys := ys) fun z hz => h z (List.mem_cons_of_mem _ hz)
    have h3 := (h y List.mem_cons_self).1
    simp only [List.map_cons, PyData.canLayAll0, PyData.canLay0, PyData.depthAll, PyData.depth, h1, h2, h3]
    exact ⟨rfl, rfl⟩
theorem shaped_strs {ys : List Str} (h : ∀ y ∈ ys, TxOk y) : SeqAt.shaped (.list (ys.map .str)) = true := by
  obtain ⟨h1, h2⟩ := lay_strs h
  simp [SeqAt.shaped, PyData.canLay0, PyData.depth, h1, h2]
theorem str_dec {x y : Str} : decide (V.str x = V.str y) = decide (x = y) := by
  rw [Bool.eq_iff_iff]
  simp
theorem ok_parts {f fS : Addr} {fd dS : FuncData} (F : Fun K "parts_of" "parts_of" sParts f fd) (T : Txt K mg CU) (GS : FnOk P w K mg base CX0 3 fS dS ["value"] (spD CU fun d => .str (sort d))) (gS : mg "sort_of" = some (.ref fS)) (kS : PySem.W.keepIn K (.ref fS) = true) (bS : Binds K dS ["value"] []) :
    FnOk P w K mg base CX0 4 f fd ["one", "other"] (spParts CU) := by
  refine F.ok scPa (fun vs H Q E h => ?_) (fun cdv A outer s H vs Q E hr h => ?_)
  · obtain ⟨v, u, a, b, rfl, _⟩ := h
    rfl
  obtain ⟨v, u, a, b, rfl, ha, hb, hua, hub, hsab, kn, kp⟩ := h
  have hu := hu_of hr
  refine ⟨_, (pss_cons (ps_if (pt_cmpR op_eq (pe_call GS hr rfl gS kS bS .nil pass0 (pa_cons (pv 0) pa_nil)) pe_str (nomark _)) (pss_one (ps_ret (pe_ifExp (pt_cmpR op_eq (pe_callB call_len (by rfl) T.len (by decide +kernel) (pa_cons (pv 0) pa_nil)) (pe_callB call_len (by rfl) T.len (by decide +kernel) (pa_cons (pv 1) pa_nil)) (nomark _)) (XZ.pe_listZip rfl (by rfl) T.list (by decide +kernel) (by rfl) T.zip (pa_cons (pv 0) (pa_cons (pv 1) pa_nil))) pe_non))) pss_nil)
      (pss_cons (ps_if (pt_cmpR op_eq (pe_call GS hr rfl gS kS bS .nil pass0 (pa_cons (pv 0) pa_nil)) pe_str (nomark _)) (pss_one (ps_ret (pe_ifExp (pt_cmpR (op_eqD hr.units) (pe_callB (call_sortedD rfl) (by rfl) T.sorted (by decide +kernel) (pa_cons (pv 0) pa_nil)) (pe_callB (call_sortedD rfl) (by rfl) T.sorted (by decide +kernel) (pa_cons (pv 1) pa_nil)) (nomark _)) (pe_lc (own := [("key", 2)]) (g := gName 2) (tt := tYes) rfl scPa.nd (pi_list (pe_callB (call_sortedD rfl) (by rfl) T.sorted (by decide +kernel) (pa_cons (pv 0) pa_nil))) (blkOk_by (own := [("key", 2)]) (N := ["one", "other", "key"]) (sc := (defScope sParts)) (by decide +kernel)) (fun _ _ _ _ _ => pg_name (i := 2) scPa.nd rfl (Or.inl rfl)) (fun _ _ _ _ _ => pts_nil) (fun _ _ _ _ _ => (pe_tup (pa_cons (pe_dget hu (pv 0) (pv 2) (fun _ _ => rfl)) (pa_cons (pe_dget hu (pv 1) (pv 2) (fun _ _ => rfl)) pa_nil))))) pe_non))) pss_nil)
      (pss_one (ps_ret (pe_ifExp (pt_cmpR (op_eqD hr.units) (pv 0) (pv 1) (nomark _)) (pe_lst pa_nil) pe_non))))), ?_⟩
  refine ⟨_, rfl, v, a, rfl, ha, fun H1 m1 => ⟨rfl, _, rfl, ?_⟩⟩
  have ha1 := ha.same m1
  have hb1 := hb.same m1
  by_cases e1 : sort a = "tuple"
  · have e1' : V.str (sort a) = V.str "tuple" := by rw [e1]
    rw [decide_eq_true e1']
    refine iteT ?_
    obtain ⟨l, rfl, ht⟩ := sort_tuple e1
    obtain ⟨l', rfl, ht'⟩ := sort_tuple (hsab ▸ e1)
    have ke : kids (.tup l) (.tup l') = if l.length = l'.length then some (l.zip l') else none := by
      show (if isTag l then _ else _) = _
      rw [ht]
      rfl
    cases ha1 with
    | @tup p1 xs _ h1 hl1 hz1 hs1 =>
    cases hb1 with
    | @tup p2 ys _ h2 hl2 hz2 hs2 =>
    refine ⟨_, rfl, _, _, rfl, .inr ⟨_, SqT.of h1, rfl⟩, _, rfl, _, _, rfl, .inr ⟨_, SqT.of h2, rfl⟩, rfl, _, rfl, ?_⟩
    by_cases hl : l.length = l'.length
    · have hl' : V.int (xs.length : Int) = V.int (ys.length : Int) := by rw [hl1, hl2, hl]
      rw [decide_eq_true hl']
      rw [if_pos hl] at ke
      refine iteT ⟨_, rfl, _, rfl, p1, p2, xs, ys, rfl, SqT.of h1, SqT.of h2, by omega, fun H' p ts m hp e hlt hpr => ?_⟩
      refine kp _ ke p _ H' (m1.trans m) (.refl _) ⟨ts, e, by rw [List.length_zip]; omega, fun j t q hj hq => ?_⟩
      obtain ⟨x, y, hx, hy, ht2⟩ := hpr j t hj
      obtain ⟨q1, q2⟩ := List.getElem?_zip_eq_some.mp hq
      exact ⟨x, y, ht2, (hs1 j x q.1 hx q1).same m, (hs2 j y q.2 hy q2).same m⟩
    · have hl' : ¬ V.int (xs.length : Int) = V.int (ys.length : Int) := fun z => hl (by have := V.int.inj z; omega)
      rw [decide_eq_false hl']
      rw [if_neg hl] at ke
      exact iteF (kn ke H1 m1)
  have e1' : ¬ V.str (sort a) = V.str "tuple" := fun z => e1 (V.str.inj z)
  rw [decide_eq_false e1']
  refine iteF ?_
  refine ⟨_, rfl, v, a, rfl, ha1, fun H2 m2 => ⟨rfl, _, rfl, ?_⟩⟩
  have ha2 := ha1.same m2
  have hb2 := hb1.same m2
  by_cases e2 : sort a = "map"
  · have e2' : V.str (sort a) = V.str "map" := by rw [e2]
    rw [decide_eq_true e2']
    refine iteT ?_
    obtain ⟨ks, ds, rfl⟩ := sort_map e2
    obtain ⟨ks', ds', rfl⟩ := sort_map (hsab ▸ e2)
    cases ha2 with
    | @map p1 vs1 _ _ h1 hv1 hk1 hz1 nd1 ko1 hs1 =>
    cases hb2 with
    | @map p2 vs2 _ _ h2 hv2 hk2 hz2 nd2 ko2 hs2 =>
    have ke : kids (.map ks ds) (.map ks' ds') = if ks.Perm ks' then some (ks.map (pairAt ks ds ks' ds')) else none := by
      show (if ks.Perm ks' then some ((ks.zip ds).map fun p => (p.2, get ks' ds' p.1)) else none) = _
      rw [zip_pairs nd1 hk1]
    refine ⟨_, rfl, p1, _, ks, rfl, .inl h1, mkv_keys (hk1.trans hv1.symm), by omega, fun ys q1 py sy hq1 => ?_⟩
    have n3 := same_new (o := .lst (ys.map V.str)) hq1
    have f3 := at_new (o := .lst (ys.map V.str)) hq1
    generalize (upd H2 q1 (.lst (ys.map V.str))) = H3 at n3 f3 ⊢
    refine ⟨_, rfl, p2, _, ks', rfl, .inl (n3 _ _ h2), mkv_keys (hk2.trans hv2.symm), by omega, fun zs q2 pz sz' hq2 => ?_⟩
    have n4 := same_new (o := .lst (zs.map V.str)) hq2
    have f4 := at_new (o := .lst (zs.map V.str)) hq2
    generalize (upd H3 q2 (.lst (zs.map V.str))) = H4 at n4 f4 ⊢
    refine ⟨_, _, .lst (SqL.of (n4 _ _ f3)) (dp_strs ys), .lst (SqL.of f4) (dp_strs zs), shaped_strs (fun y hy => ko1 y (py.mem_iff.mp hy)), shaped_strs (fun y hy => ko2 y (pz.mem_iff.mp hy)), _, rfl, ?_⟩
    have ev : PyData.eqv (.list (ys.map .str)) (.list (zs.map .str)) = decide (ys = zs) := by
      rw [PyData.eqv]
      exact eqv_strs ys zs
    rw [ev]
    have so := sorted_one py sy pz sz'
    have m4 := ((m1.trans m2).trans n3).trans n4
    by_cases hp : ks.Perm ks'
    case neg =>
      rw [decide_eq_false fun z => hp (so.mp z)]
      rw [if_neg hp] at ke
      exact iteF (kn ke H4 m4)
    rw [decide_eq_true (so.mpr hp)]
    rw [if_pos hp] at ke
    refine iteT ?_
    have h14 := (n3.trans n4) _ _ h1
    have h24 := (n3.trans n4) _ _ h2
    refine ⟨_, rfl, p1, _, ks, rfl, .inl h14, mkv_keys (hk1.trans hv1.symm), by omega, fun ys3 q3 py3 sy3 hq3 => ?_⟩
    have n5 := same_new (o := .lst (ys3.map V.str)) hq3
    have f5 := at_new (o := .lst (ys3.map V.str)) hq3
    generalize (upd H4 q3 (.lst (ys3.map V.str))) = H5 at n5 f5 ⊢
    have ly : ys3.length = ks.length := py3.length_eq
    refine ⟨q3, rfl, ⟨_, SqL.of f5⟩, fun D hD => ?_⟩
    refine lc_rel walk_list hD (by rw [List.length_map]; exact small1000 (by omega)) (fun i H' v => ∃ t, v = .ref t ∧ ∀ k, ys3[i]? = some k → ∃ x y, H' t = some (.tup [x, y]) ∧ Rep CU H' x (get ks ds k) ∧ Rep CU H' y (get ks' ds' k))
      (fun i H H' v m ⟨t, e, h⟩ => ⟨t, e, fun k hk => let ⟨x, y, a, b, c⟩ := h k hk; ⟨x, y, m _ _ a, b.same m, c.same m⟩⟩)
      (fun i H H' v l bu hl ⟨t, e, h⟩ => ⟨t, e, fun k hk => let ⟨x, y, a, b, c⟩ := h k hk; ⟨x, y, bu _ _ a (ne_of a hl (fun z => nomatch z)), b.but bu hl tr_lst, c.but bu hl tr_lst⟩⟩)
      (fun H' m => SqL.of (m _ _ f5)) (fun i x H6 H7 hi m hy N hN => ?_) mono_name (fun H' zs' m f hl hR => ?_)
    · obtain ⟨rfl, hx⟩ := hy
      rw [List.getElem?_map] at hx
      obtain ⟨k, hk, rfl⟩ := Option.map_eq_some_iff.mp hx
      have hkm := py3.mem_iff.mp (List.mem_of_getElem? hk)
      have hkm' := hp.mem_iff.mp hkm
      obtain ⟨j, hj, ej⟩ := List.mem_iff_getElem.mp hkm
      obtain ⟨j', hj', ej'⟩ := List.mem_iff_getElem.mp hkm'
      have kj : ks[j]? = some k := by rw [List.getElem?_eq_getElem hj, ej]
      have kj' : ks'[j']? = some k := by rw [List.getElem?_eq_getElem hj', ej']
      have vj : vs1[j]? = some vs1[j] := List.getElem?_eq_getElem (by omega)
      have vj' : vs2[j']? = some vs2[j'] := List.getElem?_eq_getElem (by omega)
      have dj : ds[j]? = some ds[j] := List.getElem?_eq_getElem (by omega)
      have dj' : ds'[j']? = some ds'[j'] := List.getElem?_eq_getElem (by omega)
      have g1 := (n5.trans m) _ _ h14
      have g2 := (n5.trans m) _ _ h24
      refine ⟨rfl, _, rfl, _, rfl, p1, _, rfl, .inl ⟨_, Sum.inr k, .inl g1, rfl, (mkv_val nd1 kj vj).symm⟩, _, rfl, _, rfl, p2, _, rfl, .inl ⟨_, Sum.inr k, .inl g2, rfl, (mkv_val nd2 kj' vj').symm⟩, (by show 2 ≤ sizeLine; decide), fun t ht => ?_⟩
      have mm := (n3.trans n4).trans (n5.trans m)
      refine hN _ _ (same_new ht) ⟨t, rfl, fun k' hk' => ?_⟩
      rw [hk] at hk'
      cases hk'
      refine ⟨_, _, upd_same, ?_, ?_⟩
      · rw [get_at nd1 kj dj]
        exact ((hs1 j _ _ vj dj).same mm).same (same_new ht)
      · rw [get_at nd2 kj' dj']
        exact ((hs2 j' _ _ vj' dj').same mm).same (same_new ht)
    · obtain ⟨ts, rfl⟩ := refs_of fun i v e => let ⟨t, h, _⟩ := hR i v e; ⟨t, h⟩
      refine kp _ ke D (ys3.map (pairAt ks ds ks' ds')) H' ((m4.trans n5).trans m) (py3.map _) ⟨ts, f, by rw [List.length_map, List.length_map] at hl; rw [List.length_map]; exact hl, fun j t q hj hq => ?_⟩
      rw [List.getElem?_map] at hq
      obtain ⟨k, hk, rfl⟩ := Option.map_eq_some_iff.mp hq
      obtain ⟨t', et, hh⟩ := hR j (.ref t) (by rw [List.getElem?_map, hj]; rfl)
      cases et
      obtain ⟨x, y, a, b, c⟩ := hh k hk
      exact ⟨x, y, a, b, c⟩
  have e2' : ¬ V.str (sort a) = V.str "map" := fun z => e2 (V.str.inj z)
  rw [decide_eq_false e2']
  refine iteF ?_
  obtain ⟨da, db, d1, d2, s1, s2, ke⟩ := leaf_pair (K := K) ha2 hb2 hua hub hsab e1 e2
  refine ⟨_, rfl, _, rfl, da, db, d1, d2, s1, s2, _, rfl, ?_⟩
  cases eq : PyData.eqv da db with
  | true =>
    rw [if_pos eq] at ke
    refine iteT ⟨(by show 0 ≤ sizeLine; decide), fun p hp => ?_⟩
    exact kp _ ke p [] _ ((m1.trans m2).trans (same_new hp)) (.refl _) ⟨[], upd_same, rfl, fun j t q hj _ => nomatch hj⟩
  | false =>
    rw [if_neg (by rw [eq]; decide)] at ke
    exact iteF (kn ke H2 (m1.trans m2))
end
end K01

namespace K01
open PySem L2 XR VT
theorem same_kind (n : Nat) (a b : D) : (∃ x, same n a b = .bl x) ∨ same n a b = .unk := by
  cases n with
  | zero => exact .inl ⟨_, rfl⟩
  | succ n =>
    rw [same]
    split
    · exact .inr rfl
    · split
      · split
        · exact .inl ⟨_, rfl⟩
        · rename_i ps _
          unfold verdict
          split
          · exact .inl ⟨_, rfl⟩
          · split
            · exact .inr rfl
            · exact .inl ⟨_, rfl⟩
      · exact .inl ⟨_, rfl⟩
def spSame (CU : Addr) (n : Nat) : Sp := fun vs H Q _ => ∃ (v u : V) (a b : D), vs = [v, u] ∧ Rep CU H v a ∧ Rep CU H u b ∧ dep a < n ∧ dep b < n ∧ ∀ (r : V) (H' : Hp), Same H H' → Rep CU H' r (same n a b) → Q r H'
theorem spSame_len {CU : Addr} {n : Nat} {vs : List V} {H : Hp} {Q : VK} {E : XK} (h : spSame CU n vs H Q E) : vs.length = 2 := by
  obtain ⟨v, u, a, b, rfl, _⟩ := h
  rfl
section
variable {P : Program} {w : World} {K : PySem.W.Frag} {mg : Str → Option Value} {base : Heap} {CU : Addr}
theorem kids_len {H : Hp} {v : V} {a b : D} {ps : List (D × D)} (ha : Rep CU H v a) (hk : kids a b = some ps) : ps.length ≤ 60 := by
  unfold kids at hk
  split at hk
  · cases ha with
    | tup h hl hz hs =>
      split at hk
      · split at hk
        · cases hk; exact Nat.zero_le _
        · cases hk
      · split at hk
        · cases hk; rw [List.length_zip]; omega
        · cases hk
  · cases ha with
    | map h hv hk' hz nd ko hs =>
      split at hk
      · cases hk; rw [List.length_map, List.length_zip]; omega
      · cases hk
  · cases hk; exact Nat.zero_le _
  · split at hk
    · cases hk; exact Nat.zero_le _
    · cases hk
  · split at hk
    · cases hk; exact Nat.zero_le _
    · cases hk
  · split at hk
    · cases hk; exact Nat.zero_le _
    · cases hk
  · cases hk
def isB : V → Bool
  | .bl _ => true
  | _ => false
theorem verdict_zs {H : Hp} : ∀ {zs : List V} {ans : List D}, zs.length = ans.length → (∀ (i : Nat) (z : V) (d : D), zs[i]? = some z → ans[i]? = some d → Rep CU H z d) → (∀ d ∈ ans, (∃ x, d = .bl x) ∨ d = .unk) →
    inV (.bl false) (zs.filter isB) = (ans.any fun d => match d with | .bl false => true | _ => false) ∧ zs.any isRefV = ans.any isU
  | [], [], _, _, _ => ⟨rfl, rfl⟩
  | z :: zs, d :: ans, hl, hR, hk => by
    obtain ⟨i1, i2⟩ := verdict_zs (zs := zs) (ans := ans) (Nat.succ.inj hl) (fun i z d h1 h2 => hR (i + 1) z d h1 h2) (fun d hd => hk d (List.mem_cons_of_mem _ hd))
    have r := hR 0 z d rfl rfl
    rcases hk d List.mem_cons_self with ⟨x, rfl⟩ | rfl
    · cases r
      cases x
      · refine ⟨?_, ?_⟩
        · simp [isB, inV, eqV]
        · simpa [isRefV, isU] using i2
      · refine ⟨?_, ?_⟩
        · simpa [isB, inV, eqV] using i1
        · simpa [isRefV, isU] using i2
    · cases r with
      | unk h =>
        refine ⟨?_, ?_⟩
        · simpa [isB] using i1
        · simp [isRefV, isU]
theorem scUe : FnScope ["self", "other"] ["self", "other"] (defScope sUEq) := ⟨rfl, rfl, rfl, by decide +kernel, rfl, by decide +kernel, by decide +kernel⟩
theorem ok_ueq {f : Addr} {fd : FuncData} (F : Fun K "__eq__" "Unknown.__eq__" sUEq f fd) (T : Txt K mg CU) : FnOk P w K mg base CX0 1 f fd ["self", "other"] (spIsC K CU) := by
  refine F.ok scUe (fun vs H Q E h => ?_) (fun cdv A outer s H vs Q E hr h => ?_)
  · obtain ⟨a, y, t, b, rfl, _⟩ := h
    rfl
  obtain ⟨a, y, t, b, rfl, ty, kt, k⟩ := h
  refine ⟨_, (pss_one (ps_ret (pe_callB call_isi (by rfl) T.isi (by decide +kernel) (pa_cons (pv 1) (pa_cons (pe_glob (v := .ref CU) rfl T.gU rfl) pa_nil))))), ?_⟩
  exact ⟨_, rfl, _, _, _, _, _, rfl, .own _, ty, kt, k H (fun _ _ z => z)⟩
theorem scSm : FnScope ["one", "other", "pairs", "answers", "mine", "its", "answer"] ["one", "other"] (defScope sSame) := ⟨rfl, rfl, rfl, by decide +kernel, rfl, by decide +kernel, by decide +kernel⟩
theorem same0 {k : Nat} {f : Addr} {fd : FuncData} : FnOk P w K mg base CX0 k f fd ["one", "other"] (spSame CU 0) := ⟨fun _ _ _ _ h => spSame_len h, fun _ _ _ _ _ _ _ _ _ _ _ _ _ ⟨_, _, _, _, _, _, _, z, _⟩ => absurd z (Nat.not_lt_zero _)⟩
theorem ok_same {f fS fP fU : Addr} {fd dS dP dU : FuncData} {n k : Nat} (F : Fun K "same" "same" sSame f fd) (T : Txt K mg CU) (BU : Bare K mg "Unknown" CU) (U : UCls K CU fU) (GU : FnOk P w K mg base CX0 1 fU dU ["self", "other"] (spIsC K CU)) (bU : Binds K dU ["self", "other"] [])
    (GS : FnOk P w K mg base CX0 3 fS dS ["value"] (spD CU fun d => .str (sort d))) (gS : mg "sort_of" = some (.ref fS)) (kS : PySem.W.keepIn K (.ref fS) = true) (bS : Binds K dS ["value"] [])
    (GP : FnOk P w K mg base CX0 4 fP dP ["one", "other"] (spParts CU)) (gP : mg "parts_of" = some (.ref fP)) (kP : PySem.W.keepIn K (.ref fP) = true) (bP : Binds K dP ["one", "other"] [])
    (gK : mg "same" = some (.ref f)) (bK : Binds K fd ["one", "other"] []) (hk : 4 ≤ k) (GK : FnOk P w K mg base CX0 k f fd ["one", "other"] (spSame CU n)) : FnOk P w K mg base CX0 (k + 1) f fd ["one", "other"] (spSame CU (n + 1)) := by
  have kK := F.kp
  refine F.ok scSm (fun vs H Q E h => spSame_len h) (fun cdv A outer s H vs Q E hr h => ?_)
  obtain ⟨v, u, a, b, rfl, ha, hb, na, nb, kk⟩ := h
  have hr3 : Room 3 _ := hr.mono (Nat.le_trans (by decide) hk)
  have hr4 : Room 4 _ := hr.mono hk
  have hr2 : Room (1 + 1) _ := hr.mono (Nat.le_trans (by decide) hk)
  refine ⟨_, (pss_cons (ps_if (PW.pt (pw_or (pt_val (pe_callB call_isi (by rfl) T.isi (by decide +kernel) (pa_cons (pv 0) (pa_cons (pe_glob (v := .ref CU) rfl T.gU rfl) pa_nil)))) (pw_or1 (pt_val (pe_callB call_isi (by rfl) T.isi (by decide +kernel) (pa_cons (pv 1) (pa_cons (pe_glob (v := .ref CU) rfl T.gU rfl) pa_nil))))))) (pss_one (ps_ret (pe_bare BU rfl))) pss_nil)
      (pss_cons (ps_if (pt_cmpR op_ne (pe_call GS hr3 rfl gS kS bS .nil pass0 (pa_cons (pv 0) pa_nil)) (pe_call GS hr3 rfl gS kS bS .nil pass0 (pa_cons (pv 1) pa_nil)) (nomark _)) (pss_one (ps_ret pe_bl)) pss_nil)
      (pss_cons (ps_set (i := 2) scSm.nd rfl (Or.inl rfl) (pe_call GP hr4 rfl gP kP bP .nil pass0 (pa_cons (pv 0) (pa_cons (pv 1) pa_nil))))
      (pss_cons (ps_if (pt_cmpR op_isN (pv 2) pe_non (nomark _)) (pss_one (ps_ret pe_bl)) pss_nil)
      (pss_cons (ps_setLc (i := 3) (own := [("mine", 4), ("its", 5)]) (g := gTup K 2 (gCons (gName 4) (gCons (gName 5) gNil))) (tt := tYes) rfl scSm.nd rfl rfl (sw_true rfl rfl rfl (by decide +kernel)) (pi_list (pv 2)) (blkOk_by (own := [("mine", 4), ("its", 5)]) (N := ["one", "other", "pairs", "answers", "mine", "its", "answer"]) (sc := (defScope sSame)) (by decide +kernel)) (fun _ _ _ _ _ => (pg_tup rfl (pgs_cons (pg_name (i := 4) scSm.nd rfl (Or.inl rfl)) (pgs_cons (pg_name (i := 5) scSm.nd rfl (Or.inl rfl)) pgs_nil)))) (fun _ _ _ _ _ => pts_nil) (fun _ _ _ _ _ => (pe_call GK hr rfl gK kK bK .nil pass0 (pa_cons (pv 4) (pa_cons (pv 5) pa_nil)))))
      (pss_cons (ps_if (pt_cmpR op_in_seq pe_bl (pe_lc (own := [("answer", 6)]) (g := gName 6) (tt := tB (tCB (rIsi K) (tCons (tVar 6) (tCons (tC (V.ty "bool")) tNil)))) rfl scSm.nd (pi_list (pv 3)) (blkOk_by (own := [("answer", 6)]) (N := ["one", "other", "pairs", "answers", "mine", "its", "answer"]) (sc := (defScope sSame)) (by decide +kernel)) (fun _ _ _ _ _ => pg_name (i := 6) scSm.nd rfl (Or.inl rfl)) (fun _ _ _ _ _ => pts_one (pt_val (pe_callB call_isi (by rfl) T.isi (by decide +kernel) (pa_cons (pv 6) (pa_cons (pe_bltn (v := .ty "bool") (by rfl) T.bool (by decide +kernel) rfl) pa_nil))))) (fun _ _ _ _ _ => (pv 6))) (by rfl)) (pss_one (ps_ret pe_bl)) pss_nil)
      (pss_one (ps_ret (pe_ifExp (pt_cmpR (op_inU U GU bU hr2) (pe_bare BU rfl) (pv 3) (by rfl)) (pe_bare BU rfl) pe_bl))))))))), ?_⟩
  have mkU : same (n + 1) a b = .unk → ∀ H1, Same H H1 → ∀ a1 dx, H1 a1 = none → H1 dx = none → dx ≠ a1 → Q (.ref a1) (upd (upd H1 dx (.own a1)) a1 (.ins CU dx [])) := fun e H1 m1 a1 dx h1 h2 h3 => by
    refine kk _ _ (m1.trans ((same_new h2).trans (same_new (by rw [upd_ne (Ne.symm h3)]; exact h1)))) ?_
    rw [e]
    exact .unk upd_same
  have eS : same (n + 1) a b = (if (isU a || isU b) = true then .unk else if sort a = sort b then (match kids a b with | none => .bl false | some ps => verdict (ps.map fun p => same n p.1 p.2)) else .bl false) := rfl
  refine ⟨_, rfl, _, _, _, _, _, rfl, .own _, Rep.ty T ha, T.kU a, _, rfl, ?_⟩
  cases hua : isU a with
  | true =>
    refine iteT (iteT (mkU ?_ H (fun _ _ z => z)))
    rw [eS, hua]
    rfl
  | false =>
  refine iteF ?_
  refine ⟨_, rfl, _, _, _, _, _, rfl, .own _, Rep.ty T hb, T.kU b, _, rfl, ?_⟩
  cases hub : isU b with
  | true =>
    refine iteT (mkU ?_ H (fun _ _ z => z))
    rw [eS, hua, hub]
    rfl
  | false =>
  refine iteF ?_
  rw [hua, hub] at eS
  have eS' : same (n + 1) a b = (if sort a = sort b then (match kids a b with | none => .bl false | some ps => verdict (ps.map fun p => same n p.1 p.2)) else .bl false) := eS
  have fls : same (n + 1) a b = .bl false → ∀ H1, Same H H1 → Q (.bl false) H1 := fun e H1 m1 => kk _ H1 m1 (by rw [e]; exact .bl false)
  refine ⟨_, rfl, v, a, rfl, ha, fun H1 m1 => ⟨_, rfl, u, b, rfl, hb.same m1, fun H2 m2 => ⟨rfl, _, rfl, ?_⟩⟩⟩
  have m12 := m1.trans m2
  by_cases hs : sort a = sort b
  case neg =>
    have hs' : ¬ V.str (sort a) = V.str (sort b) := fun z => hs (V.str.inj z)
    rw [decide_eq_false hs']
    rw [if_neg hs] at eS'
    exact iteT (fls eS' H2 m12)
  have hs' : V.str (sort a) = V.str (sort b) := by rw [hs]
  rw [decide_eq_true hs']
  rw [if_pos hs] at eS'
  refine iteF ?_
  refine ⟨_, rfl, _, rfl, v, u, a, b, rfl, ha.same m12, hb.same m12, hua, hub, hs, fun kn H3 m3 => ?_, fun ps kps p ps' H3 m3 hperm hPL => ?_⟩
  · rw [kn] at eS'
    exact ⟨_, rfl, rfl, _, rfl, iteT (fls eS' H3 (m12.trans m3))⟩
  rw [kps] at eS'
  have eS2 : same (n + 1) a b = verdict (ps'.map fun p => same n p.1 p.2) := eS'.trans (verdict_perm (hperm.symm.map _))
  have ko := kids_of ha.wf hb.wf kps
  refine ⟨_, rfl, rfl, _, rfl, iteF ?_⟩
  obtain ⟨ts, fp, ltp, hpr⟩ := hPL
  refine ⟨_, rfl, p, rfl, ⟨_, SqL.of fp⟩, fun D hD => ?_⟩
  have lps : ts.length ≤ 60 := by rw [ltp, hperm.length_eq]; exact kids_len ha kps
  refine lc_rel walk_list hD (by rw [List.length_map]; exact small1000 (by omega)) (fun i H' v => ∀ q, ps'[i]? = some q → Rep CU H' v (same n q.1 q.2))
    (fun i H H' v m h q hq => (h q hq).same m) (fun i H H' v l bu hl h q hq => (h q hq).but bu hl tr_lst) (fun H' m => SqL.of (m _ _ fp)) (fun i x H6 H7 hi m hy N hN => ?_) mono_pair (fun H4 zs m f hl hR => ?_)
  · obtain ⟨rfl, hx⟩ := hy
    rw [List.getElem?_map] at hx
    obtain ⟨t, ht, rfl⟩ := Option.map_eq_some_iff.mp hx
    have hit : i < ts.length := (List.getElem?_eq_some_iff.mp ht).1
    have hiq : i < ps'.length := by omega
    have hq : ps'[i]? = some ps'[i] := List.getElem?_eq_getElem hiq
    obtain ⟨x, y, ft, rx, ry⟩ := hpr i t _ ht hq
    obtain ⟨_, _, d1, d2⟩ := ko _ (hperm.mem_iff.mp (List.mem_of_getElem? hq))
    refine ⟨t, _, rfl, SqT.of (m _ _ ft), rfl, _, _, rfl, _, _, rfl, rfl, rfl, _, rfl, _, rfl, x, y, _, _, rfl, rx.same m, ry.same m, by omega, by omega, fun r H8 m8 hr8 => hN r H8 m8 fun q hq' => ?_⟩
    rw [hq] at hq'
    cases hq'
    exact hr8
  have m4 := (m12.trans m3).trans m
  have lz : zs.length = ps'.length := by rw [hl, List.length_map, ltp]
  have kinds : ∀ (i : Nat) (z : V), zs[i]? = some z → (∃ c, z = .bl c) ∨ ∃ a1 dx, z = .ref a1 ∧ H4 a1 = some (.ins CU dx []) := fun i z hz => by
    have hi : i < ps'.length := by rw [← lz]; exact (List.getElem?_eq_some_iff.mp hz).1
    have r := hR i z hz _ (List.getElem?_eq_getElem hi)
    rcases same_kind n ps'[i].1 ps'[i].2 with ⟨c, e⟩ | e
    · rw [e] at r
      cases r
      exact .inl ⟨c, rfl⟩
    · rw [e] at r
      cases r with
      | unk h => exact .inr ⟨_, _, rfl, h⟩
  refine ⟨_, rfl, D, rfl, ⟨_, SqL.of f⟩, fun D2 hD2 => ?_⟩
  refine lc_it walk_list (fun i H' => Same H4 H' ∧ H' D2 = some (.lst ((zs.take i).filter isB))) ⟨same_new hD2, upd_same⟩ (fun i H' _ q => SqL.of (q.1 _ _ f)) ?_ ?_
  · rintro i x H5 H6 hi ⟨m5, f5⟩ ⟨rfl, hx⟩
    have tk : zs.take (i + 1) = zs.take i ++ [x] := by rw [List.take_add_one, hx]; rfl
    rcases kinds i x hx with ⟨c, rfl⟩ | ⟨a1, dx, rfl, h1⟩
    · refine ⟨rfl, _, rfl, _, _, _, _, true, rfl, .ty _, .base (.bl c), kit_ty (by decide +kernel), _, rfl, iteT ⟨_, rfl, _, f5, ?_, fun b o e => ?_, ?_⟩⟩
      · have := List.length_filter_le isB (zs.take i)
        rw [List.length_take] at this
        exact small1000 (by omega)
      · rw [upd_ne (ne_of_none e hD2)]
        exact m5 _ _ e
      · rw [upd_same, tk, List.filter_append]
        rfl
    · refine ⟨rfl, _, rfl, _, _, _, _, false, rfl, .ty _, .base (.ins (m5 _ _ h1) T.cu T.c1 T.c2 T.c3 T.c4), T.kT "bool" (by decide), _, rfl, iteF ⟨m5, ?_⟩⟩
      rw [f5, tk, List.filter_append]
      simp [isB]
  rintro H5 ⟨m5, f5⟩
  rw [List.take_length] at f5
  obtain ⟨v1, v2⟩ := verdict_zs (CU := CU) (H := H4) (zs := zs) (ans := ps'.map fun p => same n p.1 p.2) (by rw [List.length_map]; exact lz) (fun i z d h1 h2 => by
    rw [List.getElem?_map] at h2
    obtain ⟨q, hq, rfl⟩ := Option.map_eq_some_iff.mp h2
    exact hR i z h1 q hq) (fun d hd => by
    obtain ⟨q, _, rfl⟩ := List.mem_map.mp hd
    exact same_kind n q.1 q.2)
  have eS2 : same (n + 1) a b = (if inV (.bl false) (zs.filter isB) = true then .bl false else if zs.any isRefV = true then .unk else .bl true) := by
    rw [v1, v2]
    exact eS2
  have m45 := m4.trans m5
  refine ⟨D2, _, rfl, .inl (SqL.of f5), rfl, ?_, _, rfl, ?_⟩
  · rw [List.all_eq_true]
    intro z hz
    have := (List.mem_filter.mp hz).2
    cases z <;> first | rfl | cases this
  cases hi : inV (.bl false) (zs.filter isB) with
  | true =>
    rw [hi] at eS2
    exact iteT (fls eS2 H5 m45)
  | false =>
    rw [hi] at eS2
    refine iteF ?_
    intro a1 dx1 h1 h2 h3
    have n1 : Same H5 (upd (upd H5 dx1 (.own a1)) a1 (.ins CU dx1 [])) := (same_new h2).trans (same_new (by rw [upd_ne (Ne.symm h3)]; exact h1))
    have e1 : (upd (upd H5 dx1 (.own a1)) a1 (.ins CU dx1 [])) a1 = some (.ins CU dx1 []) := upd_same
    generalize (upd (upd H5 dx1 (.own a1)) a1 (.ins CU dx1 [])) = H6 at n1 e1 ⊢
    refine ⟨_, rfl, a1, dx1, [], D, zs, rfl, e1, rfl, n1 _ _ (m5 _ _ f), fun z hz => ?_, fun H7 m7 => ⟨_, rfl, ?_⟩⟩
    · obtain ⟨i, hi', rfl⟩ := List.mem_iff_getElem.mp hz
      rcases kinds i _ (List.getElem?_eq_getElem hi') with h | ⟨a2, dx2, e2, h4⟩
      · exact .inl h
      · exact .inr ⟨a2, dx2, [], e2, ne_of_none (m5 _ _ h4) h1, n1 _ _ (m5 _ _ h4)⟩
    · have m7' := (m45.trans n1).trans m7
      cases hj : zs.any isRefV with
      | true =>
        rw [hj] at eS2
        exact iteT (mkU eS2 H7 m7')
      | false =>
        rw [hj] at eS2
        exact iteF (kk _ H7 m7' (by rw [eS2]; exact .bl true))
end
end K01

namespace K01
open PySem L2 XR VT
def agr : D → Bool
  | .bl x => x
  | _ => true
def spAgrees (CU : Addr) (n : Nat) : Sp := fun vs H Q _ => ∃ (v u : V) (a b : D), vs = [v, u] ∧ Rep CU H v a ∧ Rep CU H u b ∧ dep a < n ∧ dep b < n ∧ ∀ H', Same H H' → Q (.bl (agr (same n a b))) H'
section
variable {P : Program} {w : World} {K : PySem.W.Frag} {mg : Str → Option Value} {base : Heap} {CU : Addr}
theorem scAg : FnScope ["planned", "value"] ["planned", "value"] (defScope sAgrees) := ⟨rfl, rfl, rfl, by decide +kernel, rfl, by decide +kernel, by decide +kernel⟩
theorem ok_agrees {f fK : Addr} {fd dK : FuncData} {n k : Nat} (F : Fun K "agrees" "agrees" sAgrees f fd) (T : Txt K mg CU) (GK : FnOk P w K mg base CX0 k fK dK ["one", "other"] (spSame CU n)) (gK : mg "same" = some (.ref fK)) (kK : PySem.W.keepIn K (.ref fK) = true) (bK : Binds K dK ["one", "other"] []) :
    FnOk P w K mg base CX0 (k + 1) f fd ["planned", "value"] (spAgrees CU n) := by
  refine F.ok scAg (fun vs H Q E h => ?_) (fun cdv A outer s H vs Q E hr h => ?_)
  · obtain ⟨v, u, a, b, rfl, _⟩ := h
    rfl
  obtain ⟨v, u, a, b, rfl, ha, hb, na, nb, kk⟩ := h
  refine ⟨_, (pss_one (ps_ret (pe_or (pe_not (pe_callB call_isi (by rfl) T.isi (by decide +kernel) (pa_cons (pe_call GK hr rfl gK kK bK .nil pass0 (pa_cons (pv 0) (pa_cons (pv 1) pa_nil))) (pa_cons (pe_bltn (v := .ty "bool") (by rfl) T.bool (by decide +kernel) rfl) pa_nil)))) (pe_one (pe_call GK hr rfl gK kK bK .nil pass0 (pa_cons (pv 0) (pa_cons (pv 1) pa_nil))))))), ?_⟩
  refine ⟨_, rfl, _, rfl, v, u, a, b, rfl, ha, hb, na, nb, fun r H1 m1 hr1 => ?_⟩
  refine ⟨_, _, _, _, _, rfl, .ty _, Rep.ty T hr1, T.kit "bool" (by decide) _, _, rfl, _, rfl, ?_⟩
  rcases same_kind n a b with ⟨x, e⟩ | e
  · rw [e]
    refine iteF ⟨_, rfl, _, rfl, v, u, a, b, rfl, ha.same m1, hb.same m1, na, nb, fun r2 H2 m2 hr2 => ?_⟩
    rw [e] at hr2
    cases hr2
    have := kk H2 (m1.trans m2)
    rw [e] at this
    exact this
  · rw [e]
    have := kk H1 m1
    rw [e] at this
    exact iteT this
end
end K01

namespace K01
open PySem L2 XR VT
abbrev sLTag : Stmt := top 18
def posD : D → Bool
  | .int i => decide (1 ≤ i)
  | _ => false
def spLTag (CU : Addr) : Sp := fun vs H Q _ => ∃ (v : V) (l : List D), vs = [v] ∧ Rep CU H v (.tup l) ∧ ∀ H', Same H H' → Q (.bl (isTag l)) H'
section
variable {P : Program} {w : World} {K : PySem.W.Frag} {mg : Str → Option Value} {base : Heap} {CU : Addr}
theorem scLt : FnScope ["_law_value_here", "_law_name", "_law_number", "_law_letter"] ["_law_value_here"] (defScope sLTag) := ⟨rfl, rfl, rfl, by decide +kernel, rfl, by decide +kernel, by decide +kernel⟩
theorem ok_ltag {f : Addr} {fd : FuncData} (F : Fun K "_law_is_tag" "_law_is_tag" sLTag f fd) (T : Txt K mg CU) : FnOk P w K mg base CX0 1 f fd ["_law_value_here"] (spLTag CU) := by
  refine F.ok scLt (fun vs H Q E h => ?_) (fun cdv A outer s H vs Q E hr h => ?_)
  · obtain ⟨v, l, rfl, _⟩ := h
    rfl
  obtain ⟨v, l, rfl, hd, k⟩ := h
  refine ⟨_, (pss_cons (ps_if (PW.pt (pw_or (pt_cmpR op_ne (pe_callB call_len (by rfl) T.len (by decide +kernel) (pa_cons (pv 0) pa_nil)) pe_int (nomark _)) (pw_or (pt_not (pt_val (pe_callB call_isi (by rfl) T.isi (by decide +kernel) (pa_cons (pe_ix ix_tup (pv 0) pe_int (fun _ _ => rfl)) (pa_cons (pe_bltn (v := .ty "str") (by rfl) T.str (by decide +kernel) rfl) pa_nil))))) (pw_or1 (pt_cmpR op_ne (pe_ix ix_tup (pv 0) pe_int (fun _ _ => rfl)) pe_str (nomark _)))))) (pss_one (ps_ret pe_bl)) pss_nil)
      (pss_cons (ps_par (i := 1) (j := 2) (by rfl) scLt.nd rfl rfl (by decide) rfl rfl (pa_cons (pe_ix ix_tup (pv 0) pe_int (fun _ _ => rfl)) (pa_cons (pe_ix ix_tup (pv 0) pe_int (fun _ _ => rfl)) pa_nil)) (by rfl))
      (pss_cons (ps_if (PW.pt (pw_or (pt_not (pt_val (pe_callB call_isi (by rfl) T.isi (by decide +kernel) (pa_cons (pv 1) (pa_cons (pe_bltn (v := .ty "str") (by rfl) T.str (by decide +kernel) rfl) pa_nil))))) (pw_or (pt_not (pt_chain op_lt op_lt pe_int (pe_callB call_len (by rfl) T.len (by decide +kernel) (pa_cons (pv 1) pa_nil)) pe_int)) (pw_or (pt_not (pt_val (pe_callB call_isi (by rfl) T.isi (by decide +kernel) (pa_cons (pv 2) (pa_cons (pe_bltn (v := .ty "int") (by rfl) T.int (by decide +kernel) rfl) pa_nil))))) (pw_or1 (pt_val (pe_callB call_isi (by rfl) T.isi (by decide +kernel) (pa_cons (pv 2) (pa_cons (pe_bltn (v := .ty "bool") (by rfl) T.bool (by decide +kernel) rfl) pa_nil))))))))) (pss_one (ps_ret pe_bl)) pss_nil)
      (pss_one (ps_ret (pe_and (pe_cmpR op_gt (pv 2) pe_int (nomark _)) (pe_one (pe_callB (cr_all rfl) (by rfl) T.all (by decide +kernel) (pa_cons (pe_lc (own := [("_law_letter", 3)]) (g := gName 3) (tt := tYes) rfl scLt.nd (pi_str (pv 1)) (blkOk_by (own := [("_law_letter", 3)]) (N := ["_law_value_here", "_law_name", "_law_number", "_law_letter"]) (sc := (defScope sLTag)) (by decide +kernel)) (fun _ _ _ _ _ => pg_name (i := 3) scLt.nd rfl (Or.inl rfl)) (fun _ _ _ _ _ => pts_nil) (fun _ _ _ _ _ => (pe_cmpR op_in_sign (pv 3) pe_str (by rfl)))) pa_nil))))))))), ?_⟩
  cases hd with
  | @tup a xs _ h hl hz hs =>
  refine ⟨_, rfl, _, _, rfl, .inr ⟨_, SqT.of h, rfl⟩, rfl, _, rfl, ?_⟩
  have fin : ∀ b H', Same H H' → b = isTag l → Q (.bl b) H' := fun b H' m e => by rw [e]; exact k H' m
  by_cases h3 : l.length = 3
  case neg =>
    have h3' : ¬ V.int (xs.length : Int) = V.int 3 := fun z => h3 (by have := V.int.inj z; omega)
    rw [decide_eq_false h3']
    exact iteT (iteT (fin _ H (fun _ _ z => z) (isTag3 h3).symm))
  have h3' : V.int (xs.length : Int) = V.int 3 := by rw [hl, h3]; rfl
  rw [decide_eq_true h3']
  refine iteF ?_
  obtain ⟨d0, d1, d2, rfl⟩ := three h3
  obtain ⟨v0, v1, v2, rfl⟩ := three (hl.trans h3)
  have r0 := hs 0 v0 d0 rfl rfl
  have r1 := hs 1 v1 d1 rfl rfl
  have r2 := hs 2 v2 d2 rfl rfl
  have i0 : atI [v0, v1, v2] 0 = some v0 := atI_nat (j := 0) rfl
  have i1 : atI [v0, v1, v2] 1 = some v1 := atI_nat (j := 1) rfl
  have i2 : atI [v0, v1, v2] 2 = some v2 := atI_nat (j := 2) rfl
  refine ⟨_, rfl, a, _, 0, v0, rfl, rfl, SqT.of h, i0, _, _, _, _, _, rfl, .ty _, Rep.ty T r0, T.kit "str" (by decide) d0, _, rfl, ?_⟩
  cases r0 with
  | str x hx =>
    refine iteF ?_
    refine ⟨_, rfl, a, _, 0, _, rfl, rfl, SqT.of h, i0, rfl, _, rfl, ?_⟩
    by_cases hm : x = "#"
    case neg =>
      have hm' : ¬ V.str x = V.str "#" := fun z => hm (V.str.inj z)
      rw [decide_eq_false hm']
      refine iteT (fin _ H (fun _ _ z => z) ?_)
      cases d1 <;> cases d2 <;> simp [isTag, hm]
    subst hm
    refine iteF ?_
    refine ⟨_, rfl, a, _, 1, v1, rfl, rfl, SqT.of h, i1, _, rfl, a, _, 2, v2, rfl, rfl, SqT.of h, i2, v1, v2, rfl, ?_⟩
    have e0 : isTag [.str "#", d1, d2] = (nameD d1 && (intD d2 && posD d2)) := by
      cases d1 <;> cases d2 <;> simp [isTag, nameD, intD, posD]
    rw [e0] at fin
    refine ⟨_, rfl, _, _, _, _, _, rfl, .ty _, Rep.ty T r1, T.kit "str" (by decide) d1, _, rfl, ?_⟩
    cases r1 with
    | str y hy =>
      refine iteF ?_
      have hyl := hy.2
      refine ⟨_, rfl, _, _, rfl, ⟨(by rw [sizeLine_eq]; omega), rfl⟩, ?_⟩
      refine ⟨0, _, rfl, rfl, _, rfl, ?_⟩
      by_cases h1 : (0 : Int) < (y.length : Int)
      case neg =>
        rw [decide_eq_false h1]
        refine iteF ⟨_, rfl, iteT (iteT (fin _ H (fun _ _ z => z) ?_))⟩
        have : ¬ 1 ≤ y.length := by omega
        simp [nameD, isName, this]
      rw [decide_eq_true h1]
      refine iteT ⟨_, 13, rfl, rfl, _, rfl, ?_⟩
      by_cases h2 : (y.length : Int) < 13
      case neg =>
        rw [decide_eq_false h2]
        refine iteT (iteT (fin _ H (fun _ _ z => z) ?_))
        have : ¬ y.length ≤ 12 := by omega
        simp [nameD, isName, this]
      rw [decide_eq_true h2]
      refine iteF ?_
      refine ⟨_, rfl, _, _, _, _, _, rfl, .ty _, Rep.ty T r2, T.kit "int" (by decide) d2, _, rfl, ?_⟩
      cases r2 with
      | int i =>
        refine iteF ⟨_, rfl, _, _, _, _, _, rfl, .ty _, .base (.int i), T.kit "bool" (by decide) (.int i), _, rfl, iteF ?_⟩
        refine ⟨_, rfl, _, _, rfl, rfl, _, rfl, ?_⟩
        by_cases hp : (0 : Int) < i
        case neg =>
          rw [decide_eq_false hp]
          refine iteF (fin _ H (fun _ _ z => z) ?_)
          have : ¬ 1 ≤ i := by omega
          simp [posD, this]
        rw [decide_eq_true hp]
        refine iteT ?_
        refine ⟨_, rfl, y, rfl, fun D hD => ?_⟩
        refine lc_pure walk_str hD (y.cps.toList.map fun c => V.bl (decide (c ∈ letters))) (by rw [List.length_map]; rfl) (by show y.length < sizeLine; rw [sizeLine_eq]; omega) (fun _ _ => trivial) (fun i y2 H2 H3 z hz m hy2 N hN => ?_) mono_name (fun H' m f => ?_)
        · obtain ⟨rfl, c, hc, rfl⟩ := hy2
          have hc' : y.cps.toList[i]? = some c := by rw [Array.getElem?_toList]; exact hc
          rw [List.getElem?_map, hc'] at hz
          cases hz
          exact ⟨rfl, _, rfl, c, _, rfl, rfl, hN _ (fun _ _ z => z)⟩
        · rw [show y.cps.toList.map (fun c => V.bl (decide (c ∈ letters))) = (y.cps.toList.map fun c => decide (c ∈ letters)).map V.bl from by rw [List.map_map]; rfl] at f
          refine ⟨D, _, rfl, SqL.of f, fin _ H' m ?_⟩
          have h1' : 1 ≤ y.length := by omega
          have h2' : y.length ≤ 12 := by omega
          have h3' : 1 ≤ i := by omega
          rw [List.all_map]
          simp [nameD, isName, intD, posD, h1', h2', h3']
      | bl b => exact iteF ⟨_, rfl, _, _, _, _, _, rfl, .ty _, .base (.bl b), T.kit "bool" (by decide) (.bl b), _, rfl, iteT (fin _ H (fun _ _ z => z) (by simp [intD]))⟩
      | _ => exact iteT (iteT (fin _ H (fun _ _ z => z) (by simp [intD])))
    | _ => exact iteT (iteT (fin _ H (fun _ _ z => z) rfl))
  | _ => exact iteT (iteT (fin _ H (fun _ _ z => z) (by cases d1 <;> cases d2 <;> simp [isTag])))
end
end K01

namespace K01
open PySem L2 XR VT
abbrev sLSort : Stmt := top 19
section
variable {P : Program} {w : World} {K : PySem.W.Frag} {mg : Str → Option Value} {base : Heap} {CU : Addr}
theorem scLs : FnScope ["_law_value_here"] ["_law_value_here"] (defScope sLSort) := ⟨rfl, rfl, rfl, by decide +kernel, rfl, by decide +kernel, by decide +kernel⟩
theorem ok_lsort {f fT : Addr} {fd dT : FuncData} (F : Fun K "_law_sort" "_law_sort" sLSort f fd) (T : Txt K mg CU) (GT : FnOk P w K mg base CX0 1 fT dT ["_law_value_here"] (spLTag CU)) (gT : mg "_law_is_tag" = some (.ref fT)) (kT : PySem.W.keepIn K (.ref fT) = true) (bT : Binds K dT ["_law_value_here"] []) :
    FnOk P w K mg base CX0 2 f fd ["_law_value_here"] (spD CU fun d => .str (lsort d)) := by
  refine F.ok scLs (fun vs H Q E h => spD_len h) (fun cdv A outer s H vs Q E hr h => ?_)
  obtain ⟨v, d, rfl, hd, k⟩ := h
  refine ⟨_, (pss_cons (ps_if (pt_cmpR op_isN (pv 0) pe_non (nomark _)) (pss_one (ps_ret pe_str)) pss_nil)
      (pss_cons (ps_if (pt_val (pe_callB call_isi (by rfl) T.isi (by decide +kernel) (pa_cons (pv 0) (pa_cons (pe_bltn (v := .ty "bool") (by rfl) T.bool (by decide +kernel) rfl) pa_nil)))) (pss_one (ps_ret pe_str)) pss_nil)
      (pss_cons (ps_if (pt_val (pe_callB call_isi (by rfl) T.isi (by decide +kernel) (pa_cons (pv 0) (pa_cons (pe_bltn (v := .ty "int") (by rfl) T.int (by decide +kernel) rfl) pa_nil)))) (pss_one (ps_ret pe_str)) pss_nil)
      (pss_cons (ps_if (pt_val (pe_callB call_isi (by rfl) T.isi (by decide +kernel) (pa_cons (pv 0) (pa_cons (pe_bltn (v := .ty "str") (by rfl) T.str (by decide +kernel) rfl) pa_nil)))) (pss_one (ps_ret pe_str)) pss_nil)
      (pss_cons (ps_if (pt_val (pe_callB call_isi (by rfl) T.isi (by decide +kernel) (pa_cons (pv 0) (pa_cons (pe_glob (v := .ref CU) rfl T.gU rfl) pa_nil)))) (pss_one (ps_ret pe_str)) pss_nil)
      (pss_cons (ps_if (pt_val (pe_callB call_isi (by rfl) T.isi (by decide +kernel) (pa_cons (pv 0) (pa_cons (pe_bltn (v := .ty "dict") (by rfl) T.dict (by decide +kernel) rfl) pa_nil)))) (pss_one (ps_ret pe_str)) pss_nil)
      (pss_one (ps_ret (pe_ifExp (pt_val (pe_call GT hr rfl gT kT bT .nil pass0 (pa_cons (pv 0) pa_nil))) pe_str pe_str))))))))), ?_⟩
  have tv := Rep.ty T hd
  have k0 := k H (fun _ _ z => z)
  cases hd with
  | non => exact ⟨_, rfl, rfl, _, rfl, iteT k0⟩
  | bl b => exact ⟨_, rfl, rfl, _, rfl, iteF ⟨_, rfl, _, _, _, _, _, rfl, .ty _, tv, T.kit "bool" (by decide) _, _, rfl, iteT k0⟩⟩
  | int i => exact ⟨_, rfl, rfl, _, rfl, iteF ⟨_, rfl, _, _, _, _, _, rfl, .ty _, tv, T.kit "bool" (by decide) _, _, rfl, iteF ⟨_, rfl, _, _, _, _, _, rfl, .ty _, tv, T.kit "int" (by decide) _, _, rfl, iteT k0⟩⟩⟩
  | str x hx => exact ⟨_, rfl, rfl, _, rfl, iteF ⟨_, rfl, _, _, _, _, _, rfl, .ty _, tv, T.kit "bool" (by decide) _, _, rfl, iteF ⟨_, rfl, _, _, _, _, _, rfl, .ty _, tv, T.kit "int" (by decide) _, _, rfl, iteF ⟨_, rfl, _, _, _, _, _, rfl, .ty _, tv, T.kit "str" (by decide) _, _, rfl, iteT k0⟩⟩⟩⟩
  | unk h => exact ⟨_, rfl, rfl, _, rfl, iteF ⟨_, rfl, _, _, _, _, _, rfl, .ty _, tv, T.kit "bool" (by decide) _, _, rfl, iteF ⟨_, rfl, _, _, _, _, _, rfl, .ty _, tv, T.kit "int" (by decide) _, _, rfl, iteF ⟨_, rfl, _, _, _, _, _, rfl, .ty _, tv, T.kit "str" (by decide) _, _, rfl, iteF ⟨_, rfl, _, _, _, _, _, rfl, .own _, tv, T.kU _, _, rfl, iteT k0⟩⟩⟩⟩⟩
  | map h hv hk hz nd ko hs => exact ⟨_, rfl, rfl, _, rfl, iteF ⟨_, rfl, _, _, _, _, _, rfl, .ty _, tv, T.kit "bool" (by decide) _, _, rfl, iteF ⟨_, rfl, _, _, _, _, _, rfl, .ty _, tv, T.kit "int" (by decide) _, _, rfl, iteF ⟨_, rfl, _, _, _, _, _, rfl, .ty _, tv, T.kit "str" (by decide) _, _, rfl, iteF ⟨_, rfl, _, _, _, _, _, rfl, .own _, tv, T.kU _, _, rfl, iteF ⟨_, rfl, _, _, _, _, _, rfl, .ty _, tv, T.kit "dict" (by decide) _, _, rfl, iteT k0⟩⟩⟩⟩⟩⟩
  | @tup a xs l h hl hz hs =>
    refine ⟨_, rfl, rfl, _, rfl, iteF ⟨_, rfl, _, _, _, _, _, rfl, .ty _, tv, T.kit "bool" (by decide) _, _, rfl, iteF ⟨_, rfl, _, _, _, _, _, rfl, .ty _, tv, T.kit "int" (by decide) _, _, rfl, iteF ⟨_, rfl, _, _, _, _, _, rfl, .ty _, tv, T.kit "str" (by decide) _, _, rfl, iteF ⟨_, rfl, _, _, _, _, _, rfl, .own _, tv, T.kU _, _, rfl, iteF ⟨_, rfl, _, _, _, _, _, rfl, .ty _, tv, T.kit "dict" (by decide) _, _, rfl, iteF ⟨_, rfl, _, l, rfl, .tup h hl hz hs, fun H1 m1 => ⟨_, rfl, ?_⟩⟩⟩⟩⟩⟩⟩⟩
    have k1 : Q (.str (if isTag l then ("tag" : Str) else ("tuple" : Str))) H1 := k H1 m1
    cases e : isTag l with
    | true =>
      rw [if_pos e] at k1
      exact iteT k1
    | false =>
      rw [if_neg (by rw [e]; decide)] at k1
      exact iteF k1
end
end K01

namespace K01
open PySem L2 XR VT
abbrev sLPairs : Stmt := top 20
theorem lsort_eq {a : D} (h : isU a = false) : lsort a = sort a := by simp [lsort, h]
theorem nd_at {l : List Str} {i j : Nat} {k : Str} (nd : l.Nodup) (hi : l[i]? = some k) (hj : l[j]? = some k) : i = j := by
  obtain ⟨h1, e1⟩ := List.getElem?_eq_some_iff.mp hi
  obtain ⟨h2, e2⟩ := List.getElem?_eq_some_iff.mp hj
  rcases Nat.lt_trichotomy i j with h | h | h
  · exact absurd (e1.trans e2.symm) (List.pairwise_iff_getElem.mp nd i j h1 h2 h)
  · exact h
  · exact absurd (e2.trans e1.symm) (List.pairwise_iff_getElem.mp nd j i h2 h1 h)
section
variable {P : Program} {w : World} {K : PySem.W.Frag} {mg : Str → Option Value} {base : Heap} {CU : Addr}
theorem scLp : FnScope ["_law_one_here", "_law_other", "_law_sort_here", "_law_k", "_law_key"] ["_law_one_here", "_law_other"] (defScope sLPairs) := ⟨rfl, rfl, rfl, by decide +kernel, rfl, by decide +kernel, by decide +kernel⟩
theorem ok_lpairs {f fS : Addr} {fd dS : FuncData} (F : Fun K "_law_pairs" "_law_pairs" sLPairs f fd) (T : Txt K mg CU) (RG : mg "range" = none) (GS : FnOk P w K mg base CX0 2 fS dS ["_law_value_here"] (spD CU fun d => .str (lsort d))) (gS : mg "_law_sort" = some (.ref fS)) (kS : PySem.W.keepIn K (.ref fS) = true) (bS : Binds K dS ["_law_value_here"] []) :
    FnOk P w K mg base CX0 3 f fd ["_law_one_here", "_law_other"] (spParts CU) := by
  refine F.ok scLp (fun vs H Q E h => ?_) (fun cdv A outer s H vs Q E hr h => ?_)
  · obtain ⟨v, u, a, b, rfl, _⟩ := h
    rfl
  obtain ⟨v, u, a, b, rfl, ha, hb, hua, hub, hsab, kn, kp⟩ := h
  have hu := hu_of hr
  refine ⟨_, (pss_cons (ps_set (i := 2) scLp.nd rfl (Or.inl rfl) (pe_call GS hr rfl gS kS bS .nil pass0 (pa_cons (pv 0) pa_nil)))
      (pss_cons (ps_if (pt_cmpR op_eq (pv 2) pe_str (nomark _)) (pss_one (ps_ret (pe_ifExp (pt_cmpR op_eq (pe_callB call_len (by rfl) T.len (by decide +kernel) (pa_cons (pv 0) pa_nil)) (pe_callB call_len (by rfl) T.len (by decide +kernel) (pa_cons (pv 1) pa_nil)) (nomark _)) (pe_lc (own := [("_law_k", 3)]) (g := gName 3) (tt := tYes) (te := tTup (tCons (tOp (rIxT K) (tVar 0) (tVar 3)) (tCons (tOp (rIxT K) (tVar 1) (tVar 3)) tNil))) rfl scLp.nd (pi_range1 (by rfl) RG (pa_cons (pe_callB call_len (by rfl) T.len (by decide +kernel) (pa_cons (pv 0) pa_nil)) pa_nil)) (blkOk_by (own := [("_law_k", 3)]) (N := ["_law_one_here", "_law_other", "_law_sort_here", "_law_k", "_law_key"]) (sc := (defScope sLPairs)) (by decide +kernel)) (fun _ _ _ _ _ => pg_name (i := 3) scLp.nd rfl (Or.inl rfl)) (fun _ _ _ _ _ => pts_nil) (fun _ _ _ _ _ => (pe_tup (pa_cons (pe_ix ix_tup (pv 0) (pv 3) (fun _ _ => rfl)) (pa_cons (pe_ix ix_tup (pv 1) (pv 3) (fun _ _ => rfl)) pa_nil))))) pe_non))) pss_nil)
      (pss_cons (ps_if (pt_cmpR op_eq (pv 2) pe_str (nomark _)) (pss_one (ps_ret (pe_ifExp (pt_cmpR (op_eqD hr.units) (pe_callB (call_sortedD rfl) (by rfl) T.sorted (by decide +kernel) (pa_cons (pv 0) pa_nil)) (pe_callB (call_sortedD rfl) (by rfl) T.sorted (by decide +kernel) (pa_cons (pv 1) pa_nil)) (nomark _)) (pe_lock (pe_lc (own := [("_law_key", 4)]) (g := gName 4) (tt := tYes) rfl scLp.nd (pi_keys (pv 0)) (blkOk_by (own := [("_law_key", 4)]) (N := ["_law_one_here", "_law_other", "_law_sort_here", "_law_k", "_law_key"]) (sc := (defScope sLPairs)) (by decide +kernel)) (fun _ _ _ _ _ => pg_name (i := 4) scLp.nd rfl (Or.inl rfl)) (fun _ _ _ _ _ => pts_nil) (fun _ _ _ _ _ => (pe_tup (pa_cons (pe_dget hu (pv 0) (pv 4) (fun _ _ => rfl)) (pa_cons (pe_dget hu (pv 1) (pv 4) (fun _ _ => rfl)) pa_nil)))))) pe_non))) pss_nil)
      (pss_one (ps_ret (pe_ifExp (pt_cmpR (op_eqD hr.units) (pv 0) (pv 1) (nomark _)) (pe_lst pa_nil) pe_non)))))), ?_⟩
  refine ⟨_, rfl, v, a, rfl, ha, fun H1 m1 => ?_⟩
  have ha1 := ha.same m1
  have hb1 := hb.same m1
  refine ⟨V.str (sort a), by rw [← lsort_eq hua]; rfl, rfl, _, rfl, ?_⟩
  by_cases e1 : sort a = "tuple"
  · have e1' : V.str (sort a) = V.str "tuple" := by rw [e1]
    rw [decide_eq_true e1']
    refine iteT ?_
    obtain ⟨l, rfl, ht⟩ := sort_tuple e1
    obtain ⟨l', rfl, ht'⟩ := sort_tuple (hsab ▸ e1)
    have ke : kids (.tup l) (.tup l') = if l.length = l'.length then some (l.zip l') else none := by
      show (if isTag l then _ else _) = _
      rw [ht]
      rfl
    cases ha1 with
    | @tup p1 xs _ h1 hl1 hz1 hs1 =>
    cases hb1 with
    | @tup p2 ys _ h2 hl2 hz2 hs2 =>
    refine ⟨_, rfl, _, _, rfl, .inr ⟨_, SqT.of h1, rfl⟩, _, rfl, _, _, rfl, .inr ⟨_, SqT.of h2, rfl⟩, rfl, _, rfl, ?_⟩
    by_cases hl : l.length = l'.length
    · have hl' : V.int (xs.length : Int) = V.int (ys.length : Int) := by rw [hl1, hl2, hl]
      rw [decide_eq_true hl']
      rw [if_pos hl] at ke
      refine iteT ⟨_, rfl, _, _, rfl, .inr ⟨_, SqT.of h1, rfl⟩, (xs.length : Int), rfl, by omega, by omega, fun D hD => ?_⟩
      refine lc_rel walk_range hD (by rw [Int.toNat_natCast]; exact small1000 (by omega)) (fun i H' v => ∃ t x y, v = .ref t ∧ xs[i]? = some x ∧ ys[i]? = some y ∧ H' t = some (.tup [x, y]))
        (fun i H H' v m ⟨t, x, y, e, h1, h2, h3⟩ => ⟨t, x, y, e, h1, h2, m _ _ h3⟩)
        (fun i H H' v l bu hl ⟨t, x, y, e, h1, h2, h3⟩ => ⟨t, x, y, e, h1, h2, bu _ _ h3 (ne_of h3 hl (fun z => nomatch z))⟩)
        (fun H' m => trivial) (fun i x H6 H7 hi m hy N hN => ?_) mono_name (fun H' zs m f hlz hR => ?_)
      · obtain ⟨rfl, rfl⟩ := hy
        rw [Int.toNat_natCast] at hi
        have hi2 : i < ys.length := by omega
        have ex : xs[i]? = some xs[i] := List.getElem?_eq_getElem hi
        have ey : ys[i]? = some ys[i] := List.getElem?_eq_getElem hi2
        have ax : atI xs (0 + (i : Int)) = some xs[i] := by rw [Int.zero_add]; exact atI_nat ex
        have ay : atI ys (0 + (i : Int)) = some ys[i] := by rw [Int.zero_add]; exact atI_nat ey
        exact ⟨rfl, _, rfl, _, rfl, p1, xs, _, _, rfl, rfl, SqT.of (m _ _ h1), ax, _, rfl, _, rfl, p2, ys, _, _, rfl, rfl, SqT.of (m _ _ h2), ay, (by show 2 ≤ sizeLine; decide), fun t ht => hN _ _ (same_new ht) ⟨t, _, _, rfl, ex, ey, upd_same⟩⟩
      · obtain ⟨ts, rfl⟩ := refs_of fun i v e => let ⟨t, _, _, h, _⟩ := hR i v e; ⟨t, h⟩
        rw [Int.toNat_natCast, List.length_map] at hlz
        refine kp _ ke D _ H' (m1.trans m) (.refl _) ⟨ts, f, by rw [List.length_zip]; omega, fun j t q hj hq => ?_⟩
        obtain ⟨t', x, y, et, ex, ey, eo⟩ := hR j (.ref t) (by rw [List.getElem?_map, hj]; rfl)
        cases et
        obtain ⟨q1, q2⟩ := List.getElem?_zip_eq_some.mp hq
        exact ⟨x, y, eo, (hs1 j x q.1 ex q1).same m, (hs2 j y q.2 ey q2).same m⟩
    · have hl' : ¬ V.int (xs.length : Int) = V.int (ys.length : Int) := fun z => hl (by have := V.int.inj z; omega)
      rw [decide_eq_false hl']
      rw [if_neg hl] at ke
      exact iteF (kn ke H1 m1)
  have e1' : ¬ V.str (sort a) = V.str "tuple" := fun z => e1 (V.str.inj z)
  rw [decide_eq_false e1']
  refine iteF ?_
  refine ⟨V.str (sort a), by rw [← lsort_eq hua]; rfl, rfl, _, rfl, ?_⟩
  by_cases e2 : sort a = "map"
  · have e2' : V.str (sort a) = V.str "map" := by rw [e2]
    rw [decide_eq_true e2']
    refine iteT ?_
    obtain ⟨ks, ds, rfl⟩ := sort_map e2
    obtain ⟨ks', ds', rfl⟩ := sort_map (hsab ▸ e2)
    cases ha1 with
    | @map p1 vs1 _ _ h1 hv1 hk1 hz1 nd1 ko1 hs1 =>
    cases hb1 with
    | @map p2 vs2 _ _ h2 hv2 hk2 hz2 nd2 ko2 hs2 =>
    have ke : kids (.map ks ds) (.map ks' ds') = if ks.Perm ks' then some (ks.map (pairAt ks ds ks' ds')) else none := by
      show (if ks.Perm ks' then some ((ks.zip ds).map fun p => (p.2, get ks' ds' p.1)) else none) = _
      rw [zip_pairs nd1 hk1]
    refine ⟨_, rfl, p1, _, ks, rfl, .inl h1, mkv_keys (hk1.trans hv1.symm), by omega, fun ys q1 py sy hq1 => ?_⟩
    have n3 := same_new (o := .lst (ys.map V.str)) hq1
    have f3 := at_new (o := .lst (ys.map V.str)) hq1
    generalize (upd H1 q1 (.lst (ys.map V.str))) = H3 at n3 f3 ⊢
    refine ⟨_, rfl, p2, _, ks', rfl, .inl (n3 _ _ h2), mkv_keys (hk2.trans hv2.symm), by omega, fun zs q2 pz sz' hq2 => ?_⟩
    have n4 := same_new (o := .lst (zs.map V.str)) hq2
    have f4 := at_new (o := .lst (zs.map V.str)) hq2
    generalize (upd H3 q2 (.lst (zs.map V.str))) = H4 at n4 f4 ⊢
    refine ⟨_, _, .lst (SqL.of (n4 _ _ f3)) (dp_strs ys), .lst (SqL.of f4) (dp_strs zs), shaped_strs (fun y hy => ko1 y (py.mem_iff.mp hy)), shaped_strs (fun y hy => ko2 y (pz.mem_iff.mp hy)), _, rfl, ?_⟩
    have ev : PyData.eqv (.list (ys.map .str)) (.list (zs.map .str)) = decide (ys = zs) := by
      rw [PyData.eqv]
      exact eqv_strs ys zs
    rw [ev]
    have so := sorted_one py sy pz sz'
    have m4 := (m1.trans n3).trans n4
    by_cases hp : ks.Perm ks'
    case neg =>
      rw [decide_eq_false fun z => hp (so.mp z)]
      rw [if_neg hp] at ke
      exact iteF (kn ke H4 m4)
    rw [decide_eq_true (so.mpr hp)]
    rw [if_pos hp] at ke
    refine iteT ?_
    have h14 := (n3.trans n4) _ _ h1
    have h24 := (n3.trans n4) _ _ h2
    refine ⟨p1, _, h14, trivial, fun od => ?_⟩
    refine ⟨_, rfl, p1, od, rfl, .inl ⟨_, upd_same, fun D hD => ?_⟩⟩
    have lkv : (mkv ks vs1).length = ks.length := mkv_length (hk1.trans hv1.symm)
    refine lc_rel walk_keys hD (by rw [lkv]; exact small1000 (by omega)) (fun i H' v => ∃ t k x y, v = .ref t ∧ ks[i]? = some k ∧ (∀ (j : Nat) (d : VT.D), ks[j]? = some k → ds[j]? = some d → vs1[j]? = some x) ∧ (∀ (j : Nat) (d : VT.D), ks'[j]? = some k → ds'[j]? = some d → vs2[j]? = some y) ∧ H' t = some (.tup [x, y]))
      (fun i H H' v m ⟨t, k, x, y, e, h1, h2, h3, h4⟩ => ⟨t, k, x, y, e, h1, h2, h3, m _ _ h4⟩)
      (fun i H H' v l bu hl ⟨t, k, x, y, e, h1, h2, h3, h4⟩ => ⟨t, k, x, y, e, h1, h2, h3, bu _ _ h4 (ne_of h4 hl (fun z => nomatch z))⟩)
      (fun H' m => m _ _ upd_same) (fun i x H6 H7 hi m hy N hN => ?_) mono_name (fun H' zs' m f hl hR => ?_)
    · obtain ⟨rfl, ky, vy, hx, rfl⟩ := hy
      obtain ⟨k, kj, rfl, vj⟩ := mkv_get hx
      have hkm' := hp.mem_iff.mp (List.mem_of_getElem? kj)
      obtain ⟨j', hj', ej'⟩ := List.mem_iff_getElem.mp hkm'
      have kj' : ks'[j']? = some k := by rw [List.getElem?_eq_getElem hj', ej']
      have vj' : vs2[j']? = some vs2[j'] := List.getElem?_eq_getElem (by omega)
      have g2 : H7 p2 = some (HO.dK (mkv ks' vs2)) ∨ ∃ od, H7 p2 = some (HO.frz od (.dK (mkv ks' vs2))) := by
        by_cases hpp : p2 = p1
        · subst hpp
          have e := h1.symm.trans h2
          have e2 := HO.dK.inj (Option.some.inj e)
          rw [← e2]
          exact .inr ⟨od, m _ _ upd_same⟩
        · exact .inl (m _ _ (by rw [upd_ne hpp]; exact h24))
      refine ⟨rfl, _, rfl, _, rfl, p1, _, rfl, .inl ⟨_, Sum.inr k, .inr ⟨od, m _ _ upd_same⟩, rfl, (mkv_val nd1 kj vj).symm⟩, _, rfl, _, rfl, p2, _, rfl, .inl ⟨_, Sum.inr k, g2, rfl, (mkv_val nd2 kj' vj').symm⟩, (by show 2 ≤ sizeLine; decide), fun t ht => ?_⟩
      refine hN _ _ (same_new ht) ⟨t, k, _, _, rfl, kj, fun j d hj _ => ?_, fun j d hj _ => ?_, upd_same⟩
      · rw [nd_at nd1 hj kj]
        exact vj
      · rw [nd_at nd2 hj kj']
        exact vj'
    · obtain ⟨ts, rfl⟩ := refs_of fun i v e => let ⟨t, _, _, _, h, _⟩ := hR i v e; ⟨t, h⟩
      have fr := m _ _ (upd_same (H := H4) (a := p1) (o := .frz od (.dK (mkv ks vs1))))
      have nD : D ≠ p1 := fun z => by
        rw [z, fr] at f
        cases f
      have m3 := same_lock h14 m
      rw [List.length_map, lkv] at hl
      have mm := (n3.trans n4).trans m3
      refine ⟨fr, kp _ ke D _ _ (m4.trans m3) (.refl _) ⟨ts, by rw [upd_ne nD]; exact f, by rw [List.length_map]; exact hl, fun j t q hj hq => ?_⟩⟩
      rw [List.getElem?_map] at hq
      obtain ⟨k, hk, rfl⟩ := Option.map_eq_some_iff.mp hq
      obtain ⟨t', k', x, y, et, ek, ex, ey, eo⟩ := hR j (.ref t) (by rw [List.getElem?_map, hj]; rfl)
      cases et
      rw [hk] at ek
      cases ek
      have nt : t ≠ p1 := fun z => by
        rw [z, fr] at eo
        cases eo
      have hkm := List.mem_of_getElem? hk
      have hkm' := hp.mem_iff.mp hkm
      obtain ⟨j', hj', ej'⟩ := List.mem_iff_getElem.mp hkm'
      have hj1 : j < ks.length := (List.getElem?_eq_some_iff.mp hk).1
      have kj' : ks'[j']? = some k := by rw [List.getElem?_eq_getElem hj', ej']
      have dj : ds[j]? = some ds[j] := List.getElem?_eq_getElem (by omega)
      have dj' : ds'[j']? = some ds'[j'] := List.getElem?_eq_getElem (by omega)
      refine ⟨x, y, by rw [upd_ne nt]; exact eo, ?_, ?_⟩
      · show Rep CU _ x (get ks ds k)
        rw [get_at nd1 hk dj]
        exact (hs1 j _ _ (ex j _ hk dj) dj).same mm
      · show Rep CU _ y (get ks' ds' k)
        rw [get_at nd2 kj' dj']
        exact (hs2 j' _ _ (ey j' _ kj' dj') dj').same mm
  have e2' : ¬ V.str (sort a) = V.str "map" := fun z => e2 (V.str.inj z)
  rw [decide_eq_false e2']
  refine iteF ?_
  obtain ⟨da, db, d1, d2, s1, s2, ke⟩ := leaf_pair (K := K) ha1 hb1 hua hub hsab e1 e2
  refine ⟨_, rfl, _, rfl, da, db, d1, d2, s1, s2, _, rfl, ?_⟩
  cases eq : PyData.eqv da db with
  | true =>
    rw [if_pos eq] at ke
    refine iteT ⟨(by show 0 ≤ sizeLine; decide), fun p hp => ?_⟩
    exact kp _ ke p [] _ (m1.trans (same_new hp)) (.refl _) ⟨[], upd_same, rfl, fun j t q hj _ => nomatch hj⟩
  | false =>
    rw [if_neg (by rw [eq]; decide)] at ke
    exact iteF (kn ke H1 m1)
end
end K01

namespace K01
open PySem L2 XR VT
abbrev sLMay : Stmt := top 21
abbrev sLOpen : Stmt := top 22
abbrev sLSame : Stmt := top 23
abbrev sLAlike : Stmt := top 24
theorem lsort_u (a : D) : lsort a = "unknown" ↔ isU a = true := by
  cases a with
  | unk => exact ⟨fun _ => rfl, fun _ => rfl⟩
  | tup l =>
    refine ⟨fun z => ?_, fun z => nomatch z⟩
    have h' : (if isTag l then ("tag" : Str) else ("tuple" : Str)) = "unknown" := z
    split at h'
    · exact absurd h' (by decide +kernel)
    · exact absurd h' (by decide +kernel)
  | non => exact ⟨fun z => absurd (show ("none" : Str) = "unknown" from z) (by decide +kernel), fun z => nomatch z⟩
  | bl b => exact ⟨fun z => absurd (show ("bool" : Str) = "unknown" from z) (by decide +kernel), fun z => nomatch z⟩
  | int i => exact ⟨fun z => absurd (show ("integer" : Str) = "unknown" from z) (by decide +kernel), fun z => nomatch z⟩
  | str x => exact ⟨fun z => absurd (show ("text" : Str) = "unknown" from z) (by decide +kernel), fun z => nomatch z⟩
  | map ks ds => exact ⟨fun z => absurd (show ("map" : Str) = "unknown" from z) (by decide +kernel), fun z => nomatch z⟩
def spMay (CU : Addr) (n : Nat) : Sp := fun vs H Q _ => ∃ (v u : V) (a b : D), vs = [v, u] ∧ Rep CU H v a ∧ Rep CU H u b ∧ dep a < n ∧ dep b < n ∧ ∀ H', Same H H' → Q (.bl (may n a b)) H'
theorem spMay_len {CU : Addr} {n : Nat} {vs : List V} {H : Hp} {Q : VK} {E : XK} (h : spMay CU n vs H Q E) : vs.length = 2 := by
  obtain ⟨v, u, a, b, rfl, _⟩ := h
  rfl
section
variable {P : Program} {w : World} {K : PySem.W.Frag} {mg : Str → Option Value} {base : Heap} {CU : Addr}
theorem may0 {k : Nat} {f : Addr} {fd : FuncData} : FnOk P w K mg base CX0 k f fd ["_law_one_here", "_law_other"] (spMay CU 0) := ⟨fun _ _ _ _ h => spMay_len h, fun _ _ _ _ _ _ _ _ _ _ _ _ _ ⟨_, _, _, _, _, _, _, z, _⟩ => absurd z (Nat.not_lt_zero _)⟩
theorem scLm : FnScope ["_law_one_here", "_law_other", "_law_some", "_law_mine", "_law_its"] ["_law_one_here", "_law_other"] (defScope sLMay) := ⟨rfl, rfl, rfl, by decide +kernel, rfl, by decide +kernel, by decide +kernel⟩
theorem ok_lmay {f fS fP : Addr} {fd dS dP : FuncData} {n k : Nat} (F : Fun K "_law_may" "_law_may" sLMay f fd) (T : Txt K mg CU) (GS : FnOk P w K mg base CX0 2 fS dS ["_law_value_here"] (spD CU fun d => .str (lsort d))) (gS : mg "_law_sort" = some (.ref fS)) (kS : PySem.W.keepIn K (.ref fS) = true) (bS : Binds K dS ["_law_value_here"] [])
    (GP : FnOk P w K mg base CX0 3 fP dP ["_law_one_here", "_law_other"] (spParts CU)) (gP : mg "_law_pairs" = some (.ref fP)) (kP : PySem.W.keepIn K (.ref fP) = true) (bP : Binds K dP ["_law_one_here", "_law_other"] [])
    (gK : mg "_law_may" = some (.ref f)) (bK : Binds K fd ["_law_one_here", "_law_other"] []) (hk : 3 ≤ k) (GK : FnOk P w K mg base CX0 k f fd ["_law_one_here", "_law_other"] (spMay CU n)) : FnOk P w K mg base CX0 (k + 1) f fd ["_law_one_here", "_law_other"] (spMay CU (n + 1)) := by
  have kK := F.kp
  refine F.ok scLm (fun vs H Q E h => spMay_len h) (fun cdv A outer s H vs Q E hr h => ?_)
  obtain ⟨v, u, a, b, rfl, ha, hb, na, nb, kk⟩ := h
  have hr2 : Room 2 _ := hr.mono (Nat.le_trans (by decide) hk)
  have hr3 : Room 3 _ := hr.mono hk
  refine ⟨_, (pss_cons (ps_if (pt_cmpR op_in_seq pe_str (pe_tup (pa_cons (pe_call GS hr2 rfl gS kS bS .nil pass0 (pa_cons (pv 0) pa_nil)) (pa_cons (pe_call GS hr2 rfl gS kS bS .nil pass0 (pa_cons (pv 1) pa_nil)) pa_nil))) (by rfl)) (pss_one (ps_ret pe_bl)) pss_nil)
      (pss_cons (ps_if (pt_cmpR op_ne (pe_call GS hr2 rfl gS kS bS .nil pass0 (pa_cons (pv 0) pa_nil)) (pe_call GS hr2 rfl gS kS bS .nil pass0 (pa_cons (pv 1) pa_nil)) (nomark _)) (pss_one (ps_ret pe_bl)) pss_nil)
      (pss_cons (ps_set (i := 2) scLm.nd rfl (Or.inl rfl) (pe_call GP hr3 rfl gP kP bP .nil pass0 (pa_cons (pv 0) (pa_cons (pv 1) pa_nil))))
      (pss_one (ps_ret (pe_and (pe_cmpR op_notN (pv 2) pe_non (nomark _)) (pe_one (pe_callB (cr_all rfl) (by rfl) T.all (by decide +kernel) (pa_cons (pe_lc (own := [("_law_mine", 3), ("_law_its", 4)]) (g := gTup K 2 (gCons (gName 3) (gCons (gName 4) gNil))) (tt := tYes) rfl scLm.nd (pi_list (pv 2)) (blkOk_by (own := [("_law_mine", 3), ("_law_its", 4)]) (N := ["_law_one_here", "_law_other", "_law_some", "_law_mine", "_law_its"]) (sc := (defScope sLMay)) (by decide +kernel)) (fun _ _ _ _ _ => (pg_tup rfl (pgs_cons (pg_name (i := 3) scLm.nd rfl (Or.inl rfl)) (pgs_cons (pg_name (i := 4) scLm.nd rfl (Or.inl rfl)) pgs_nil)))) (fun _ _ _ _ _ => pts_nil) (fun _ _ _ _ _ => (pe_call GK hr rfl gK kK bK .nil pass0 (pa_cons (pv 3) (pa_cons (pv 4) pa_nil))))) pa_nil))))))))), ?_⟩
  have eM : may (n + 1) a b = (if (isU a || isU b) = true then true else if sort a = sort b then (match kids a b with | none => false | some ps => ps.all fun p => may n p.1 p.2) else false) := rfl
  refine ⟨_, rfl, v, a, rfl, ha, fun H1 m1 => ⟨_, rfl, u, b, rfl, hb.same m1, fun H2 m2 => ⟨(by show 2 ≤ sizeLine; decide), fun t ht => ⟨t, _, rfl, .inr (SqT.of upd_same), rfl, rfl, _, rfl, ?_⟩⟩⟩⟩
  have n3 := same_new (o := .tup [.str (lsort a), .str (lsort b)]) ht
  generalize (upd H2 t (.tup [.str (lsort a), .str (lsort b)])) = H3 at n3 ⊢
  have m3 := (m1.trans m2).trans n3
  have ei : inV (.str "unknown") [.str (lsort a), .str (lsort b)] = (isU a || isU b) := by
    rw [Bool.eq_iff_iff]
    simp [inV, eqV, lsort_u]
  have fin : ∀ c H', Same H H' → c = may (n + 1) a b → Q (.bl c) H' := fun c H' m e => by rw [e]; exact kk H' m
  show if (if false = true then !inV (.str "unknown") [.str (lsort a), .str (lsort b)] else inV (.str "unknown") [.str (lsort a), .str (lsort b)]) = true then _ else _
  rw [if_neg (by decide : ¬ false = true), ei]
  cases hu : (isU a || isU b) with
  | true =>
    rw [hu] at eM
    exact iteT (fin _ H3 m3 eM.symm)
  | false =>
  rw [hu] at eM
  have eM : may (n + 1) a b = (if sort a = sort b then (match kids a b with | none => false | some ps => ps.all fun p => may n p.1 p.2) else false) := eM
  refine iteF ?_
  obtain ⟨hua, hub⟩ := Bool.or_eq_false_iff.mp hu
  refine ⟨_, rfl, v, a, rfl, ha.same m3, fun H4 m4 => ⟨_, rfl, u, b, rfl, (hb.same m3).same m4, fun H5 m5 => ⟨rfl, _, rfl, ?_⟩⟩⟩
  have mm := (m3.trans m4).trans m5
  by_cases hs : sort a = sort b
  case neg =>
    have hs' : ¬ V.str (lsort a) = V.str (lsort b) := fun z => hs (by have := V.str.inj z; rwa [lsort_eq hua, lsort_eq hub] at this)
    rw [decide_eq_false hs']
    rw [if_neg hs] at eM
    exact iteT (fin _ H5 mm eM.symm)
  have hs' : V.str (lsort a) = V.str (lsort b) := by rw [lsort_eq hua, lsort_eq hub, hs]
  rw [decide_eq_true hs']
  rw [if_pos hs] at eM
  refine iteF ?_
  refine ⟨_, rfl, _, rfl, v, u, a, b, rfl, ha.same mm, hb.same mm, hua, hub, hs, fun kn H6 m6 => ?_, fun ps kps p ps' H6 m6 hperm hPL => ?_⟩
  · rw [kn] at eM
    exact ⟨_, rfl, rfl, _, rfl, iteF (fin _ H6 (mm.trans m6) eM.symm)⟩
  rw [kps] at eM
  have eM : may (n + 1) a b = ps'.all fun p => may n p.1 p.2 := eM.trans (all_perm hperm.symm)
  have ko := kids_of ha.wf hb.wf kps
  refine ⟨_, rfl, rfl, _, rfl, iteT ?_⟩
  obtain ⟨ts, fp, ltp, hpr⟩ := hPL
  refine ⟨_, rfl, p, rfl, ⟨_, SqL.of fp⟩, fun D hD => ?_⟩
  have lps : ts.length ≤ 60 := by rw [ltp, hperm.length_eq]; exact kids_len ha kps
  refine lc_pure walk_list hD (ps'.map fun q => V.bl (may n q.1 q.2)) (by rw [List.length_map, List.length_map, ltp]) (by rw [List.length_map]; exact small1000 (by omega)) (fun H' m => SqL.of (m _ _ fp)) (fun i x H7 H8 z hz m hy N hN => ?_) mono_pair (fun H' m f => ?_)
  · obtain ⟨rfl, hx⟩ := hy
    rw [List.getElem?_map] at hx hz
    obtain ⟨t, ht, rfl⟩ := Option.map_eq_some_iff.mp hx
    obtain ⟨q, hq, rfl⟩ := Option.map_eq_some_iff.mp hz
    obtain ⟨x, y, ft, rx, ry⟩ := hpr i t _ ht hq
    obtain ⟨_, _, d1, d2⟩ := ko _ (hperm.mem_iff.mp (List.mem_of_getElem? hq))
    exact ⟨t, _, rfl, SqT.of (m _ _ ft), rfl, _, _, rfl, _, _, rfl, rfl, rfl, _, rfl, _, rfl, x, y, _, _, rfl, rx.same m, ry.same m, by omega, by omega, fun H9 m9 => hN H9 m9⟩
  · rw [show ps'.map (fun q => V.bl (may n q.1 q.2)) = (ps'.map fun q => may n q.1 q.2).map V.bl from by rw [List.map_map]; rfl] at f
    refine ⟨D, _, rfl, SqL.of f, fin _ H' ((mm.trans m6).trans m) ?_⟩
    rw [eM, List.all_map]
    rfl
theorem scLo : FnScope ["_law_value_here", "_law_part"] ["_law_value_here"] (defScope sLOpen) := ⟨rfl, rfl, rfl, by decide +kernel, rfl, by decide +kernel, by decide +kernel⟩
theorem sum_cast (f : D → Nat) : ∀ l : List D, (l.map fun d => (f d : Int)).sum = ((l.map f).sum : Nat)
  | [] => rfl
  | d :: l => by
    have := sum_cast f l
    simp only [List.map_cons, List.sum_cons, this]
    omega
theorem sort_tm (d : D) (h : isU d = false) : (lsort d = "tuple" ∨ lsort d = "map") ↔ ((∃ l, d = .tup l ∧ isTag l = false) ∨ ∃ ks ds, d = .map ks ds) := by
  rw [lsort_eq h]
  constructor
  · rintro (z | z)
    · exact .inl (sort_tuple z)
    · exact .inr (sort_map z)
  · rintro (⟨l, rfl, e⟩ | ⟨ks, ds, rfl⟩)
    · refine .inl ?_
      show (if isTag l then ("tag" : Str) else ("tuple" : Str)) = "tuple"
      rw [e]
      rfl
    · exact .inr rfl
theorem ok_lopen {f fS : Addr} {fd dS : FuncData} {n k : Nat} (F : Fun K "_law_open" "_law_open" sLOpen f fd) (T : Txt K mg CU) (mS : mg "sum" = none) (GS : FnOk P w K mg base CX0 2 fS dS ["_law_value_here"] (spD CU fun d => .str (lsort d))) (gS : mg "_law_sort" = some (.ref fS)) (kS : PySem.W.keepIn K (.ref fS) = true) (bS : Binds K dS ["_law_value_here"] [])
    (gK : mg "_law_open" = some (.ref f)) (bK : Binds K fd ["_law_value_here"] []) (hk : 2 ≤ k) (GK : FnOk P w K mg base CX0 k f fd ["_law_value_here"] (spN CU n fun d => .int (opn n d))) : FnOk P w K mg base CX0 (k + 1) f fd ["_law_value_here"] (spN CU (n + 1) fun d => .int (opn (n + 1) d)) := by
  have kK := F.kp
  refine F.ok scLo (fun vs H Q E h => spN_len h) (fun cdv A outer s H vs Q E hr h => ?_)
  obtain ⟨v, d, rfl, hd, hn, kk⟩ := h
  have hr2 : Room 2 _ := hr.mono hk
  refine ⟨_, (pss_cons (ps_if (pt_cmpR op_in_seq (pe_call GS hr2 rfl gS kS bS .nil pass0 (pa_cons (pv 0) pa_nil)) (pe_tup (pa_cons pe_str (pa_cons pe_str pa_nil))) (by rfl)) (pss_one (ps_ret (pe_callB (cr_sum rfl) (by rfl) mS (by decide +kernel) (pa_cons (pe_lc (own := [("_law_part", 1)]) (g := gName 1) (tt := tYes) rfl scLo.nd (pi_list (pe_ifExp (pt_val (pe_callB call_isi (by rfl) T.isi (by decide +kernel) (pa_cons (pv 0) (pa_cons (pe_bltn (v := .ty "tuple") (by rfl) T.tuple (by decide +kernel) rfl) pa_nil)))) (pe_callTy call_list_of (by rfl) T.list (by decide +kernel) (pa_cons (pv 0) pa_nil)) (pe_listVals rfl (pv 0) (by rfl) T.list (by decide +kernel)))) (blkOk_by (own := [("_law_part", 1)]) (N := ["_law_value_here", "_law_part"]) (sc := (defScope sLOpen)) (by decide +kernel)) (fun _ _ _ _ _ => pg_name (i := 1) scLo.nd rfl (Or.inl rfl)) (fun _ _ _ _ _ => pts_nil) (fun _ _ _ _ _ => (pe_call GK hr rfl gK kK bK .nil pass0 (pa_cons (pv 1) pa_nil)))) pa_nil)))) pss_nil)
      (pss_one (ps_ret (pe_callTy call_int1 (by rfl) T.int (by decide +kernel) (pa_cons (pe_cmpR op_eq (pe_call GS hr2 rfl gS kS bS .nil pass0 (pa_cons (pv 0) pa_nil)) pe_str (nomark _)) pa_nil))))), ?_⟩
  refine ⟨_, rfl, v, d, rfl, hd, fun H1 m1 => ⟨(by show 2 ≤ sizeLine; decide), fun t ht => ⟨t, _, rfl, .inr (SqT.of upd_same), rfl, rfl, _, rfl, ?_⟩⟩⟩
  have n2 := same_new (o := .tup [.str "tuple", .str "map"]) ht
  generalize (upd H1 t (.tup [.str "tuple", .str "map"])) = H2 at n2 ⊢
  have m2 := m1.trans n2
  have hd2 := hd.same m2
  have ei : inV (.str (lsort d)) [.str "tuple", .str "map"] = decide (lsort d = "tuple" ∨ lsort d = "map") := by
    rw [Bool.eq_iff_iff]
    simp [inV, eqV]
    constructor
    · rintro (z | z)
      · exact .inl z.symm
      · exact .inr z.symm
    · rintro (z | z)
      · exact .inl z.symm
      · exact .inr z.symm
  show if (if false = true then !inV (.str (lsort d)) [.str "tuple", .str "map"] else inV (.str (lsort d)) [.str "tuple", .str "map"]) = true then _ else _
  rw [if_neg (by decide : ¬ false = true), ei]
  have fin : ∀ c H', Same H H' → c = (opn (n + 1) d : Int) → Q (.int c) H' := fun c H' m e => by rw [e]; exact kk H' m
  have key : ∀ (ds : List D) (vs : List V) (l : Addr) (H3 : Hp), Same H H3 → ds.length ≤ 60 → vs.length = ds.length → (∀ (i : Nat) (v : V) (d : D), vs[i]? = some v → ds[i]? = some d → Rep CU H3 v d) → depL ds < n → opn (n + 1) d = (ds.map (opn n)).sum → H3 l = some (.lst vs) →
      ∀ D, H3 D = none → ∃ W : Nat → Nat → Hp → Prop, (∃ m, W 0 m (upd H3 D (.lst []))) ∧ ∀ i m H, W i m H →
      ((Itl K l).stop i H ∧ ∃ a ns, [V.ref D] = [V.ref a] ∧ SqL K H a (List.map V.int ns) ∧ Q (.int ns.sum) H) ∨ ((Itl K l).go i H ∧ ∃ Nx : Hp → Prop, (∀ H', Nx H' → ∃ m', m' < m ∧ W (i + 1) m' H') ∧ ∀ x H', (Itl K l).yld i H x H' → gName 1 x (wipe [some v, none] [1]) H' fun σ2 H2 => wipe σ2 [1] = wipe [some v, none] [1] ∧ tYes σ2 H2 fun b H3 =>
        if b = true then tCall (spN CU n fun d => .int (opn n d)) [] E0 (tCons (tVar 1) tNil) σ2 H3 fun y H4 => ∃ acc, H4 D = some (.lst acc) ∧ acc.length < sizeLine ∧ Nx (upd H4 D (.lst (acc ++ [y]))) else Nx H3) := by
    intro ds vs l H3 m3 hz hv hs hdl eo hl D hD
    refine lc_pure walk_list hD (ds.map fun d => V.int (opn n d)) (by rw [List.length_map, hv]) (by rw [hv]; exact small1000 (by omega)) (fun H' m => SqL.of (m _ _ hl)) (fun i x H7 H8 z hz' m hy N hN => ?_) mono_name (fun H' m f => ?_)
    · obtain ⟨rfl, hx⟩ := hy
      rw [List.getElem?_map] at hz'
      obtain ⟨di, hdi, rfl⟩ := Option.map_eq_some_iff.mp hz'
      exact ⟨rfl, _, rfl, x, di, rfl, (hs i x di hx hdi).same m, Nat.lt_of_le_of_lt (dep_mem (List.mem_of_getElem? hdi)) hdl, fun H5 m5 => hN H5 m5⟩
    · rw [show ds.map (fun d => V.int (opn n d)) = (ds.map fun d => (opn n d : Int)).map V.int from by rw [List.map_map]; rfl] at f
      refine ⟨D, _, rfl, SqL.of f, fin _ H' (m3.trans m) ?_⟩
      rw [sum_cast, eo]
  have leaf : ¬ (lsort d = "tuple" ∨ lsort d = "map") → opn (n + 1) d = (if isU d then 1 else 0) := fun z => by
    cases d with
    | tup l =>
      cases e : isTag l with
      | true => simp [opn, e, isU]
      | false => exact absurd ((sort_tm _ rfl).mpr (.inl ⟨l, rfl, e⟩)) z
    | map ks ds => exact absurd ((sort_tm _ rfl).mpr (.inr ⟨ks, ds, rfl⟩)) z
    | _ => rfl
  by_cases hx : lsort d = "tuple" ∨ lsort d = "map"
  case neg =>
    rw [decide_eq_false hx]
    refine iteF ⟨_, rfl, v, d, rfl, hd2, fun H3 m3 => ⟨rfl, .inr ⟨_, rfl, fin _ H3 (m2.trans m3) ?_⟩⟩⟩
    rw [leaf hx]
    cases hu : isU d with
    | true =>
      rw [decide_eq_true (show V.str (lsort d) = V.str "unknown" from by rw [(lsort_u d).mpr hu])]
      rfl
    | false =>
      rw [decide_eq_false (show ¬ V.str (lsort d) = V.str "unknown" from fun z => by rw [(lsort_u d).mp (V.str.inj z)] at hu; cases hu)]
      rfl
  rw [decide_eq_true hx]
  refine iteT ?_
  have hu : isU d = false := by
    cases e : isU d with
    | false => rfl
    | true =>
      rw [(lsort_u d).mpr e] at hx
      rcases hx with z | z
      · exact absurd z (by decide +kernel)
      · exact absurd z (by decide +kernel)
  rcases (sort_tm d hu).mp hx with ⟨l, rfl, ht⟩ | ⟨ks, ds, rfl⟩
  · have tv := Rep.ty T hd2
    cases hd2 with
    | @tup p xs _ h hl hz hs =>
    refine ⟨_, rfl, _, _, _, _, _, rfl, .ty _, tv, T.kit "tuple" (by decide) _, _, rfl, iteT ⟨_, rfl, p, xs, rfl, .inr (SqT.of h), fun q hq => ?_⟩⟩
    have n3 := same_new (o := .lst xs) hq
    have f3 := at_new (o := .lst xs) hq
    generalize (upd H2 q (.lst xs)) = H3 at n3 f3 ⊢
    refine ⟨q, rfl, ⟨_, SqL.of f3⟩, ?_⟩
    exact key l xs q H3 (m2.trans n3) hz hl (fun i v d h1 h2 => (hs i v d h1 h2).same n3) (by rw [dep] at hn; omega) (by show (if isTag l then 0 else _) = _; rw [ht]; rfl) f3
  · have tv := Rep.ty T hd2
    cases hd2 with
    | @map p vs _ _ h hv hk' hz nd ko hs =>
    refine ⟨_, rfl, _, _, _, _, _, rfl, .ty _, tv, T.kit "tuple" (by decide) _, _, rfl, iteF ⟨_, rfl, p, _, rfl, h, fun q hq => ?_⟩⟩
    have e : (mkv ks vs).map Prod.snd = vs := by
      unfold mkv
      rw [List.map_map]
      exact List.map_snd_zip (by omega)
    rw [e]
    have n3 := same_new (o := .lst vs) hq
    have f3 := at_new (o := .lst vs) hq
    generalize (upd H2 q (.lst vs)) = H3 at n3 f3 ⊢
    refine ⟨q, rfl, ⟨_, SqL.of f3⟩, ?_⟩
    exact key ds vs q H3 (m2.trans n3) hz hv (fun i v d h1 h2 => (hs i v d h1 h2).same n3) (by rw [dep] at hn; omega) rfl f3
def spLSame (CU : Addr) (n : Nat) : Sp := fun vs H Q _ => ∃ (v u : V) (a b : D), vs = [v, u] ∧ Rep CU H v a ∧ Rep CU H u b ∧ dep a < n ∧ dep b < n ∧ ∀ (r : V) (H' : Hp), Same H H' → Rep CU H' r (res (may n a b) (opn n a + opn n b)) → Q r H'
theorem scLe : FnScope ["_law_one_here", "_law_other"] ["_law_one_here", "_law_other"] (defScope sLSame) := ⟨rfl, rfl, rfl, by decide +kernel, rfl, by decide +kernel, by decide +kernel⟩
theorem ok_lsame {f fM fO : Addr} {fd dM dO : FuncData} {n k : Nat} (F : Fun K "_law_same" "_law_same" sLSame f fd) (T : Txt K mg CU) (BU : Bare K mg "Unknown" CU)
    (GM : FnOk P w K mg base CX0 k fM dM ["_law_one_here", "_law_other"] (spMay CU n)) (gM : mg "_law_may" = some (.ref fM)) (kM : PySem.W.keepIn K (.ref fM) = true) (bM : Binds K dM ["_law_one_here", "_law_other"] [])
    (GO : FnOk P w K mg base CX0 k fO dO ["_law_value_here"] (spN CU n fun d => .int (opn n d))) (gO : mg "_law_open" = some (.ref fO)) (kO : PySem.W.keepIn K (.ref fO) = true) (bO : Binds K dO ["_law_value_here"] []) :
    FnOk P w K mg base CX0 (k + 1) f fd ["_law_one_here", "_law_other"] (spLSame CU n) := by
  refine F.ok scLe (fun vs H Q E h => ?_) (fun cdv A outer s H vs Q E hr h => ?_)
  · obtain ⟨v, u, a, b, rfl, _⟩ := h
    rfl
  obtain ⟨v, u, a, b, rfl, ha, hb, na, nb, kk⟩ := h
  have hrM := hr
  have hrO := hr
  refine ⟨_, (pss_cons (ps_if (pt_not (pt_val (pe_call GM hrM rfl gM kM bM .nil pass0 (pa_cons (pv 0) (pa_cons (pv 1) pa_nil))))) (pss_one (ps_ret pe_bl)) pss_nil)
      (pss_one (ps_ret (pe_ifExp (pt_cmpR op_eq (pe_op op_add (pe_call GO hrO rfl gO kO bO .nil pass0 (pa_cons (pv 0) pa_nil)) (pe_call GO hrO rfl gO kO bO .nil pass0 (pa_cons (pv 1) pa_nil))) pe_int (nomark _)) pe_bl (pe_bare BU rfl))))), ?_⟩
  refine ⟨_, rfl, _, rfl, v, u, a, b, rfl, ha, hb, na, nb, fun H1 m1 => ⟨_, rfl, ?_⟩⟩
  have e0 : res (may n a b) (opn n a + opn n b) = if may n a b = true then (if opn n a + opn n b = 0 then .bl true else .unk) else .bl false := rfl
  cases hm : may n a b with
  | false =>
    rw [hm] at e0
    exact iteT (kk _ H1 m1 (by rw [hm]; exact .bl false))
  | true =>
  rw [hm] at e0
  refine iteF ?_
  refine ⟨_, rfl, v, a, rfl, ha.same m1, na, fun H2 m2 => ⟨_, rfl, u, b, rfl, (hb.same m1).same m2, nb, fun H3 m3 => ⟨_, _, rfl, rfl, rfl, _, rfl, ?_⟩⟩⟩
  have mm := (m1.trans m2).trans m3
  by_cases hz : opn n a + opn n b = 0
  · have z : V.int ((opn n a : Int) + (opn n b : Int)) = V.int 0 := congrArg V.int (by omega)
    rw [decide_eq_true z]
    refine iteT (kk _ H3 mm ?_)
    rw [hm]
    show Rep CU H3 _ (if opn n a + opn n b = 0 then .bl true else .unk)
    rw [if_pos hz]
    exact .bl true
  · have z : ¬ V.int ((opn n a : Int) + (opn n b : Int)) = V.int 0 := fun z => hz (by have := V.int.inj z; omega)
    rw [decide_eq_false z]
    refine iteF fun a1 dx h1 h2 h3 => kk _ _ (mm.trans ((same_new h2).trans (same_new (by rw [upd_ne (Ne.symm h3)]; exact h1)))) ?_
    rw [hm]
    show Rep CU _ _ (if opn n a + opn n b = 0 then .bl true else .unk)
    rw [if_neg hz]
    exact .unk upd_same
def al : D → D → Bool
  | .bl x, .bl y => decide (x = y)
  | .unk, .unk => true
  | _, _ => false
def kindB (d : D) : Prop := (∃ x, d = .bl x) ∨ d = .unk
def spAlike (CU : Addr) : Sp := fun vs H Q _ => ∃ (v u : V) (a b : D), vs = [v, u] ∧ Rep CU H v a ∧ Rep CU H u b ∧ kindB a ∧ kindB b ∧ ∀ H', Same H H' → Q (.bl (al a b)) H'
def spNo : Sp := fun vs _ _ _ => vs.length = 2 ∧ False
theorem no0 {k : Nat} {f : Addr} {fd : FuncData} : FnOk P w K mg base CX0 k f fd ["_law_one_here", "_law_other"] spNo := ⟨fun _ _ _ _ h => h.1, fun _ _ _ _ _ _ _ _ _ _ _ _ _ h => h.2.elim⟩
theorem scLa : FnScope ["_law_one_here", "_law_other", "_law_some", "_law_mine", "_law_its"] ["_law_one_here", "_law_other"] (defScope sLAlike) := ⟨rfl, rfl, rfl, by decide +kernel, rfl, by decide +kernel, by decide +kernel⟩
theorem ok_lalike {f fS fP : Addr} {fd dS dP : FuncData} (F : Fun K "_law_alike" "_law_alike" sLAlike f fd) (T : Txt K mg CU) (GS : FnOk P w K mg base CX0 2 fS dS ["_law_value_here"] (spD CU fun d => .str (lsort d))) (gS : mg "_law_sort" = some (.ref fS)) (kS : PySem.W.keepIn K (.ref fS) = true) (bS : Binds K dS ["_law_value_here"] [])
    (GP : FnOk P w K mg base CX0 3 fP dP ["_law_one_here", "_law_other"] (spParts CU)) (gP : mg "_law_pairs" = some (.ref fP)) (kP : PySem.W.keepIn K (.ref fP) = true) (bP : Binds K dP ["_law_one_here", "_law_other"] [])
    (gK : mg "_law_alike" = some (.ref f)) (bK : Binds K fd ["_law_one_here", "_law_other"] []) : FnOk P w K mg base CX0 4 f fd ["_law_one_here", "_law_other"] (spAlike CU) := by
  have kK := F.kp
  have GK : FnOk P w K mg base CX0 3 f fd ["_law_one_here", "_law_other"] spNo := no0
  refine F.ok scLa (fun vs H Q E h => ?_) (fun cdv A outer s H vs Q E hr h => ?_)
  · obtain ⟨v, u, a, b, rfl, _⟩ := h
    rfl
  obtain ⟨v, u, a, b, rfl, ha, hb, ka, kb, kk⟩ := h
  have hr2 : Room 2 _ := hr.mono (by decide)
  refine ⟨_, (pss_cons (ps_if (pt_cmpR op_ne (pe_call GS hr2 rfl gS kS bS .nil pass0 (pa_cons (pv 0) pa_nil)) (pe_call GS hr2 rfl gS kS bS .nil pass0 (pa_cons (pv 1) pa_nil)) (nomark _)) (pss_one (ps_ret pe_bl)) pss_nil)
      (pss_cons (ps_if (pt_cmpR op_eq (pe_call GS hr2 rfl gS kS bS .nil pass0 (pa_cons (pv 0) pa_nil)) pe_str (nomark _)) (pss_one (ps_ret pe_bl)) pss_nil)
      (pss_cons (ps_set (i := 2) scLa.nd rfl (Or.inl rfl) (pe_call GP hr rfl gP kP bP .nil pass0 (pa_cons (pv 0) (pa_cons (pv 1) pa_nil))))
      (pss_one (ps_ret (pe_and (pe_cmpR op_notN (pv 2) pe_non (nomark _)) (pe_one (pe_callB (cr_all rfl) (by rfl) T.all (by decide +kernel) (pa_cons (pe_lc (own := [("_law_mine", 3), ("_law_its", 4)]) (g := gTup K 2 (gCons (gName 3) (gCons (gName 4) gNil))) (tt := tYes) rfl scLa.nd (pi_list (pv 2)) (blkOk_by (own := [("_law_mine", 3), ("_law_its", 4)]) (N := ["_law_one_here", "_law_other", "_law_some", "_law_mine", "_law_its"]) (sc := (defScope sLAlike)) (by decide +kernel)) (fun _ _ _ _ _ => (pg_tup rfl (pgs_cons (pg_name (i := 3) scLa.nd rfl (Or.inl rfl)) (pgs_cons (pg_name (i := 4) scLa.nd rfl (Or.inl rfl)) pgs_nil)))) (fun _ _ _ _ _ => pts_nil) (fun _ _ _ _ _ => (pe_call GK hr rfl gK kK bK .nil pass0 (pa_cons (pv 3) (pa_cons (pv 4) pa_nil))))) pa_nil))))))))), ?_⟩
  refine ⟨_, rfl, v, a, rfl, ha, fun H1 m1 => ⟨_, rfl, u, b, rfl, hb.same m1, fun H2 m2 => ⟨rfl, _, rfl, ?_⟩⟩⟩
  have mm := m1.trans m2
  have fin : ∀ c H', Same H H' → c = al a b → Q (.bl c) H' := fun c H' m e => by rw [e]; exact kk H' m
  have nub : ¬ ("unknown" : Str) = "bool" := by decide +kernel
  rcases ka with ⟨x, rfl⟩ | rfl
  · rcases kb with ⟨y, rfl⟩ | rfl
    · have ee : V.str (lsort (.bl x)) = V.str (lsort (.bl y)) := rfl
      rw [decide_eq_true ee]
      refine iteF ?_
      refine ⟨_, rfl, v, _, rfl, ha.same mm, fun H3 m3 => ⟨rfl, _, rfl, ?_⟩⟩
      have nn : ¬ V.str (lsort (.bl x)) = V.str "unknown" := fun z => nub (V.str.inj z).symm
      rw [decide_eq_false nn]
      refine iteF ?_
      have m3' := mm.trans m3
      have ke : kids (.bl x) (.bl y) = if x = y then some [] else none := rfl
      refine ⟨_, rfl, _, rfl, v, u, _, _, rfl, ha.same m3', hb.same m3', rfl, rfl, rfl, fun kn H4 m4 => ?_, fun ps kps p ps' H4 m4 hperm hPL => ?_⟩
      · refine ⟨_, rfl, rfl, _, rfl, iteF (fin _ H4 (m3'.trans m4) ?_)⟩
        by_cases hxy : x = y
        · rw [if_pos hxy] at ke
          rw [ke] at kn
          cases kn
        · exact (decide_eq_false hxy).symm
      · by_cases hxy : x = y
        case neg =>
          rw [if_neg hxy] at ke
          rw [ke] at kps
          cases kps
        rw [if_pos hxy] at ke
        rw [ke] at kps
        cases kps
        obtain rfl := List.perm_nil.mp hperm
        refine ⟨_, rfl, rfl, _, rfl, iteT ?_⟩
        obtain ⟨ts, fp, ltp, hpr⟩ := hPL
        have : ts = [] := List.eq_nil_of_length_eq_zero ltp
        subst this
        refine ⟨_, rfl, p, rfl, ⟨_, SqL.of fp⟩, fun D hD => ?_⟩
        refine lc_pure walk_list hD [] rfl (small1000 (by decide)) (fun H' m => SqL.of (m _ _ fp)) (fun i x H7 H8 z hz m hy N hN => nomatch hz) mono_pair (fun H' m f => ?_)
        exact ⟨D, [], rfl, SqL.of f, fin _ H' ((m3'.trans m4).trans m) (decide_eq_true hxy).symm⟩
    · have ee : ¬ V.str (lsort (.bl x)) = V.str (lsort .unk) := fun z => nub (V.str.inj z).symm
      rw [decide_eq_false ee]
      exact iteT (fin _ H2 mm rfl)
  · rcases kb with ⟨y, rfl⟩ | rfl
    · have ee : ¬ V.str (lsort .unk) = V.str (lsort (.bl y)) := fun z => nub (V.str.inj z)
      rw [decide_eq_false ee]
      exact iteT (fin _ H2 mm rfl)
    · have ee : V.str (lsort .unk) = V.str (lsort .unk) := rfl
      rw [decide_eq_true ee]
      refine iteF ?_
      refine ⟨_, rfl, v, _, rfl, ha.same mm, fun H3 m3 => ⟨rfl, _, rfl, ?_⟩⟩
      have nn : V.str (lsort .unk) = V.str "unknown" := rfl
      rw [decide_eq_true nn]
      exact iteT (fin _ H3 (mm.trans m3) rfl)
end
end K01

namespace K01
open PySem L2 XR VT
abbrev sLRight : Stmt := top 26
theorem agr_res (m : Bool) (o : Nat) : agr (res m o) = m := by
  unfold res
  cases m
  · rfl
  · by_cases h : o = 0
    · simp [h, agr]
    · simp [h, agr]
theorem kind_res (m : Bool) (o : Nat) : kindB (res m o) := by
  unfold res
  cases m
  · exact .inl ⟨_, rfl⟩
  · by_cases h : o = 0
    · simp only [if_true, h]; exact .inl ⟨_, rfl⟩
    · simp only [if_true, h]; exact .inr rfl
theorem al_refl {d : D} (h : kindB d) : al d d = true := by
  rcases h with ⟨x, rfl⟩ | rfl
  · exact decide_eq_true rfl
  · rfl
def spRight (CU : Addr) (n : Nat) : Sp := fun vs H Q _ => ∃ (v u : V) (a b : D), vs = [v, u] ∧ Rep CU H v a ∧ Rep CU H u b ∧ dep a < n ∧ dep b < n ∧ ∀ H', Same H H' → Q (.bl true) H'
section
variable {P : Program} {w : World} {K : PySem.W.Frag} {mg : Str → Option Value} {base : Heap} {CU : Addr}
theorem scLr : FnScope ["_law_one_here", "_law_other", "_law_told", "_law_due"] ["_law_one_here", "_law_other"] (defScope sLRight) := ⟨rfl, rfl, rfl, by decide +kernel, rfl, by decide +kernel, by decide +kernel⟩
theorem ok_lright {f fZ fL fA fN fO fG fM : Addr} {fd dZ dL dA dN dO dG dM : FuncData} {n k : Nat} (F : Fun K "_law_pair_right" "_law_pair_right" sLRight f fd) (T : Txt K mg CU) (hk : 4 ≤ k)
    (GZ : FnOk P w K mg base CX0 k fZ dZ ["one", "other"] (spSame CU n)) (gZ : mg "same" = some (.ref fZ)) (kZ : PySem.W.keepIn K (.ref fZ) = true) (bZ : Binds K dZ ["one", "other"] [])
    (GL : FnOk P w K mg base CX0 (k + 1) fL dL ["_law_one_here", "_law_other"] (spLSame CU n)) (gL : mg "_law_same" = some (.ref fL)) (kL : PySem.W.keepIn K (.ref fL) = true) (bL : Binds K dL ["_law_one_here", "_law_other"] [])
    (GA : FnOk P w K mg base CX0 4 fA dA ["_law_one_here", "_law_other"] (spAlike CU)) (gA : mg "_law_alike" = some (.ref fA)) (kA : PySem.W.keepIn K (.ref fA) = true) (bA : Binds K dA ["_law_one_here", "_law_other"] [])
    (GN : FnOk P w K mg base CX0 k fN dN ["value"] (spN CU n fun d => .bl (known n d))) (gN : mg "is_known" = some (.ref fN)) (kN : PySem.W.keepIn K (.ref fN) = true) (bN : Binds K dN ["value"] [])
    (GO : FnOk P w K mg base CX0 k fO dO ["_law_value_here"] (spN CU n fun d => .int (opn n d))) (gO : mg "_law_open" = some (.ref fO)) (kO : PySem.W.keepIn K (.ref fO) = true) (bO : Binds K dO ["_law_value_here"] [])
    (GG : FnOk P w K mg base CX0 (k + 1) fG dG ["planned", "value"] (spAgrees CU n)) (gG : mg "agrees" = some (.ref fG)) (kG : PySem.W.keepIn K (.ref fG) = true) (bG : Binds K dG ["planned", "value"] [])
    (GM : FnOk P w K mg base CX0 k fM dM ["_law_one_here", "_law_other"] (spMay CU n)) (gM : mg "_law_may" = some (.ref fM)) (kM : PySem.W.keepIn K (.ref fM) = true) (bM : Binds K dM ["_law_one_here", "_law_other"] []) :
    FnOk P w K mg base CX0 (k + 2) f fd ["_law_one_here", "_law_other"] (spRight CU n) := by
  refine F.ok scLr (fun vs H Q E h => ?_) (fun cdv A outer s H vs Q E hr h => ?_)
  · obtain ⟨v, u, a, b, rfl, _⟩ := h
    rfl
  obtain ⟨v, u, a, b, rfl, ha, hb, na, nb, kk⟩ := h
  have hrk : Room k _ := hr.mono (Nat.le_succ _)
  have hr4 : Room 4 _ := hr.mono (Nat.le_trans hk (Nat.le_succ _))
  refine ⟨_, (pss_cons (ps_par (i := 2) (j := 3) (by rfl) scLr.nd rfl rfl (by decide) rfl rfl (pa_cons (pe_call GZ hrk rfl gZ kZ bZ .nil pass0 (pa_cons (pv 0) (pa_cons (pv 1) pa_nil))) (pa_cons (pe_call GL hr rfl gL kL bL .nil pass0 (pa_cons (pv 0) (pa_cons (pv 1) pa_nil))) pa_nil)) (by rfl))
      (pss_cons (ps_if (PW.pt (pw_or (pt_not (pt_val (pe_call GA hr4 rfl gA kA bA .nil pass0 (pa_cons (pv 2) (pa_cons (pv 3) pa_nil))))) (pw_or1 (pt_not (pt_val (pe_call GA hr4 rfl gA kA bA .nil pass0 (pa_cons (pe_call GZ hrk rfl gZ kZ bZ .nil pass0 (pa_cons (pv 1) (pa_cons (pv 0) pa_nil))) (pa_cons (pv 3) pa_nil)))))))) (pss_one (ps_ret pe_bl)) pss_nil)
      (pss_cons (ps_if (PW.pt (pw_or (pt_cmpR op_ne (pe_call GN hrk rfl gN kN bN .nil pass0 (pa_cons (pv 0) pa_nil)) (pe_cmpR op_eq (pe_call GO hrk rfl gO kO bO .nil pass0 (pa_cons (pv 0) pa_nil)) pe_int (nomark _)) (nomark _)) (pw_or1 (pt_cmpR op_ne (pe_call GN hrk rfl gN kN bN .nil pass0 (pa_cons (pv 1) pa_nil)) (pe_cmpR op_eq (pe_call GO hrk rfl gO kO bO .nil pass0 (pa_cons (pv 1) pa_nil)) pe_int (nomark _)) (nomark _))))) (pss_one (ps_ret pe_bl)) pss_nil)
      (pss_one (ps_ret (pe_or (pe_not (pe_call GN hrk rfl gN kN bN .nil pass0 (pa_cons (pv 1) pa_nil))) (pe_one (pe_cmpR op_eq (pe_call GG hr rfl gG kG bG .nil pass0 (pa_cons (pv 0) (pa_cons (pv 1) pa_nil))) (pe_call GM hrk rfl gM kM bM .nil pass0 (pa_cons (pv 0) (pa_cons (pv 1) pa_nil))) (nomark _))))))))), ?_⟩
  have e1 := same_is n a b ha.wf hb.wf na nb
  have e2 := same_symm n a b ha.wf hb.wf na nb
  have kd := kind_res (may n a b) (opn n a + opn n b)
  refine ⟨_, rfl, _, rfl, v, u, a, b, rfl, ha, hb, na, nb, fun r1 H1 m1 R1 => ⟨_, rfl, _, rfl, v, u, a, b, rfl, ha.same m1, hb.same m1, na, nb, fun r2 H2 m2 R2 => ⟨_, _, rfl, ?_⟩⟩⟩
  rw [e1] at R1
  have m12 := m1.trans m2
  refine ⟨_, rfl, _, rfl, r1, r2, _, _, rfl, R1.same m2, R2, kd, kd, fun H3 m3 => ⟨_, rfl, ?_⟩⟩
  rw [al_refl kd]
  refine iteF ?_
  have m13 := m12.trans m3
  refine ⟨_, rfl, _, rfl, u, v, b, a, rfl, hb.same m13, ha.same m13, nb, na, fun r3 H4 m4 R3 => ?_⟩
  rw [e2] at R3
  have m14 := m13.trans m4
  refine ⟨_, rfl, r3, r2, _, _, rfl, R3, (R2.same m3).same m4, kd, kd, fun H5 m5 => ⟨_, rfl, ?_⟩⟩
  rw [al_refl kd]
  refine iteF ?_
  have m15 := m14.trans m5
  have ka := known_is n a na
  have kb := known_is n b nb
  have kz : ∀ z : Nat, decide (V.int (z : Int) = V.int 0) = decide (z = 0) := fun z => by
    rw [Bool.eq_iff_iff]
    simp
  refine ⟨_, rfl, v, a, rfl, ha.same m15, na, fun H6 m6 => ⟨_, rfl, v, a, rfl, (ha.same m15).same m6, na, fun H7 m7 => ⟨rfl, rfl, _, rfl, ?_⟩⟩⟩
  have m17 := (m15.trans m6).trans m7
  have za : decide (V.bl (known n a) = V.bl (decide (V.int (opn n a : Int) = V.int 0))) = true := by rw [kz, ka]; exact decide_eq_true rfl
  rw [za]
  refine iteF ?_
  refine ⟨_, rfl, u, b, rfl, hb.same m17, nb, fun H8 m8 => ⟨_, rfl, u, b, rfl, (hb.same m17).same m8, nb, fun H9 m9 => ⟨rfl, rfl, _, rfl, ?_⟩⟩⟩
  have m19 := (m17.trans m8).trans m9
  have zb : decide (V.bl (known n b) = V.bl (decide (V.int (opn n b : Int) = V.int 0))) = true := by rw [kz, kb]; exact decide_eq_true rfl
  rw [zb]
  refine iteF ?_
  refine ⟨_, rfl, u, b, rfl, hb.same m19, nb, fun H10 m10 => ⟨_, rfl, _, rfl, ?_⟩⟩
  have m20 := m19.trans m10
  cases hkb : known n b with
  | false => exact iteT (kk H10 m20)
  | true =>
    refine iteF ⟨_, rfl, _, rfl, v, u, a, b, rfl, ha.same m20, hb.same m20, na, nb, fun H11 m11 => ⟨_, rfl, _, rfl, v, u, a, b, rfl, (ha.same m20).same m11, (hb.same m20).same m11, na, nb, fun H12 m12 => ⟨rfl, ?_⟩⟩⟩
    have zc : decide (V.bl (agr (same n a b)) = V.bl (may n a b)) = true := by rw [e1, agr_res]; exact decide_eq_true rfl
    rw [zc]
    exact kk H12 ((m20.trans m11).trans m12)
end
end K01

namespace K01
open PySem L2 XR VT
abbrev sWell : Stmt := top 14
abbrev sDraw : Stmt := top 15
abbrev sOne : Stmt := top 16
abbrev sLVal : Stmt := top 17
theorem But.new {w p : Addr} {H : Hp} {o : HO} (h : H p = none) : But w H (L2.upd H p o) := fun b u e n => by rw [upd_ne (ne_of_none e h)]; exact e
structure Well (H : Hp) (w : Addr) (a b c : Int) : Prop where
  at_ : H w = some (.lst [.int a, .int b, .int c])
  b0 : 0 ≤ b
  b1 : b < 2147483647
  c0 : 0 ≤ c
  c1 : c ≤ 1000000000000000
def spWell : Sp := fun vs H Q _ => ∃ z : Int, vs = [.int z] ∧ ∀ (p : Addr) (a b : Int) (H' : Hp), Same H H' → H p = none → Well H' p a b 0 → Q (.ref p) H'
def spDraw : Sp := fun vs H Q _ => ∃ (w : Addr) (a b c m : Int), vs = [.ref w, .int m] ∧ Well H w a b c ∧ c < 1000000000000000 ∧ 0 < m ∧ m < 1000000 ∧
  ∀ (d a' c' : Int) (H' : Hp), 0 ≤ d → d < m → c' ≤ c + 1 → Well H' w a' b c' → But w H H' → Q (.int d) H'
def spOne (K : PySem.W.Frag) : Sp := fun vs H Q _ => ∃ (w l : Addr) (a b c : Int) (xs : List V), vs = [.ref w, .ref l] ∧ Well H w a b c ∧ c < 1000000000000000 ∧ H l = some (.lst xs) ∧ l ≠ w ∧ 0 < xs.length ∧ xs.length < 1000 ∧
  ∀ (v : V) (a' c' : Int) (H' : Hp), v ∈ xs → c' ≤ c + 1 → Well H' w a' b c' → But w H H' → Q v H'
structure Txt0 (mg : Str → Option Value) : Prop where
  int : mg "int" = none
  len : mg "len" = none
section
variable {P : Program} {w : World} {K : PySem.W.Frag} {mg : Str → Option Value} {base : Heap} {CU : Addr}
theorem scW : FnScope ["_law_cell"] ["_law_cell"] (defScope sWell) := ⟨rfl, rfl, rfl, by decide +kernel, rfl, by decide +kernel, by decide +kernel⟩
theorem ok_well {f : Addr} {fd : FuncData} (F : Fun K "_law_well" "_law_well" sWell f fd) (T : Txt0 mg) : FnOk P w K mg base CX0 1 f fd ["_law_cell"] spWell := by
  refine F.ok scW (fun vs H Q E h => ?_) (fun cdv A outer s H vs Q E hr h => ?_)
  · obtain ⟨z, rfl, _⟩ := h
    rfl
  · obtain ⟨z, rfl, k⟩ := h
    refine ⟨_, pss_one (ps_ret (pe_lst (pa_cons (pe_op op_mul (pv 0) (pe_callTy call_int1 (by rfl) T.int (by decide +kernel) (pa_cons (pe_cmpR op_ge (pv 0) (pe_op op_pow pe_int pe_int) (nomark _)) pa_nil)))
      (pa_cons (pe_op op_mod (pe_callTy call_int1 (by rfl) T.int (by decide +kernel) (pa_cons (pv 0) pa_nil)) pe_int) (pa_cons pe_int pa_nil))))), ?_⟩
    refine ⟨_, rfl, _, rfl, _, _, rfl, rfl, ⟨by decide, by decide, by decide⟩, _, _, rfl, rfl, .inr ⟨_, rfl, ?_⟩⟩
    refine ⟨_, _, rfl, rfl, .inr ?_, ?_⟩
    · split <;> exact ⟨by decide, by decide⟩
    refine ⟨_, rfl, .inl ⟨_, rfl, _, _, rfl, rfl, (by show (0 : Int) < 2147483647; decide), (by show 3 ≤ sizeLine; decide), fun p hp => ?_⟩⟩
    refine k p _ _ _ (same_new hp) hp ⟨upd_same, ?_, ?_, Int.le_refl _, by decide⟩
    · exact Int.emod_nonneg _ (by decide)
    · exact Int.emod_lt_of_pos _ (by decide)
theorem scD : FnScope ["_law_well_here", "_law_below", "_law_digit", "_law_prime", "_law_number"] ["_law_well_here", "_law_below"] (defScope sDraw) := ⟨rfl, rfl, rfl, by decide +kernel, rfl, by decide +kernel, by decide +kernel⟩
theorem ok_draw {f : Addr} {fd : FuncData} (F : Fun K "_law_draw" "_law_draw" sDraw f fd) (T : Txt0 mg) : FnOk P w K mg base CX0 1 f fd ["_law_well_here", "_law_below"] spDraw := by
  refine F.ok scD (fun vs H Q E h => ?_) (fun cdv A outer s H vs Q E hr h => ?_)
  · obtain ⟨w, a, b, c, m, rfl, _⟩ := h
    rfl
  · obtain ⟨w, a, b, c, m, rfl, W, hc, m0, m1, k⟩ := h
    refine ⟨_, pss_cons (ps_if (pt_cmpR op_gt (pe_ix ix_list (pv 0) pe_int (fun _ _ => rfl)) pe_int (nomark _))
        (pss_cons (ps_set (i := 2) scD.nd rfl (Or.inl rfl) (pe_op op_mod (pe_callTy call_int1 (by rfl) T.int (by decide +kernel) (pa_cons (pe_ix ix_list (pv 0) pe_int (fun _ _ => rfl)) pa_nil)) (pv 1)))
        (pss_cons (ps_asg (pe_op op_fdiv (pe_ix ix_list (pv 0) pe_int (fun _ _ => rfl)) (pv 1)) (pg_sub (pv 0) pe_int set_list))
        (pss_one (ps_ret (pv 2))))) pss_nil)
      (pss_cons (ps_asg (pe_op op_add (pe_ix ix_list (pv 0) pe_int (fun _ _ => rfl)) pe_int) (pg_sub (pv 0) pe_int set_list))
      (pss_cons (ps_set (i := 3) scD.nd rfl (Or.inl rfl) (pe_ix ix_list (pe_lst (pa_cons pe_int (pa_cons pe_int (pa_cons pe_int (pa_cons pe_int (pa_cons pe_int (pa_cons pe_int (pa_cons pe_int pa_nil))))))))
        (pe_op op_mod (pe_callTy call_int1 (by rfl) T.int (by decide +kernel) (pa_cons (pe_ix ix_list (pv 0) pe_int (fun _ _ => rfl)) pa_nil)) pe_int) (fun _ _ => rfl)))
      (pss_cons (ps_set (i := 4) scD.nd rfl (Or.inl rfl) (pe_op op_mod (pe_callTy call_int1 (by rfl) T.int (by decide +kernel) (pa_cons (pe_op op_pow (pe_op op_add (pe_op op_add (pe_ix ix_list (pv 0) pe_int (fun _ _ => rfl)) (pe_op op_mul pe_int (pe_ix ix_list (pv 0) pe_int (fun _ _ => rfl)))) pe_int) pe_int) pa_nil)) (pv 3)))
      (pss_cons (ps_set (i := 4) scD.nd rfl (Or.inl rfl) (pe_op op_mod (pe_callTy call_int1 (by rfl) T.int (by decide +kernel) (pa_cons (pe_op op_mul (pe_op op_add (pv 4) (pe_ix ix_list (pv 0) pe_int (fun _ _ => rfl))) (pe_op op_add (pe_op op_fdiv (pv 4) pe_int) pe_int)) pa_nil)) (pv 3)))
      (pss_one (ps_ret (pe_op op_mod (pe_callTy call_int1 (by rfl) T.int (by decide +kernel) (pa_cons (pe_op op_fdiv (pv 4) pe_int) pa_nil)) (pv 1)))))))), ?_⟩
    refine ⟨_, rfl, w, _, _, _, rfl, rfl, SqL.of W.at_, rfl, _, _, rfl, rfl, _, rfl, ?_⟩
    refine ite2 (fun ca => ?_) (fun ca => ?_)
    · refine ⟨_, rfl, w, _, _, _, rfl, rfl, SqL.of W.at_, rfl, .inl ⟨_, rfl, _, rfl, _, _, rfl, rfl, m0, ?_⟩⟩
      refine ⟨_, rfl, w, _, _, _, rfl, rfl, SqL.of W.at_, rfl, _, rfl, _, _, rfl, rfl, ⟨m0, by omega⟩, _, rfl, w, _, _, _, rfl, rfl, W.at_, rfl, ?_⟩
      exact ⟨_, rfl, k _ _ c _ (Int.emod_nonneg _ (by omega)) (Int.emod_lt_of_pos _ m0) (by omega) ⟨upd_same, W.b0, W.b1, W.c0, W.c1⟩ But.upd⟩
    · refine ⟨_, rfl, w, _, _, _, rfl, rfl, SqL.of W.at_, rfl, _, _, rfl, rfl, _, rfl, w, _, _, _, rfl, rfl, W.at_, rfl, ?_⟩
      have W1 : Well (upd H w (.lst [.int a, .int b, .int (c + 1)])) w a b (c + 1) := ⟨upd_same, W.b0, W.b1, by have := W.c0; omega, by omega⟩
      have B1 : But w H (upd H w (.lst [.int a, .int b, .int (c + 1)])) := But.upd
      refine ⟨(by show 7 ≤ sizeLine; decide), fun p hp => ?_⟩
      have wp : w ≠ p := ne_of_none W1.at_ hp
      have W2 : Well (upd (upd H w (.lst [.int a, .int b, .int (c + 1)])) p (.lst [.int 2147483647, .int 2147483629, .int 2147483587, .int 2147483579, .int 2147483563, .int 2147483549, .int 2147483543])) w a b (c + 1) := ⟨by rw [upd_ne wp]; exact W1.at_, W1.b0, W1.b1, W1.c0, W1.c1⟩
      have B2 := B1.trans (K01.But.new (w := w) (o := .lst [.int 2147483647, .int 2147483629, .int 2147483587, .int 2147483579, .int 2147483563, .int 2147483549, .int 2147483543]) hp)
      have hx : ∃ q : Int, (atI [V.int 2147483647, .int 2147483629, .int 2147483587, .int 2147483579, .int 2147483563, .int 2147483549, .int 2147483543] ((c + 1) % 7)) = some (.int q) ∧ 0 < q ∧ q ≤ 2147483647 := by
        have h0 : 0 ≤ (c + 1) % 7 := Int.emod_nonneg _ (by decide)
        have h1 : (c + 1) % 7 < 7 := Int.emod_lt_of_pos _ (by decide)
        rcases (by omega : (c + 1) % 7 = 0 ∨ (c + 1) % 7 = 1 ∨ (c + 1) % 7 = 2 ∨ (c + 1) % 7 = 3 ∨ (c + 1) % 7 = 4 ∨ (c + 1) % 7 = 5 ∨ (c + 1) % 7 = 6) with e | e | e | e | e | e | e <;> rw [e] <;> exact ⟨_, rfl, by decide, by decide⟩
      obtain ⟨q, eq, q0, q1⟩ := hx
      refine ⟨_, rfl, w, _, _, _, rfl, rfl, SqL.of W2.at_, rfl, .inl ⟨_, rfl, _, _, rfl, rfl, (by show (0 : Int) < 7; decide), p, _, _, _, rfl, rfl, SqL.of upd_same, eq, ?_⟩⟩
      refine ⟨_, rfl, w, _, _, _, rfl, rfl, SqL.of W2.at_, rfl, _, rfl, w, _, _, _, rfl, rfl, SqL.of W2.at_, rfl, _, _, rfl, rfl, .inl ⟨by decide, by decide⟩, _, _, rfl, rfl, _, _, rfl, rfl, _, _, rfl, rfl, ⟨by decide, by decide, ?_⟩, ?_⟩
      · have := W.b0; have := W.b1; have := W.c0; have := W.c1
        omega
      refine .inl ⟨_, rfl, _, rfl, _, _, rfl, rfl, q0, ?_⟩
      have n0 := Int.emod_nonneg ((b + 7919 * (c + 1) + 1) ^ Int.toNat 5) (by omega : q ≠ 0)
      have n1 := Int.emod_lt_of_pos ((b + 7919 * (c + 1) + 1) ^ Int.toNat 5) q0
      refine ⟨_, rfl, _, rfl, w, _, _, _, rfl, rfl, SqL.of W2.at_, rfl, _, _, rfl, rfl, _, rfl, _, _, rfl, rfl, ⟨by decide, by decide⟩, _, _, rfl, rfl, _, _, rfl, rfl, .inl ⟨?_, ?_⟩, ?_⟩
      · have := W1.c0; omega
      · have := W1.c1; omega
      refine .inl ⟨_, rfl, _, rfl, _, _, rfl, rfl, q0, ?_⟩
      refine ⟨_, rfl, _, _, rfl, rfl, ⟨by decide, by decide⟩, .inl ⟨_, rfl, _, rfl, _, _, rfl, rfl, m0, ?_⟩⟩
      exact k _ _ _ _ (Int.emod_nonneg _ (by omega)) (Int.emod_lt_of_pos _ m0) (Int.le_refl _) W2 B2
theorem scO : FnScope ["_law_well_here", "_law_some"] ["_law_well_here", "_law_some"] (defScope sOne) := ⟨rfl, rfl, rfl, by decide +kernel, rfl, by decide +kernel, by decide +kernel⟩
theorem ok_one {f fD : Addr} {fd fdD : FuncData} (F : Fun K "_law_one" "_law_one" sOne f fd) (T : Txt0 mg) (FD : Fun K "_law_draw" "_law_draw" sDraw fD fdD) (gD : mg "_law_draw" = some (.ref fD)) (bD : Binds K fdD ["_law_well_here", "_law_below"] []) :
    FnOk P w K mg base CX0 2 f fd ["_law_well_here", "_law_some"] (spOne K) := by
  have GD : FnOk P w K mg base CX0 1 fD fdD ["_law_well_here", "_law_below"] spDraw := ok_draw FD T
  refine F.ok scO (fun vs H Q E h => ?_) (fun cdv A outer s H vs Q E hr h => ?_)
  · obtain ⟨w, l, a, b, c, xs, rfl, _⟩ := h
    rfl
  · obtain ⟨w, l, a, b, c, xs, rfl, W, hc, hl, nlw, l0, l1, k⟩ := h
    refine ⟨_, pss_one (ps_ret (pe_ix ix_list (pv 1) (pe_call GD hr rfl gD FD.kp bD .nil pass0 (pa_cons (pv 0) (pa_cons (pe_callB call_len (by rfl) T.len PySem.boot_len (pa_cons (pv 1) pa_nil)) pa_nil))) (fun _ _ => rfl))), ?_⟩
    refine ⟨_, rfl, _, rfl, _, rfl, _, _, rfl, .inl ⟨_, SqL.of hl, rfl⟩, w, a, b, c, _, rfl, W, hc, by omega, by omega, fun d a' c' H' d0 d1 hc' W' B => ?_⟩
    have hl' : H' l = some (.lst xs) := B _ _ hl nlw
    have hd : d.toNat < xs.length := by omega
    refine ⟨l, xs, d, xs[d.toNat], rfl, rfl, SqL.of hl', ?_, ?_⟩
    · have z := atI_nat (xs := xs) (j := d.toNat) (v := xs[d.toNat]) (by simp [hd])
      rwa [Int.toNat_of_nonneg d0] at z
    · exact k _ a' c' H' (List.getElem_mem hd) hc' W' B

/-- items of a list of trees -/
def Its (CU : Addr) (H : Hp) (xs : List V) (ds : List D) : Prop := xs.length = ds.length ∧ ∀ (i : Nat) (v : V) (d : D), xs[i]? = some v → ds[i]? = some d → Rep CU H v d
theorem Its.mono {H H' : Hp} {xs : List V} {ds : List D} (m : ∀ v d, Rep CU H v d → Rep CU H' v d) (h : Its CU H xs ds) : Its CU H' xs ds := ⟨h.1, fun i v d h1 h2 => m _ _ (h.2 i v d h1 h2)⟩
theorem Its.snoc {H : Hp} {xs : List V} {ds : List D} {v : V} {d : D} (h : Its CU H xs ds) (r : Rep CU H v d) : Its CU H (xs ++ [v]) (ds ++ [d]) := by
  refine ⟨by rw [List.length_append, List.length_append, h.1]; rfl, fun i v' d' h1 h2 => ?_⟩
  by_cases hi : i < xs.length
  · rw [List.getElem?_append_left hi] at h1
    rw [List.getElem?_append_left (by rw [← h.1]; exact hi)] at h2
    exact h.2 i v' d' h1 h2
  · have hl := (List.getElem?_eq_some_iff.mp h1).1
    rw [List.length_append] at hl
    have hl2 : i < xs.length + 1 := hl
    have e : i = xs.length := by omega
    subst e
    rw [List.getElem?_append_right (Nat.le_refl _), Nat.sub_self] at h1
    rw [h.1, List.getElem?_append_right (Nat.le_refl _), Nat.sub_self] at h2
    cases h1
    cases h2
    exact r
theorem Well.same {H H' : Hp} {p : Addr} {a b c : Int} (W : Well H p a b c) (m : Same H H') : Well H' p a b c := ⟨m _ _ W.at_, W.b0, W.b1, W.c0, W.c1⟩
theorem Well.rep {H H' : Hp} {p : Addr} {a b c : Int} {v : V} {d : D} (W : Well H p a b c) (m : But p H H') (h : Rep CU H v d) : Rep CU H' v d := h.but m W.at_ tr_lst
def spVal (CU : Addr) : Nat → Sp
  | 0 => fun vs _ _ _ => vs.length = 3 ∧ False
  | j + 1 => fun vs H Q _ => ∃ (w : Addr) (a b c dim : Int), vs = [.ref w, .int (j : Nat), .int dim] ∧ Well H w a b c ∧ c + 4 ^ (j + 1) < 1000000000000000 ∧
      ∀ (r : V) (d : D) (a' c' : Int) (H' : Hp), c' ≤ c + 4 ^ (j + 1) → Well H' w a' b c' → But w H H' → Rep CU H' r d → dep d ≤ j + 1 → Q r H'
theorem spVal_len {j : Nat} {vs : List V} {H : Hp} {Q : VK} {E : XK} (h : spVal CU j vs H Q E) : vs.length = 3 := by
  cases j with
  | zero => exact h.1
  | succ j =>
    obtain ⟨_, _, _, _, _, rfl, _⟩ := h
    rfl
theorem val0 {k : Nat} {f : Addr} {fd : FuncData} : FnOk P w K mg base CX0 k f fd ["_law_well_here", "_law_deep", "_law_dim"] (spVal CU 0) := ⟨fun _ _ _ _ h => h.1, fun _ _ _ _ _ _ _ _ _ _ _ _ _ h => h.2.elim⟩
theorem merge_nd : ∀ (ks : List Str) (vs : List V) (acc : List (Key × V)), ks.length = vs.length → ks.Nodup → (∀ k ∈ ks, ∀ p ∈ acc, p.1 ≠ Sum.inr k) → mergeK acc (mkv ks vs) = acc ++ mkv ks vs
  | [], [], acc, _, _, _ => by simp [mergeK, mkv]
  | k :: ks, v :: vs, acc, h, nd, ha => by
    have nd' := List.nodup_cons.mp nd
    have e : putK acc (Sum.inr k) v = acc ++ [(Sum.inr k, v)] := by
      unfold putK
      rw [if_neg]
      intro z
      obtain ⟨p, hp, e⟩ := List.any_eq_true.mp z
      exact ha k List.mem_cons_self p hp (of_decide_eq_true e)
    have ih := merge_nd ks vs (acc ++ [(Sum.inr k, v)]) (Nat.succ.inj h) nd'.2 (fun k' hk' p hp => by
      rcases List.mem_append.mp hp with hp | hp
      · exact ha k' (List.mem_cons_of_mem _ hk') p hp
      · rw [List.mem_singleton.mp hp]
        intro z
        cases z
        exact nd'.1 hk')
    show mergeK (putK acc (Sum.inr k) v) (mkv ks vs) = acc ++ ((Sum.inr k, v) :: mkv ks vs)
    rw [e, ih, List.append_assoc]
    rfl
theorem scLv : FnScope ["_law_well_here", "_law_deep", "_law_dim", "_law_way", "_law_some", "_law_k", "_law_value_here"] ["_law_well_here", "_law_deep", "_law_dim"] (defScope sLVal) := ⟨rfl, rfl, rfl, by decide +kernel, rfl, by decide +kernel, by decide +kernel⟩
end
end K01

namespace K01
open PySem L2 XR VT
section
variable {P : Program} {w : World} {K : PySem.W.Frag} {mg : Str → Option Value} {base : Heap} {CU : Addr}
theorem pow4 : ∀ j : Nat, (4 : Int) ≤ 4 ^ (j + 1)
  | 0 => by decide
  | j + 1 => by
    have := pow4 j
    rw [Int.pow_succ]
    omega
theorem rep_unit {H : Hp} {t : Addr} (h : H t = some (.tup [])) : Rep CU H (.ref t) (.tup []) := .tup h rfl (Nat.zero_le _) fun i v d hv _ => nomatch hv
theorem rep_tag {H : Hp} {t : Addr} {m n : Str} {i : Int} (h : H t = some (.tup [.str m, .str n, .int i])) (hm : TxOk m) (hn : TxOk n) : Rep CU H (.ref t) (.tup [.str m, .str n, .int i]) := by
  refine .tup h rfl (by show 3 ≤ 60; decide) fun j v d hv hd => ?_
  match j, hv, hd with
  | 0, hv, hd => cases hv; cases hd; exact .str _ hm
  | 1, hv, hd => cases hv; cases hd; exact .str _ hn
  | 2, hv, hd => cases hv; cases hd; exact .int _
theorem paired_of {α β : Type} {F : α → β → Prop} : ∀ {l : List α} {m : List β}, l.length = m.length → (∀ (i : Nat) x y, l[i]? = some x → m[i]? = some y → F x y) → PySem.Paired F l m
  | [], [], _, _ => .nil
  | x :: l, y :: m, h, hF => .cons (hF 0 x y rfl rfl) (paired_of (Nat.succ.inj h) fun i x y h1 h2 => hF (i + 1) x y h1 h2)
theorem rep_its {H : Hp} {t : Addr} {xs : List V} {ds : List D} (h : H t = some (.tup xs)) (hi : Its CU H xs ds) (hz : ds.length ≤ 60) : Rep CU H (.ref t) (.tup ds) := .tup h hi.1 hz hi.2
def abc : List Str := ["a", "b", "c"]
theorem ok_val {f fD fO : Addr} {fd dD dO : FuncData} {j k : Nat} (F : Fun K "_law_value" "_law_value" sLVal f fd) (T : Txt K mg CU) (BU : Bare K mg "Unknown" CU) (mR : mg "range" = none) (mE : mg "enumerate" = none)
    (GD : FnOk P w K mg base CX0 1 fD dD ["_law_well_here", "_law_below"] spDraw) (gD : mg "_law_draw" = some (.ref fD)) (kD : PySem.W.keepIn K (.ref fD) = true) (bD : Binds K dD ["_law_well_here", "_law_below"] [])
    (GO : FnOk P w K mg base CX0 2 fO dO ["_law_well_here", "_law_some"] (spOne K)) (gO : mg "_law_one" = some (.ref fO)) (kO : PySem.W.keepIn K (.ref fO) = true) (bO : Binds K dO ["_law_well_here", "_law_some"] [])
    (gK : mg "_law_value" = some (.ref f)) (bK : Binds K fd ["_law_well_here", "_law_deep", "_law_dim"] []) (hk : 2 ≤ k) (GK : FnOk P w K mg base CX0 k f fd ["_law_well_here", "_law_deep", "_law_dim"] (spVal CU j)) :
    FnOk P w K mg base CX0 (k + 1) f fd ["_law_well_here", "_law_deep", "_law_dim"] (spVal CU (j + 1)) := by
  have kK := F.kp
  refine F.ok scLv (fun vs H Q E h => spVal_len h) (fun cdv A outer s H vs Q E hr h => ?_)
  obtain ⟨w, a, b, c, dim, rfl, W, hc, kk⟩ := h
  have hr1 : Room 1 _ := hr.mono (Nat.le_trans (by decide) hk)
  have hr2 : Room 2 _ := hr.mono hk
  have q4 := pow4 j
  have fin : ∀ (r : V) (d : D) (a' c' : Int) (H' : Hp), c' ≤ c + 4 → Well H' w a' b c' → But w H H' → Rep CU H' r d → dep d ≤ 1 → Q r H' := fun r d a' c' H' h1 h2 h3 h4 h5 => kk r d a' c' H' (by omega) h2 h3 h4 (by omega)
  refine ⟨_, (pss_cons (ps_if (pt_cmpR op_lt (pe_call GD hr1 rfl gD kD bD .nil pass0 (pa_cons (pv 0) (pa_cons pe_int pa_nil))) (pv 2) (nomark _)) (pss_one (ps_ret (pe_bare BU rfl))) pss_nil)
      (pss_cons (ps_set (i := 3) scLv.nd rfl (Or.inl rfl) (pe_call GD hr1 rfl gD kD bD .nil pass0 (pa_cons (pv 0) (pa_cons (pe_ifExp (pt_cmpR op_gt (pv 1) pe_int (nomark _)) pe_int pe_int) pa_nil))))
      (pss_cons (ps_if (pt_cmpR op_eq (pv 3) pe_int (nomark _)) (pss_one (ps_ret (pe_call GO hr2 rfl gO kO bO .nil pass0 (pa_cons (pv 0) (pa_cons (pe_lst (pa_cons pe_non (pa_cons (pe_cmpR op_eq pe_int pe_int (nomark _)) (pa_cons (pe_cmpR op_eq pe_int pe_int (nomark _)) (pa_cons pe_non pa_nil))))) pa_nil))))) pss_nil)
      (pss_cons (ps_if (pt_cmpR op_eq (pv 3) pe_int (nomark _)) (pss_one (ps_ret (pe_op op_sub (pe_call GD hr1 rfl gD kD bD .nil pass0 (pa_cons (pv 0) (pa_cons pe_int pa_nil))) pe_int))) pss_nil)
      (pss_cons (ps_if (pt_cmpR op_lt (pv 3) pe_int (nomark _)) (pss_one (ps_ret (pe_call GO hr2 rfl gO kO bO .nil pass0 (pa_cons (pv 0) (pa_cons (pe_lst (pa_cons pe_str (pa_cons pe_str (pa_cons pe_str (pa_cons pe_str (pa_cons pe_str (pa_cons pe_str pa_nil))))))) pa_nil))))) pss_nil)
      (pss_cons (ps_if (pt_cmpR op_lt (pv 3) pe_int (nomark _)) (pss_cons (ps_set (i := 4) scLv.nd rfl (Or.inl rfl) (pe_lst (pa_cons (pe_tup (pa_cons pe_str (pa_cons pe_str (pa_cons pe_int pa_nil)))) (pa_cons (pe_tup (pa_cons pe_str (pa_cons pe_str (pa_cons pe_int pa_nil)))) (pa_cons (pe_tup (pa_cons pe_str (pa_cons pe_str (pa_cons pe_int pa_nil)))) (pa_cons (pe_tup (pa_cons pe_str (pa_cons pe_str (pa_cons pe_int pa_nil)))) (pa_cons (pe_tup pa_nil) pa_nil)))))))
        (pss_one (ps_ret (pe_call GO hr2 rfl gO kO bO .nil pass0 (pa_cons (pv 0) (pa_cons (pe_op op_cat (pv 4) (pe_lst (pa_cons (pe_tup (pa_cons pe_str (pa_cons pe_str (pa_cons pe_int pa_nil)))) pa_nil))) pa_nil)))))) pss_nil)
      (pss_cons (ps_setLc (i := 4) (own := [("_law_k", 5)]) (g := gName 5) (tt := tYes) rfl scLv.nd rfl rfl (sw_true rfl rfl rfl (by decide +kernel)) (pi_range1 (by rfl) mR (pa_cons (pe_call GD hr1 rfl gD kD bD .nil pass0 (pa_cons (pv 0) (pa_cons pe_int pa_nil))) pa_nil)) (blkOk_by (own := [("_law_k", 5)]) (N := ["_law_well_here", "_law_deep", "_law_dim", "_law_way", "_law_some", "_law_k", "_law_value_here"]) (sc := (defScope sLVal)) (by decide +kernel)) (fun _ _ _ _ _ => pg_name (i := 5) scLv.nd rfl (Or.inl rfl)) (fun _ _ _ _ _ => pts_nil) (fun _ _ _ _ _ => (pe_call GK hr rfl gK kK bK .nil pass0 (pa_cons (pv 0) (pa_cons (pe_op op_sub (pv 1) pe_int) (pa_cons (pv 2) pa_nil))))))
      (pss_cons (ps_if (pt_cmpR op_eq (pv 3) pe_int (nomark _)) (pss_one (ps_ret (pe_callTy call_tuple_of (by rfl) T.tuple (by decide +kernel) (pa_cons (pv 4) pa_nil)))) pss_nil)
      (pss_one (ps_ret (pe_callTy (call_dictP rfl) (by rfl) T.dict (by decide +kernel) (pa_cons (pe_lc (own := [("_law_k", 5), ("_law_value_here", 6)]) (g := gTup K 2 (gCons (gName 5) (gCons (gName 6) gNil))) (tt := tYes) (te := tTup (tCons (tOp (rIxL K) (tLst (tCons (tC (.str "a")) (tCons (tC (.str "b")) (tCons (tC (.str "c")) tNil)))) (tVar 5)) (tCons (tVar 6) tNil))) rfl scLv.nd (pi_enum (by rfl) mE (pa_cons (pv 4) pa_nil)) (blkOk_by (own := [("_law_k", 5), ("_law_value_here", 6)]) (N := ["_law_well_here", "_law_deep", "_law_dim", "_law_way", "_law_some", "_law_k", "_law_value_here"]) (sc := (defScope sLVal)) (by decide +kernel)) (fun _ _ _ _ _ => (pg_tup rfl (pgs_cons (pg_name (i := 5) scLv.nd rfl (Or.inl rfl)) (pgs_cons (pg_name (i := 6) scLv.nd rfl (Or.inl rfl)) pgs_nil)))) (fun _ _ _ _ _ => pts_nil) (fun _ _ _ _ _ => (pe_tup (pa_cons (pe_ix ix_list (pe_lst (pa_cons pe_str (pa_cons pe_str (pa_cons pe_str pa_nil)))) (pv 5) (fun _ _ => rfl)) (pa_cons (pv 6) pa_nil))))) pa_nil)))))))))))), ?_⟩
  refine ⟨_, rfl, w, a, b, c, 10, rfl, W, by omega, by decide, by decide, fun x1 a1 c1 H1 x10 x19 hc1 W1 B1 => ⟨_, rfl, _, _, rfl, rfl, _, rfl, ite2 (fun h0 => ?_) (fun h0 => ?_)⟩⟩
  · intro p dx h1 h2 h3
    have n1 : Same H1 (upd (upd H1 dx (.own p)) p (.ins CU dx [])) := (same_new h2).trans (same_new (by rw [upd_ne (Ne.symm h3)]; exact h1))
    exact fin _ .unk a1 c1 _ (by omega) (W1.same n1) (B1.trans (But.of n1)) (.unk upd_same) (Nat.zero_le _)
  cases j with
  | zero =>
    refine ⟨_, rfl, _, rfl, _, _, rfl, rfl, _, rfl, iteF ?_⟩
    refine ⟨w, a1, b, c1, 6, rfl, W1, by omega, by decide, by decide, fun x2 a2 c2 H2 x20 x29 hc2 W2 B2' => ?_⟩
    have B2 := B1.trans B2'
    refine ⟨_, rfl, rfl, _, rfl, ?_⟩
    refine ite2 (fun w0 => ?_) (fun w0 => ?_)
    · refine ⟨_, rfl, rfl, rfl, (by show 4 ≤ sizeLine; decide), fun l hl => ?_⟩
      have nl : l ≠ w := fun z => by rw [z, W2.at_] at hl; cases hl
      refine ⟨w, l, a2, b, c2, _, rfl, W2.same (same_new hl), by omega, upd_same, nl, (by decide), (by decide), fun v a3 c3 H3 hv hc3 W3 B3 => ?_⟩
      have bb := B2.trans ((But.of (same_new hl)).trans B3)
      simp only [List.mem_cons, List.not_mem_nil, or_false] at hv
      rcases hv with rfl | rfl | rfl | rfl
      · exact fin _ .non a3 c3 H3 (by omega) W3 bb .non (Nat.zero_le _)
      · exact fin _ (.bl _) a3 c3 H3 (by omega) W3 bb (.bl _) (Nat.zero_le _)
      · exact fin _ (.bl _) a3 c3 H3 (by omega) W3 bb (.bl _) (Nat.zero_le _)
      · exact fin _ .non a3 c3 H3 (by omega) W3 bb .non (Nat.zero_le _)
    refine ⟨_, rfl, rfl, _, rfl, ?_⟩
    refine ite2 (fun w1 => ?_) (fun w1 => ?_)
    · exact ⟨_, rfl, w, a2, b, c2, 4, rfl, W2, by omega, by decide, by decide, fun x3 a3 c3 H3 _ _ hc3 W3 B3 => ⟨_, _, rfl, rfl, fin _ (.int _) a3 c3 H3 (by omega) W3 (B2.trans B3) (.int _) (Nat.zero_le _)⟩⟩
    refine ⟨_, rfl, _, _, rfl, rfl, _, rfl, ?_⟩
    refine ite2 (fun w3 => ?_) (fun w3 => ?_)
    · refine ⟨_, rfl, (by show 6 ≤ sizeLine; decide), fun l hl => ?_⟩
      have nl : l ≠ w := fun z => by rw [z, W2.at_] at hl; cases hl
      refine ⟨w, l, a2, b, c2, _, rfl, W2.same (same_new hl), by omega, upd_same, nl, (by decide), (by decide), fun v a3 c3 H3 hv hc3 W3 B3 => ?_⟩
      have bb := B2.trans ((But.of (same_new hl)).trans B3)
      simp only [List.mem_cons, List.not_mem_nil, or_false] at hv
      rcases hv with rfl | rfl | rfl | rfl | rfl | rfl <;> exact fin _ (.str _) a3 c3 H3 (by omega) W3 bb (.str _ ⟨by decide +kernel, by decide +kernel⟩) (Nat.zero_le _)
    refine ⟨_, rfl, _, _, rfl, rfl, _, rfl, ?_⟩
    refine ite2 (fun w5 => ?_) (fun w5 => ?_)
    · refine ⟨(by show 3 ≤ sizeLine; decide), fun t1 ht1 => ?_⟩
      have n1 := same_new (o := .tup [.str "#", .str "net", .int 1]) ht1
      have e1 := at_new (o := .tup [.str "#", .str "net", .int 1]) ht1
      generalize (upd H2 t1 (.tup [.str "#", .str "net", .int 1])) = G1 at n1 e1 ⊢
      refine ⟨(by show 3 ≤ sizeLine; decide), fun t2 ht2 => ?_⟩
      have n2 := same_new (o := .tup [.str "#", .str "net", .int 2]) ht2
      have e2 := at_new (o := .tup [.str "#", .str "net", .int 2]) ht2
      generalize (upd G1 t2 (.tup [.str "#", .str "net", .int 2])) = G2 at n2 e2 ⊢
      refine ⟨(by show 3 ≤ sizeLine; decide), fun t3 ht3 => ?_⟩
      have n3 := same_new (o := .tup [.str "#", .str "disk", .int 1]) ht3
      have e3 := at_new (o := .tup [.str "#", .str "disk", .int 1]) ht3
      generalize (upd G2 t3 (.tup [.str "#", .str "disk", .int 1])) = G3 at n3 e3 ⊢
      refine ⟨(by show 3 ≤ sizeLine; decide), fun t4 ht4 => ?_⟩
      have n4 := same_new (o := .tup [.str "#", .str "Net", .int 1]) ht4
      have e4 := at_new (o := .tup [.str "#", .str "Net", .int 1]) ht4
      generalize (upd G3 t4 (.tup [.str "#", .str "Net", .int 1])) = G4 at n4 e4 ⊢
      refine ⟨(by show 0 ≤ sizeLine; decide), fun t5 ht5 => ?_⟩
      have n5 := same_new (o := .tup []) ht5
      have e5 := at_new (o := .tup []) ht5
      generalize (upd G4 t5 (.tup [])) = G5 at n5 e5 ⊢
      refine ⟨(by show 5 ≤ sizeLine; decide), fun l hl => ?_⟩
      have n6 := same_new (o := .lst [.ref t1, .ref t2, .ref t3, .ref t4, .ref t5]) hl
      have e6 := at_new (o := .lst [.ref t1, .ref t2, .ref t3, .ref t4, .ref t5]) hl
      generalize (upd G5 l (.lst [.ref t1, .ref t2, .ref t3, .ref t4, .ref t5])) = G6 at n6 e6 ⊢
      refine ⟨_, rfl, _, rfl, (by show 3 ≤ sizeLine; decide), fun t7 ht7 => ?_⟩
      have n7 := same_new (o := .tup [.str "#", .str "n_", .int 1]) ht7
      have e7 := at_new (o := .tup [.str "#", .str "n_", .int 1]) ht7
      generalize (upd G6 t7 (.tup [.str "#", .str "n_", .int 1])) = G7 at n7 e7 ⊢
      refine ⟨(by show 1 ≤ sizeLine; decide), fun l8 hl8 => ?_⟩
      have n8 := same_new (o := .lst [.ref t7]) hl8
      have e8 := at_new (o := .lst [.ref t7]) hl8
      generalize (upd G7 l8 (.lst [.ref t7])) = G8 at n8 e8 ⊢
      refine ⟨l, l8, _, _, rfl, rfl, n8 _ _ (n7 _ _ e6), e8, (by show 6 ≤ sizeLine; decide), fun p hp => ?_⟩
      have n9 := same_new (o := .lst ([.ref t1, .ref t2, .ref t3, .ref t4, .ref t5] ++ [.ref t7])) hp
      have e9 := at_new (o := .lst ([.ref t1, .ref t2, .ref t3, .ref t4, .ref t5] ++ [.ref t7])) hp
      generalize (upd G8 p (.lst ([.ref t1, .ref t2, .ref t3, .ref t4, .ref t5] ++ [.ref t7]))) = G9 at n9 e9 ⊢
      have nt := (((((((n1.trans n2).trans n3).trans n4).trans n5).trans n6).trans n7).trans n8).trans n9
      have W9 := W2.same nt
      have nl : p ≠ w := fun z => by rw [z, (W2.same ((((((((n1.trans n2).trans n3).trans n4).trans n5).trans n6).trans n7).trans n8))).at_] at hp; cases hp
      have k8 := n8.trans n9
      have k7 := n7.trans k8
      have k6 := n6.trans k7
      have k5 := n5.trans k6
      have k4 := n4.trans k5
      have k3 := n3.trans k4
      have k2 := n2.trans k3
      refine ⟨w, p, a2, b, c2, _, rfl, W9, by omega, e9, nl, (by show 0 < 6; decide), (by show 6 < 1000; decide), fun v a3 c3 H3 hv hc3 W3 B3 => ?_⟩
      have bb := B2.trans ((But.of nt).trans B3)
      have kp : ∀ (t : Addr) (ys : List V), G9 t = some (.tup ys) → H3 t = some (.tup ys) := fun t ys e => B3 _ _ e (ne_of e W9.at_ (fun z => nomatch z))
      simp only [List.cons_append, List.nil_append, List.mem_cons, List.not_mem_nil, or_false] at hv
      rcases hv with rfl | rfl | rfl | rfl | rfl | rfl
      · exact fin _ _ a3 c3 H3 (by omega) W3 bb (rep_tag (kp _ _ (k2 _ _ e1)) ⟨by decide +kernel, by decide +kernel⟩ ⟨by decide +kernel, by decide +kernel⟩) (by decide)
      · exact fin _ _ a3 c3 H3 (by omega) W3 bb (rep_tag (kp _ _ (k3 _ _ e2)) ⟨by decide +kernel, by decide +kernel⟩ ⟨by decide +kernel, by decide +kernel⟩) (by decide)
      · exact fin _ _ a3 c3 H3 (by omega) W3 bb (rep_tag (kp _ _ (k4 _ _ e3)) ⟨by decide +kernel, by decide +kernel⟩ ⟨by decide +kernel, by decide +kernel⟩) (by decide)
      · exact fin _ _ a3 c3 H3 (by omega) W3 bb (rep_tag (kp _ _ (k5 _ _ e4)) ⟨by decide +kernel, by decide +kernel⟩ ⟨by decide +kernel, by decide +kernel⟩) (by decide)
      · exact fin _ _ a3 c3 H3 (by omega) W3 bb (rep_unit (kp _ _ (k6 _ _ e5))) (by decide)
      · exact fin _ _ a3 c3 H3 (by omega) W3 bb (rep_tag (kp _ _ (k8 _ _ e7)) ⟨by decide +kernel, by decide +kernel⟩ ⟨by decide +kernel, by decide +kernel⟩) (by decide)

    exact absurd (decide_eq_true (show x2 < 6 from x29)) w5
  | succ i =>
    refine ⟨_, rfl, _, rfl, _, _, rfl, rfl, _, rfl, ?_⟩
    have hd : (0 : Int) < ((i + 1 : Nat) : Int) := by omega
    rw [decide_eq_true hd]
    refine iteT ?_
    refine ⟨w, a1, b, c1, 8, rfl, W1, by omega, by decide, by decide, fun x2 a2 c2 H2 x20 x29 hc2 W2 B2' => ?_⟩
    have B2 := B1.trans B2'
    refine ⟨_, rfl, rfl, _, rfl, ?_⟩
    refine ite2 (fun w0 => ?_) (fun w0 => ?_)
    · refine ⟨_, rfl, rfl, rfl, (by show 4 ≤ sizeLine; decide), fun l hl => ?_⟩
      have nl : l ≠ w := fun z => by rw [z, W2.at_] at hl; cases hl
      refine ⟨w, l, a2, b, c2, _, rfl, W2.same (same_new hl), by omega, upd_same, nl, (by decide), (by decide), fun v a3 c3 H3 hv hc3 W3 B3 => ?_⟩
      have bb := B2.trans ((But.of (same_new hl)).trans B3)
      simp only [List.mem_cons, List.not_mem_nil, or_false] at hv
      rcases hv with rfl | rfl | rfl | rfl
      · exact fin _ .non a3 c3 H3 (by omega) W3 bb .non (Nat.zero_le _)
      · exact fin _ (.bl _) a3 c3 H3 (by omega) W3 bb (.bl _) (Nat.zero_le _)
      · exact fin _ (.bl _) a3 c3 H3 (by omega) W3 bb (.bl _) (Nat.zero_le _)
      · exact fin _ .non a3 c3 H3 (by omega) W3 bb .non (Nat.zero_le _)
    refine ⟨_, rfl, rfl, _, rfl, ?_⟩
    refine ite2 (fun w1 => ?_) (fun w1 => ?_)
    · exact ⟨_, rfl, w, a2, b, c2, 4, rfl, W2, by omega, by decide, by decide, fun x3 a3 c3 H3 _ _ hc3 W3 B3 => ⟨_, _, rfl, rfl, fin _ (.int _) a3 c3 H3 (by omega) W3 (B2.trans B3) (.int _) (Nat.zero_le _)⟩⟩
    refine ⟨_, rfl, _, _, rfl, rfl, _, rfl, ?_⟩
    refine ite2 (fun w3 => ?_) (fun w3 => ?_)
    · refine ⟨_, rfl, (by show 6 ≤ sizeLine; decide), fun l hl => ?_⟩
      have nl : l ≠ w := fun z => by rw [z, W2.at_] at hl; cases hl
      refine ⟨w, l, a2, b, c2, _, rfl, W2.same (same_new hl), by omega, upd_same, nl, (by decide), (by decide), fun v a3 c3 H3 hv hc3 W3 B3 => ?_⟩
      have bb := B2.trans ((But.of (same_new hl)).trans B3)
      simp only [List.mem_cons, List.not_mem_nil, or_false] at hv
      rcases hv with rfl | rfl | rfl | rfl | rfl | rfl <;> exact fin _ (.str _) a3 c3 H3 (by omega) W3 bb (.str _ ⟨by decide +kernel, by decide +kernel⟩) (Nat.zero_le _)
    refine ⟨_, rfl, _, _, rfl, rfl, _, rfl, ?_⟩
    refine ite2 (fun w5 => ?_) (fun w5 => ?_)
    · refine ⟨(by show 3 ≤ sizeLine; decide), fun t1 ht1 => ?_⟩
      have n1 := same_new (o := .tup [.str "#", .str "net", .int 1]) ht1
      have e1 := at_new (o := .tup [.str "#", .str "net", .int 1]) ht1
      generalize (upd H2 t1 (.tup [.str "#", .str "net", .int 1])) = G1 at n1 e1 ⊢
      refine ⟨(by show 3 ≤ sizeLine; decide), fun t2 ht2 => ?_⟩
      have n2 := same_new (o := .tup [.str "#", .str "net", .int 2]) ht2
      have e2 := at_new (o := .tup [.str "#", .str "net", .int 2]) ht2
      generalize (upd G1 t2 (.tup [.str "#", .str "net", .int 2])) = G2 at n2 e2 ⊢
      refine ⟨(by show 3 ≤ sizeLine; decide), fun t3 ht3 => ?_⟩
      have n3 := same_new (o := .tup [.str "#", .str "disk", .int 1]) ht3
      have e3 := at_new (o := .tup [.str "#", .str "disk", .int 1]) ht3
      generalize (upd G2 t3 (.tup [.str "#", .str "disk", .int 1])) = G3 at n3 e3 ⊢
      refine ⟨(by show 3 ≤ sizeLine; decide), fun t4 ht4 => ?_⟩
      have n4 := same_new (o := .tup [.str "#", .str "Net", .int 1]) ht4
      have e4 := at_new (o := .tup [.str "#", .str "Net", .int 1]) ht4
      generalize (upd G3 t4 (.tup [.str "#", .str "Net", .int 1])) = G4 at n4 e4 ⊢
      refine ⟨(by show 0 ≤ sizeLine; decide), fun t5 ht5 => ?_⟩
      have n5 := same_new (o := .tup []) ht5
      have e5 := at_new (o := .tup []) ht5
      generalize (upd G4 t5 (.tup [])) = G5 at n5 e5 ⊢
      refine ⟨(by show 5 ≤ sizeLine; decide), fun l hl => ?_⟩
      have n6 := same_new (o := .lst [.ref t1, .ref t2, .ref t3, .ref t4, .ref t5]) hl
      have e6 := at_new (o := .lst [.ref t1, .ref t2, .ref t3, .ref t4, .ref t5]) hl
      generalize (upd G5 l (.lst [.ref t1, .ref t2, .ref t3, .ref t4, .ref t5])) = G6 at n6 e6 ⊢
      refine ⟨_, rfl, _, rfl, (by show 3 ≤ sizeLine; decide), fun t7 ht7 => ?_⟩
      have n7 := same_new (o := .tup [.str "#", .str "n_", .int 1]) ht7
      have e7 := at_new (o := .tup [.str "#", .str "n_", .int 1]) ht7
      generalize (upd G6 t7 (.tup [.str "#", .str "n_", .int 1])) = G7 at n7 e7 ⊢
      refine ⟨(by show 1 ≤ sizeLine; decide), fun l8 hl8 => ?_⟩
      have n8 := same_new (o := .lst [.ref t7]) hl8
      have e8 := at_new (o := .lst [.ref t7]) hl8
      generalize (upd G7 l8 (.lst [.ref t7])) = G8 at n8 e8 ⊢
      refine ⟨l, l8, _, _, rfl, rfl, n8 _ _ (n7 _ _ e6), e8, (by show 6 ≤ sizeLine; decide), fun p hp => ?_⟩
      have n9 := same_new (o := .lst ([.ref t1, .ref t2, .ref t3, .ref t4, .ref t5] ++ [.ref t7])) hp
      have e9 := at_new (o := .lst ([.ref t1, .ref t2, .ref t3, .ref t4, .ref t5] ++ [.ref t7])) hp
      generalize (upd G8 p (.lst ([.ref t1, .ref t2, .ref t3, .ref t4, .ref t5] ++ [.ref t7]))) = G9 at n9 e9 ⊢
      have nt := (((((((n1.trans n2).trans n3).trans n4).trans n5).trans n6).trans n7).trans n8).trans n9
      have W9 := W2.same nt
      have nl : p ≠ w := fun z => by rw [z, (W2.same ((((((((n1.trans n2).trans n3).trans n4).trans n5).trans n6).trans n7).trans n8))).at_] at hp; cases hp
      have k8 := n8.trans n9
      have k7 := n7.trans k8
      have k6 := n6.trans k7
      have k5 := n5.trans k6
      have k4 := n4.trans k5
      have k3 := n3.trans k4
      have k2 := n2.trans k3
      refine ⟨w, p, a2, b, c2, _, rfl, W9, by omega, e9, nl, (by show 0 < 6; decide), (by show 6 < 1000; decide), fun v a3 c3 H3 hv hc3 W3 B3 => ?_⟩
      have bb := B2.trans ((But.of nt).trans B3)
      have kp : ∀ (t : Addr) (ys : List V), G9 t = some (.tup ys) → H3 t = some (.tup ys) := fun t ys e => B3 _ _ e (ne_of e W9.at_ (fun z => nomatch z))
      simp only [List.cons_append, List.nil_append, List.mem_cons, List.not_mem_nil, or_false] at hv
      rcases hv with rfl | rfl | rfl | rfl | rfl | rfl
      · exact fin _ _ a3 c3 H3 (by omega) W3 bb (rep_tag (kp _ _ (k2 _ _ e1)) ⟨by decide +kernel, by decide +kernel⟩ ⟨by decide +kernel, by decide +kernel⟩) (by decide)
      · exact fin _ _ a3 c3 H3 (by omega) W3 bb (rep_tag (kp _ _ (k3 _ _ e2)) ⟨by decide +kernel, by decide +kernel⟩ ⟨by decide +kernel, by decide +kernel⟩) (by decide)
      · exact fin _ _ a3 c3 H3 (by omega) W3 bb (rep_tag (kp _ _ (k4 _ _ e3)) ⟨by decide +kernel, by decide +kernel⟩ ⟨by decide +kernel, by decide +kernel⟩) (by decide)
      · exact fin _ _ a3 c3 H3 (by omega) W3 bb (rep_tag (kp _ _ (k5 _ _ e4)) ⟨by decide +kernel, by decide +kernel⟩ ⟨by decide +kernel, by decide +kernel⟩) (by decide)
      · exact fin _ _ a3 c3 H3 (by omega) W3 bb (rep_unit (kp _ _ (k6 _ _ e5))) (by decide)
      · exact fin _ _ a3 c3 H3 (by omega) W3 bb (rep_tag (kp _ _ (k8 _ _ e7)) ⟨by decide +kernel, by decide +kernel⟩ ⟨by decide +kernel, by decide +kernel⟩) (by decide)

    have p4 := pow4 i
    have e4 : (4 : Int) ^ (i + 1 + 1) = 4 ^ (i + 1) * 4 := Int.pow_succ _ _
    rw [e4] at hc kk
    generalize hP : (4 : Int) ^ (i + 1) = P4 at p4 hc kk
    refine ⟨_, rfl, w, a2, b, c2, 4, rfl, W2, by omega, by decide, by decide, fun x3 a3 c3 H3 x30 x31 hc3 W3 B3' => ⟨x3, rfl, by omega, by omega, fun D hD => ?_⟩⟩
    have B3 := B2.trans B3'
    have nDw : D ≠ w := Ne.symm (ne_of_none W3.at_ hD)
    have hm3 : (x3.toNat : Int) * P4 ≤ 3 * P4 := Int.mul_le_mul_of_nonneg_right (by omega) (by omega)
    refine lc_it walk_range (fun i' H' => But w H3 H' ∧ ∃ a' c', Well H' w a' b c' ∧ c' ≤ c3 + (i' : Int) * P4 ∧ ∃ acc ds, H' D = some (.lst acc) ∧ acc.length = i' ∧ Its CU H' acc ds ∧ ∀ d ∈ ds, dep d ≤ i + 1) ?_ (fun _ _ _ _ => trivial) ?_ ?_
    · exact ⟨But.of (same_new hD), a3, c3, W3.same (same_new hD), by omega, [], [], upd_same, rfl, ⟨rfl, fun i v d h _ => nomatch h⟩, fun d h => nomatch h⟩
    · rintro i' x Ha Hb hi ⟨Bu, a', c', Wl, hcl, acc, ds, hD', hla, hI, hdp⟩ ⟨rfl, rfl⟩
      have hi3 : (i' : Int) * P4 ≤ 2 * P4 := Int.mul_le_mul_of_nonneg_right (by omega) (by omega)
      refine ⟨rfl, yes_i ⟨_, rfl, _, rfl, _, _, rfl, rfl, _, rfl, w, a', b, c', dim, ?_, Wl, by rw [hP]; omega, fun r d a'' c'' H'' hc'' W'' B'' R'' hd'' => ?_⟩⟩
      · show [V.ref w, V.int (((i + 1 : Nat) : Int) - 1), V.int dim] = [V.ref w, V.int i, V.int dim]
        rw [show (((i + 1 : Nat) : Int) - 1) = (i : Int) from by omega]
      rw [hP] at hc''
      have hDD := B'' _ _ hD' nDw
      refine ⟨acc, hDD, small1000 (by omega), fun q o e nq => ?_, a'', c'', ⟨by rw [upd_ne (Ne.symm nDw)]; exact W''.at_, W''.b0, W''.b1, W''.c0, W''.c1⟩, ?_, acc ++ [r], ds ++ [d], upd_same, by rw [List.length_append, hla]; rfl, ?_, fun d' hd' => ?_⟩
      · rw [upd_ne (ne_of_none e hD)]
        exact B'' _ _ (Bu _ _ e nq) nq
      · rw [show ((i' + 1 : Nat) : Int) = (i' : Int) + 1 from by omega, Int.add_mul]
        omega
      · exact (((hI.mono fun v d h => Wl.rep B'' h).snoc R'').mono fun v d h => h.but But.upd hDD tr_lst)
      · rcases List.mem_append.mp hd' with h | h
        · exact hdp d' h
        · rw [List.mem_singleton.mp h]
          exact hd''
    rintro H4 ⟨Bu, a4, c4, W4, hc4, acc, ds, hD4, hla, hI, hdp⟩
    have B4 := B3.trans Bu
    have hln : acc.length ≤ 3 := by omega
    have hdl : depL ds ≤ i + 1 := depL_le hdp
    refine ⟨_, rfl, rfl, _, rfl, ?_⟩
    refine ite2 (fun w6 => ?_) (fun w6 => ?_)
    · refine ⟨_, rfl, D, acc, rfl, .inl ⟨SqL.of hD4, fun l hl => ?_⟩⟩
      exact kk _ (.tup ds) a4 c4 _ (by omega) (W4.same (same_new hl)) (B4.trans (But.of (same_new hl))) (rep_its upd_same (hI.mono fun v d h => h.same (same_new hl)) (by rw [← hI.1]; omega)) (by rw [dep]; omega)
    refine ⟨_, rfl, D, acc, rfl, SqL.of hD4, fun D2 hD2 => ?_⟩
    refine lc_rel walk_enum hD2 (small1000 (by omega)) (fun i H' v => ∃ t k x, v = .ref t ∧ abc[i]? = some k ∧ acc[i]? = some x ∧ H' t = some (.tup [.str k, x]))
      (fun i H H' v m ⟨t, k, x, e, h1, h2, h3⟩ => ⟨t, k, x, e, h1, h2, m _ _ h3⟩)
      (fun i H H' v l bu hl ⟨t, k, x, e, h1, h2, h3⟩ => ⟨t, k, x, e, h1, h2, bu _ _ h3 (ne_of h3 hl (fun z => nomatch z))⟩)
      (fun H' m => SqL.of (m _ _ hD4)) (fun i' x H6 H7 hi m hy N hN => ?_) mono_pair (fun H5 zs m f hlz hR => ?_)
    · obtain ⟨t, x1, y1, rfl, ht, rfl, ex, ey⟩ := hy
      cases ex
      have hi' : i' < abc.length := by show i' < 3; omega
      have ek : abc[i']? = some abc[i'] := List.getElem?_eq_getElem hi'
      have ak : atI [V.str "a", .str "b", .str "c"] (i' : Int) = some (.str abc[i']) := by
        refine atI_nat ?_
        show (abc.map V.str)[i']? = _
        rw [List.getElem?_map, ek]
        rfl
      refine ⟨t, _, rfl, SqT.of upd_same, rfl, _, _, rfl, _, _, rfl, rfl, rfl, (by show 3 ≤ sizeLine; decide), fun l hl => ⟨_, rfl, l, _, _, _, rfl, rfl, SqL.of upd_same, ak, _, rfl, (by show 2 ≤ sizeLine; decide), fun t2 ht2 => ?_⟩⟩
      exact hN _ _ (((same_new ht).trans (same_new hl)).trans (same_new ht2)) ⟨t2, _, _, rfl, ek, ey, upd_same⟩
    · obtain ⟨ts, rfl⟩ := refs_of fun i v e => let ⟨t, _, _, h, _⟩ := hR i v e; ⟨t, h⟩
      rw [List.length_map] at hlz
      have lk : (abc.take acc.length).length = acc.length := by
        rw [List.length_take]
        exact Nat.min_eq_left hln
      have ndk : (abc.take acc.length).Nodup := List.Nodup.sublist (List.take_sublist _ _) (by decide +kernel)
      refine ⟨D2, ts, mkv (abc.take acc.length) acc, rfl, SqL.of f, paired_of (by rw [mkv_length lk, lk]; exact hlz) (fun q t kv ht hkv => ?_), fun p hp => ?_⟩
      · obtain ⟨t', k, x, et, ek, ex, eo⟩ := hR q (.ref t) (by rw [List.getElem?_map, ht]; rfl)
        cases et
        obtain ⟨k0, v0⟩ := kv
        obtain ⟨k', ek', rfl, ev'⟩ := mkv_get hkv
        rw [ex] at ev'
        cases ev'
        have hq : q < acc.length := (List.getElem?_eq_some_iff.mp ex).1
        rw [List.getElem?_take_of_lt hq, ek] at ek'
        cases ek'
        exact SqT.of eo
      · have em := merge_nd (abc.take acc.length) acc [] lk ndk (fun _ _ p hp => nomatch hp)
        rw [List.nil_append] at em
        rw [em]
        have n5 := m.trans (same_new (o := .dK (mkv (abc.take acc.length) acc)) hp)
        refine kk _ (.map (abc.take acc.length) ds) a4 c4 _ (by omega) (W4.same n5) (B4.trans (But.of n5)) (.map upd_same hI.1 (lk.trans hI.1) (by rw [← hI.1]; omega) ndk (fun k hk => ?_) (fun i v d h1 h2 => (hI.2 i v d h1 h2).same n5)) (by rw [dep]; omega)
        have : ∀ k ∈ abc, TxOk k := by
          intro k hk
          simp only [abc, List.mem_cons, List.not_mem_nil, or_false] at hk
          rcases hk with rfl | rfl | rfl <;> exact ⟨by decide +kernel, by decide +kernel⟩
        exact this k (List.mem_of_mem_take hk)
end
end K01

namespace K01
open PySem L2 XR VT
abbrev sLTurn : Stmt := top 25
def spTurn (CU : Addr) (n : Nat) : Sp := fun vs H Q _ => ∃ (w : Addr) (a b c dim : Int) (v : V) (d : D), vs = [.ref w, v, .int dim] ∧ Well H w a b c ∧ c + 20 * 61 ^ n < 1000000000000000 ∧ Rep CU H v d ∧ dep d < n ∧
      ∀ (r : V) (d' : D) (a' c' : Int) (H' : Hp), c' ≤ c + 20 * 61 ^ n → Well H' w a' b c' → But w H H' → Rep CU H' r d' → dep d' ≤ dep d + 2 → Q r H'
theorem spTurn_len {CU : Addr} {n : Nat} {vs : List V} {H : Hp} {Q : VK} {E : XK} (h : spTurn CU n vs H Q E) : vs.length = 3 := by
  obtain ⟨_, _, _, _, _, _, _, rfl, _⟩ := h
  rfl
theorem pow61 : ∀ n : Nat, (20 : Int) ≤ 20 * 61 ^ n
  | 0 => by decide
  | n + 1 => by
    have := pow61 n
    rw [Int.pow_succ]
    omega
section
variable {P : Program} {w : World} {K : PySem.W.Frag} {mg : Str → Option Value} {base : Heap} {CU : Addr}
theorem turn0 {k : Nat} {f : Addr} {fd : FuncData} : FnOk P w K mg base CX0 k f fd ["_law_well_here", "_law_value_here", "_law_dim"] (spTurn CU 0) := ⟨fun _ _ _ _ h => spTurn_len h, fun _ _ _ _ _ _ _ _ _ _ _ _ _ ⟨_, _, _, _, _, _, _, _, _, _, _, z, _⟩ => absurd z (Nat.not_lt_zero _)⟩
theorem scLtu : FnScope ["_law_well_here", "_law_value_here", "_law_dim", "_law_way", "_law_keys", "_law_part", "_law_key"] ["_law_well_here", "_law_value_here", "_law_dim"] (defScope sLTurn) := ⟨rfl, rfl, rfl, by decide +kernel, rfl, by decide +kernel, by decide +kernel⟩
theorem ok_turn {f fD fO fV fS : Addr} {fd dD dO dV dS : FuncData} {n k kV : Nat} (F : Fun K "_law_turned" "_law_turned" sLTurn f fd) (T : Txt K mg CU) (BU : Bare K mg "Unknown" CU)
    (GD : FnOk P w K mg base CX0 1 fD dD ["_law_well_here", "_law_below"] spDraw) (gD : mg "_law_draw" = some (.ref fD)) (kD : PySem.W.keepIn K (.ref fD) = true) (bD : Binds K dD ["_law_well_here", "_law_below"] [])
    (GO : FnOk P w K mg base CX0 2 fO dO ["_law_well_here", "_law_some"] (spOne K)) (gO : mg "_law_one" = some (.ref fO)) (kO : PySem.W.keepIn K (.ref fO) = true) (bO : Binds K dO ["_law_well_here", "_law_some"] [])
    (GS : FnOk P w K mg base CX0 2 fS dS ["_law_value_here"] (spD CU fun d => .str (lsort d))) (gS : mg "_law_sort" = some (.ref fS)) (kS : PySem.W.keepIn K (.ref fS) = true) (bS : Binds K dS ["_law_value_here"] [])
    (GV : FnOk P w K mg base CX0 4 fV dV ["_law_well_here", "_law_deep", "_law_dim"] (spVal CU 2)) (gV : mg "_law_value" = some (.ref fV)) (kV : PySem.W.keepIn K (.ref fV) = true) (bV : Binds K dV ["_law_well_here", "_law_deep", "_law_dim"] [])
    (gK : mg "_law_turned" = some (.ref f)) (bK : Binds K fd ["_law_well_here", "_law_value_here", "_law_dim"] []) (hk : 4 ≤ k) (GK : FnOk P w K mg base CX0 k f fd ["_law_well_here", "_law_value_here", "_law_dim"] (spTurn CU n)) :
    FnOk P w K mg base CX0 (k + 1) f fd ["_law_well_here", "_law_value_here", "_law_dim"] (spTurn CU (n + 1)) := by
  have kK := F.kp
  refine F.ok scLtu (fun vs H Q E h => spTurn_len h) (fun cdv A outer s H vs Q E hr h => ?_)
  obtain ⟨w, a, b, c, dim, v, d, rfl, W, hc, hd, hn, kk⟩ := h
  have hr1 : Room 1 _ := hr.mono (Nat.le_trans (by decide) hk)
  have hr2 : Room 2 _ := hr.mono (Nat.le_trans (by decide) hk)
  have hrV : Room 4 _ := hr.mono hk
  have hu := hu_of hr
  have p61 := pow61 n
  have e61 : (20 : Int) * 61 ^ (n + 1) = 20 * 61 ^ n * 61 := by rw [Int.pow_succ, ← Int.mul_assoc]
  rw [e61] at hc kk
  generalize hP : (20 : Int) * 61 ^ n = P61 at p61 hc kk
  refine ⟨_, (pss_cons (ps_set (i := 3) scLtu.nd rfl (Or.inl rfl) (pe_call GD hr1 rfl gD kD bD .nil pass0 (pa_cons (pv 0) (pa_cons pe_int pa_nil))))
      (pss_cons (ps_if (pt_cmpR op_lt (pv 3) (pv 2) (nomark _)) (pss_one (ps_ret (pe_bare BU rfl))) pss_nil)
      (pss_cons (ps_if (PW.pt (pw_or (pt_cmpR op_eq (pv 3) pe_int (nomark _)) (pw_or1 (pt_cmpR op_eq (pe_call GS hr2 rfl gS kS bS .nil pass0 (pa_cons (pv 1) pa_nil)) pe_str (nomark _))))) (pss_one (ps_ret (pe_call GV hrV rfl gV kV bV .nil pass0 (pa_cons (pv 0) (pa_cons pe_int (pa_cons pe_int pa_nil)))))) pss_nil)
      (pss_cons (ps_if (pt_cmpR op_eq (pe_call GS hr2 rfl gS kS bS .nil pass0 (pa_cons (pv 1) pa_nil)) pe_str (nomark _)) (pss_one (ps_ret (pe_callTy call_tuple_of (by rfl) T.tuple (by decide +kernel) (pa_cons (pe_lc (own := [("_law_part", 5)]) (g := gName 5) (tt := tYes) rfl scLtu.nd (pi_tup (pv 1)) (blkOk_by (own := [("_law_part", 5)]) (N := ["_law_well_here", "_law_value_here", "_law_dim", "_law_way", "_law_keys", "_law_part", "_law_key"]) (sc := (defScope sLTurn)) (by decide +kernel)) (fun _ _ _ _ _ => pg_name (i := 5) scLtu.nd rfl (Or.inl rfl)) (fun _ _ _ _ _ => pts_nil) (fun _ _ _ _ _ => (pe_call GK hr rfl gK kK bK .nil pass0 (pa_cons (pv 0) (pa_cons (pv 5) (pa_cons (pv 2) pa_nil)))))) pa_nil)))) pss_nil)
      (pss_cons (ps_if (pt_cmpR op_eq (pe_call GS hr2 rfl gS kS bS .nil pass0 (pa_cons (pv 1) pa_nil)) pe_str (nomark _)) (pss_cons (ps_set (i := 4) scLtu.nd rfl (Or.inl rfl) (pe_callB (call_sortedD rfl) (by rfl) T.sorted (by decide +kernel) (pa_cons (pv 1) pa_nil)))
        (pss_cons (ps_if (pt_cmpR op_eq (pe_call GD hr1 rfl gD kD bD .nil pass0 (pa_cons (pv 0) (pa_cons pe_int pa_nil))) pe_int (nomark _)) (pss_one (ps_expr (pe_bm0 PySem.F.plainAttrs_list PySem.F.slot_list_reverse PySem.F.type_list_reverse mt_reverse (pv 4)))) pss_nil)
        (pss_one (ps_ret (pe_callTy (call_dictP rfl) (by rfl) T.dict (by decide +kernel) (pa_cons (pe_lc (own := [("_law_key", 6)]) (g := gName 6) (tt := tYes) rfl scLtu.nd (pi_list (pv 4)) (blkOk_by (own := [("_law_key", 6)]) (N := ["_law_well_here", "_law_value_here", "_law_dim", "_law_way", "_law_keys", "_law_part", "_law_key"]) (sc := (defScope sLTurn)) (by decide +kernel)) (fun _ _ _ _ _ => pg_name (i := 6) scLtu.nd rfl (Or.inl rfl)) (fun _ _ _ _ _ => pts_nil) (fun _ _ _ _ _ => (pe_tup (pa_cons (pv 6) (pa_cons (pe_call GK hr rfl gK kK bK .nil pass0 (pa_cons (pv 0) (pa_cons (pe_dget hu (pv 1) (pv 6) (fun _ _ => rfl)) (pa_cons (pv 2) pa_nil)))) pa_nil))))) pa_nil)))))) pss_nil)
      (pss_cons (ps_if (pt_cmpR op_eq (pv 3) pe_int (nomark _)) (pss_one (ps_ret (pe_call GO hr2 rfl gO kO bO .nil pass0 (pa_cons (pv 0) (pa_cons (pe_lst (pa_cons pe_int (pa_cons (pe_cmpR op_eq pe_int pe_int (nomark _)) (pa_cons pe_str (pa_cons pe_int (pa_cons (pe_cmpR op_eq pe_int pe_int (nomark _)) (pa_cons pe_non pa_nil))))))) pa_nil))))) pss_nil)
      (pss_one (ps_ret (pv 1))))))))), ?_⟩
  refine ⟨_, rfl, w, a, b, c, 12, rfl, W, by omega, by decide, by decide, fun x1 a1 c1 H1 x10 x19 hc1 W1 B1 => ?_⟩
  have hd1 := W.rep B1 hd
  refine ⟨_, rfl, _, rfl, _, _, rfl, rfl, _, rfl, ite2 (fun h0 => ?_) (fun h0 => ?_)⟩
  · intro p dx h1 h2 h3
    have n1 : Same H1 (upd (upd H1 dx (.own p)) p (.ins CU dx [])) := (same_new h2).trans (same_new (by rw [upd_ne (Ne.symm h3)]; exact h1))
    exact kk _ .unk a1 c1 _ (by omega) (W1.same n1) (B1.trans (But.of n1)) (.unk upd_same) (Nat.zero_le _)
  have val : ∀ H2, Same H1 H2 → spVal CU 2 [.ref w, .int 1, .int 0] H2 Q E0 := fun H2 m => ⟨w, a1, b, c1, 0, rfl, W1.same m, by show c1 + 16 < _; omega, fun r d' a2 c2 H3 hc2 W2 B2 R2 hd2 => kk r d' a2 c2 H3 (by have : c2 ≤ c1 + 16 := hc2; omega) W2 (B1.trans ((But.of m).trans B2)) R2 (by have : dep d' ≤ 2 := hd2; omega)⟩
  refine ⟨_, rfl, rfl, _, rfl, ite2 (fun h11 => ?_) (fun h11 => ?_)⟩
  · exact iteT ⟨_, rfl, val H1 (fun _ _ z => z)⟩
  refine ⟨_, rfl, v, d, rfl, hd1, fun H2 m2 => ⟨rfl, _, rfl, ?_⟩⟩
  by_cases hu : isU d = true
  · have e : V.str (lsort d) = V.str "unknown" := by rw [(lsort_u d).mpr hu]
    rw [decide_eq_true e]
    exact iteT ⟨_, rfl, val H2 m2⟩
  have hu' : isU d = false := by simpa using hu
  have e : ¬ V.str (lsort d) = V.str "unknown" := fun z => hu ((lsort_u d).mp (V.str.inj z))
  rw [decide_eq_false e]
  refine iteF ?_
  have W2 := W1.same m2
  have B2 : But w H H2 := B1.trans (But.of m2)
  have hd2 := hd1.same m2
  refine ⟨_, rfl, v, d, rfl, hd2, fun H3 m3 => ⟨rfl, _, rfl, ?_⟩⟩
  have W3 := W2.same m3
  have B3 : But w H H3 := B2.trans (But.of m3)
  have hd3 := hd2.same m3
  by_cases et : sort d = "tuple"
  · have e1 : V.str (lsort d) = V.str "tuple" := by rw [lsort_eq hu', et]
    rw [decide_eq_true e1]
    refine iteT ?_
    obtain ⟨ds, rfl, ht⟩ := sort_tuple et
    cases hd3 with
    | @tup p xs _ h hl hz hs =>
    have npw : p ≠ w := ne_of h W3.at_ (fun z => nomatch z)
    have hdl : depL ds < n := by rw [dep] at hn; omega
    refine ⟨_, rfl, p, rfl, ⟨_, SqT.of h⟩, fun D hD => ?_⟩
    have nDw : D ≠ w := Ne.symm (ne_of_none W3.at_ hD)
    refine lc_it walk_tup (fun i' H' => But w H3 H' ∧ ∃ a' c', Well H' w a' b c' ∧ c' ≤ c1 + (i' : Int) * P61 ∧ ∃ acc ds', H' D = some (.lst acc) ∧ acc.length = i' ∧ Its CU H' acc ds' ∧ ∀ d ∈ ds', dep d ≤ depL ds + 2) ?_ (fun i' H' _ q' => SqT.of (q'.1 _ _ h npw)) ?_ ?_
    · exact ⟨But.of (same_new hD), a1, c1, W3.same (same_new hD), by omega, [], [], upd_same, rfl, ⟨rfl, fun i v d h _ => nomatch h⟩, fun d h => nomatch h⟩
    · rintro i' x Ha Hb hi ⟨Bu, a', c', Wl, hcl, acc, ds', hD', hla, hI, hdp⟩ ⟨rfl, hx⟩
      have hi3 : (i' : Int) * P61 ≤ 59 * P61 := Int.mul_le_mul_of_nonneg_right (by omega) (by omega)
      have dj : ds[i']? = some ds[i'] := List.getElem?_eq_getElem (by omega)
      refine ⟨rfl, yes_i ⟨_, rfl, _, rfl, _, rfl, w, a', b, c', dim, _, _, rfl, Wl, by rw [hP]; omega, W3.rep Bu (hs i' x _ hx dj), Nat.lt_of_le_of_lt (dep_mem (List.mem_of_getElem? dj)) hdl, fun r d' a'' c'' H'' hc'' W'' B'' R'' hd'' => ?_⟩⟩
      rw [hP] at hc''
      have hDD := B'' _ _ hD' nDw
      refine ⟨acc, hDD, small1000 (by omega), fun q o e nq => ?_, a'', c'', ⟨by rw [upd_ne (Ne.symm nDw)]; exact W''.at_, W''.b0, W''.b1, W''.c0, W''.c1⟩, ?_, acc ++ [r], ds' ++ [d'], upd_same, by rw [List.length_append, hla]; rfl, ?_, fun d2 hd2 => ?_⟩
      · rw [upd_ne (ne_of_none e hD)]
        exact B'' _ _ (Bu _ _ e nq) nq
      · rw [show ((i' + 1 : Nat) : Int) = (i' : Int) + 1 from by omega, Int.add_mul]
        omega
      · exact (((hI.mono fun v d h => Wl.rep B'' h).snoc R'').mono fun v d h => h.but But.upd hDD tr_lst)
      · rcases List.mem_append.mp hd2 with h | h
        · exact hdp d2 h
        · rw [List.mem_singleton.mp h]
          have := dep_mem (List.mem_of_getElem? dj)
          omega
    rintro H4 ⟨Bu, a4, c4, W4, hc4, acc, ds', hD4, hla, hI, hdp⟩
    have hm3 : (xs.length : Int) * P61 ≤ 60 * P61 := Int.mul_le_mul_of_nonneg_right (by omega) (by omega)
    refine ⟨D, acc, rfl, .inl ⟨SqL.of hD4, fun l hl' => ?_⟩⟩
    refine kk _ (.tup ds') a4 c4 _ (by omega) (W4.same (same_new hl')) (B3.trans (Bu.trans (But.of (same_new hl')))) (rep_its upd_same (hI.mono fun v d h => h.same (same_new hl')) (by rw [← hI.1]; omega)) ?_
    have := depL_le hdp
    rw [dep, dep]
    omega
  have e1 : ¬ V.str (lsort d) = V.str "tuple" := fun z => et (by have := V.str.inj z; rwa [lsort_eq hu'] at this)
  rw [decide_eq_false e1]
  refine iteF ?_
  refine ⟨_, rfl, v, d, rfl, hd3, fun H3' m3' => ⟨rfl, _, rfl, ?_⟩⟩
  have W3' := W3.same m3'
  have B3' : But w H H3' := B3.trans (But.of m3')
  have hd3' := hd3.same m3'
  by_cases em : sort d = "map"
  · have e2 : V.str (lsort d) = V.str "map" := by rw [lsort_eq hu', em]
    rw [decide_eq_true e2]
    refine iteT ?_
    obtain ⟨ks, ds, rfl⟩ := sort_map em
    cases hd3' with
    | @map p vs _ _ h hv hk' hz nd ko hs =>
    have npw : p ≠ w := ne_of h W3'.at_ (fun z => nomatch z)
    have hdl : depL ds < n := by rw [dep] at hn; omega
    refine ⟨_, rfl, p, _, ks, rfl, .inl h, mkv_keys (hk'.trans hv.symm), by omega, fun ys q py sy hq => ?_⟩
    have nq := same_new (o := .lst (ys.map V.str)) hq
    have fq0 := at_new (o := .lst (ys.map V.str)) hq
    have nqw : q ≠ w := Ne.symm (ne_of_none W3'.at_ hq)
    generalize (upd H3' q (.lst (ys.map V.str))) = H3q at nq fq0 ⊢
    refine ⟨_, rfl, w, a1, b, c1, 2, rfl, W3'.same nq, by omega, by decide, by decide, fun x4 a4 c4 H4 _ _ hc4 W4 B4' => ⟨rfl, _, rfl, ite2 (fun hz0 => ?_) (fun hz0 => ?_)⟩⟩
    · have fq4 := B4' _ _ fq0 nqw
      refine ⟨_, rfl, .inl ⟨rfl, _, SqL.of fq4⟩, q, _, rfl, rfl, fq4, ?_⟩
      have npq : p ≠ q := ne_of_none h hq
      have hp4 := B4' _ _ (nq _ _ h) npw
      have hs4 : ∀ (i : Nat) (v : V) (d : D), vs[i]? = some v → ds[i]? = some d → Rep CU H4 v d := fun i v d h1 h2 => (W3'.same nq).rep B4' ((hs i v d h1 h2).same nq)
      have b5 : But q H4 (upd H4 q (.lst (ys.map V.str).reverse)) := But.upd
      have fq : (upd H4 q (.lst (ys.map V.str).reverse)) q = some (.lst (ys.reverse.map V.str)) := by rw [upd_same, List.map_reverse]
      have hpq := b5 _ _ hp4 npq
      have hsq : ∀ (i : Nat) (v : V) (d : D), vs[i]? = some v → ds[i]? = some d → Rep CU (upd H4 q (.lst (ys.map V.str).reverse)) v d := fun i v d h1 h2 => (hs4 i v d h1 h2).but b5 fq4 tr_lst
      have Wq : Well (upd H4 q (.lst (ys.map V.str).reverse)) w a4 b c4 := ⟨b5 _ _ W4.at_ (Ne.symm nqw), W4.b0, W4.b1, W4.c0, W4.c1⟩
      have Bq : But w H (upd H4 q (.lst (ys.map V.str).reverse)) := fun t o e nt => by
        have e3 := B3' t o e nt
        rw [upd_ne (ne_of_none e3 hq)]
        exact B4' _ _ (nq _ _ e3) nt
      have pq : ys.reverse.Perm ks := (List.reverse_perm ys).trans py
      generalize (upd H4 q (.lst (ys.map V.str).reverse)) = H5 at fq hpq hsq Wq Bq ⊢
      generalize c4 = cq, a4 = aq at Wq hc4
      refine ⟨_, rfl, q, rfl, ⟨_, SqL.of fq⟩, fun D hD => ?_⟩
      have nDw : D ≠ w := Ne.symm (ne_of_none Wq.at_ hD)
      have hlq : ys.reverse.length ≤ 60 := by rw [pq.length_eq, hk']; exact hz
      refine lc_it walk_list (fun i' H' => But w H5 H' ∧ ∃ a' c', Well H' w a' b c' ∧ c' ≤ cq + (i' : Int) * P61 ∧ ∃ (ts : List Addr) (xs : List V) (ds' : List VT.D), H' D = some (.lst (ts.map V.ref)) ∧ ts.length = i' ∧ xs.length = i' ∧ Its CU H' xs ds' ∧ (∀ d ∈ ds', dep d ≤ depL ds + 2) ∧ ∀ (j : Nat) (t : Addr) (x : V), ts[j]? = some t → xs[j]? = some x → ∃ k, ys.reverse[j]? = some k ∧ H' t = some (.tup [.str k, x]))
        ?_ (fun i' H' _ q' => SqL.of (q'.1 _ _ fq nqw)) ?_ ?_
      · exact ⟨But.of (same_new hD), aq, cq, Wq.same (same_new hD), by omega, [], [], [], upd_same, rfl, rfl, ⟨rfl, fun i v d h _ => nomatch h⟩, fun d h => (nomatch h), fun j t x h _ => nomatch h⟩
      · rintro i' x Ha Hb hi ⟨Bu, a', c', Wl, hcl, ts, xs, ds', hD', hlt, hlx, hI, hdp, hT⟩ ⟨rfl, hx⟩
        rw [List.getElem?_map] at hx
        obtain ⟨key, hkey, rfl⟩ := Option.map_eq_some_iff.mp hx
        rw [List.length_map] at hi
        have hi3 : (i' : Int) * P61 ≤ 59 * P61 := Int.mul_le_mul_of_nonneg_right (by omega) (by omega)
        have hkm := pq.mem_iff.mp (List.mem_of_getElem? hkey)
        obtain ⟨jj, hj, ej⟩ := List.mem_iff_getElem.mp hkm
        have kj : ks[jj]? = some key := by rw [List.getElem?_eq_getElem hj, ej]
        have vj : vs[jj]? = some vs[jj] := List.getElem?_eq_getElem (by omega)
        have dj : ds[jj]? = some ds[jj] := List.getElem?_eq_getElem (by omega)
        have gp := Bu _ _ hpq npw
        refine ⟨rfl, yes_i ⟨_, rfl, _, rfl, _, rfl, _, rfl, p, _, rfl, .inl ⟨_, Sum.inr key, .inl gp, rfl, (mkv_val nd kj vj).symm⟩, _, rfl, w, a', b, c', dim, _, _, rfl, Wl, by rw [hP]; omega, Wq.rep Bu (hsq jj _ _ vj dj), Nat.lt_of_le_of_lt (dep_mem (List.mem_of_getElem? dj)) hdl, fun r d' a'' c'' H'' hc'' W'' B'' R'' hd'' => ?_⟩⟩
        rw [hP] at hc''
        refine ⟨(by show 2 ≤ sizeLine; decide), fun t ht => ?_⟩
        have hDD := B'' _ _ hD' nDw
        have nt := same_new (o := .tup [.str key, r]) ht
        have et := at_new (o := .tup [.str key, r]) ht
        generalize (upd H'' t (.tup [.str key, r])) = H6 at nt et ⊢
        have hD6 := nt _ _ hDD
        have W6 := W''.same nt
        have B6 : But w Hb H6 := B''.trans (But.of nt)
        refine ⟨_, hD6, by rw [List.length_map]; exact small1000 (by omega), fun q o e nq => ?_, a'', c'', ⟨by rw [upd_ne (Ne.symm nDw)]; exact W6.at_, W6.b0, W6.b1, W6.c0, W6.c1⟩, ?_, ts ++ [t], xs ++ [r], ds' ++ [d'], by rw [upd_same, List.map_append]; rfl, by rw [List.length_append, hlt]; rfl, by rw [List.length_append, hlx]; rfl, ?_, fun d2 hd2 => ?_, fun j t2 x2 h1 h2 => ?_⟩
        · rw [upd_ne (ne_of_none e hD)]
          exact B6 _ _ (Bu _ _ e nq) nq
        · rw [show ((i' + 1 : Nat) : Int) = (i' : Int) + 1 from by omega, Int.add_mul]
          omega
        · exact (((hI.mono fun v d h => (Wl.rep B'' h).same nt).snoc (R''.same nt)).mono fun v d h => h.but But.upd hD6 tr_lst)
        · rcases List.mem_append.mp hd2 with h | h
          · exact hdp d2 h
          · rw [List.mem_singleton.mp h]
            have := dep_mem (List.mem_of_getElem? dj)
            omega
        · by_cases hjl : j < ts.length
          · rw [List.getElem?_append_left hjl] at h1
            rw [List.getElem?_append_left (by omega)] at h2
            obtain ⟨k2, e1, e2⟩ := hT j t2 x2 h1 h2
            refine ⟨k2, e1, ?_⟩
            have e3 := B6 _ _ e2 (ne_of e2 Wl.at_ (fun z => nomatch z))
            rw [upd_ne (ne_of e3 hD6 (fun z => nomatch z))]
            exact e3
          · have hl2 := (List.getElem?_eq_some_iff.mp h1).1
            rw [List.length_append] at hl2
            have hl3 : j < ts.length + 1 := hl2
            have ej2 : j = ts.length := by omega
            subst ej2
            rw [List.getElem?_append_right (Nat.le_refl _), Nat.sub_self] at h1
            rw [show ts.length = xs.length from by omega, List.getElem?_append_right (Nat.le_refl _), Nat.sub_self] at h2
            cases h1
            cases h2
            refine ⟨key, by rw [hlt]; exact hkey, ?_⟩
            rw [upd_ne (ne_of et hD6 (fun z => nomatch z))]
            exact et
      rintro H4 ⟨Bu, a4, c4, W4, hc4, ts, xs, ds', hD4, hlt, hlx, hI, hdp, hT⟩
      rw [List.length_map] at hlt hlx hc4
      have hm3 : (ys.reverse.length : Int) * P61 ≤ 60 * P61 := Int.mul_le_mul_of_nonneg_right (by omega) (by omega)
      have ndk : ys.reverse.Nodup := pq.nodup_iff.mpr nd
      refine ⟨D, ts, mkv ys.reverse xs, rfl, SqL.of hD4, paired_of (by rw [mkv_length hlx.symm]; exact hlt) (fun j t kv ht hkv => ?_), fun p2 hp2 => ?_⟩
      · obtain ⟨k0, v0⟩ := kv
        obtain ⟨k', ek', rfl, ev'⟩ := mkv_get hkv
        obtain ⟨k2, e1, e2⟩ := hT j t v0 ht ev'
        rw [ek'] at e1
        cases e1
        exact SqT.of e2
      · have em := merge_nd ys.reverse xs [] hlx.symm ndk (fun _ _ p hp => nomatch hp)
        rw [List.nil_append] at em
        rw [em]
        have n5 := same_new (o := .dK (mkv ys.reverse xs)) hp2
        refine kk _ (.map ys.reverse ds') a4 c4 _ (by omega) (W4.same n5) (Bq.trans (Bu.trans (But.of n5))) (.map upd_same hI.1 (hlx.symm.trans hI.1) (by rw [← hI.1]; omega) ndk (fun k hk => ko k (pq.mem_iff.mp hk)) (fun i v d h1 h2 => (hI.2 i v d h1 h2).same n5)) ?_
        have := depL_le hdp
        rw [dep, dep]
        omega

    · have fq := B4' _ _ fq0 nqw
      have hpq := B4' _ _ (nq _ _ h) npw
      have hsq : ∀ (i : Nat) (v : V) (d : D), vs[i]? = some v → ds[i]? = some d → Rep CU H4 v d := fun i v d h1 h2 => (W3'.same nq).rep B4' ((hs i v d h1 h2).same nq)
      have Wq := W4
      have Bq : But w H H4 := B3'.trans ((But.of nq).trans B4')
      have pq := py
      generalize c4 = cq, a4 = aq at Wq hc4
      refine ⟨_, rfl, q, rfl, ⟨_, SqL.of fq⟩, fun D hD => ?_⟩
      have nDw : D ≠ w := Ne.symm (ne_of_none Wq.at_ hD)
      have hlq : ys.length ≤ 60 := by rw [pq.length_eq, hk']; exact hz
      refine lc_it walk_list (fun i' H' => But w H4 H' ∧ ∃ a' c', Well H' w a' b c' ∧ c' ≤ cq + (i' : Int) * P61 ∧ ∃ (ts : List Addr) (xs : List V) (ds' : List VT.D), H' D = some (.lst (ts.map V.ref)) ∧ ts.length = i' ∧ xs.length = i' ∧ Its CU H' xs ds' ∧ (∀ d ∈ ds', dep d ≤ depL ds + 2) ∧ ∀ (j : Nat) (t : Addr) (x : V), ts[j]? = some t → xs[j]? = some x → ∃ k, ys[j]? = some k ∧ H' t = some (.tup [.str k, x]))
        ?_ (fun i' H' _ q' => SqL.of (q'.1 _ _ fq nqw)) ?_ ?_
      · exact ⟨But.of (same_new hD), aq, cq, Wq.same (same_new hD), by omega, [], [], [], upd_same, rfl, rfl, ⟨rfl, fun i v d h _ => nomatch h⟩, fun d h => (nomatch h), fun j t x h _ => nomatch h⟩
      · rintro i' x Ha Hb hi ⟨Bu, a', c', Wl, hcl, ts, xs, ds', hD', hlt, hlx, hI, hdp, hT⟩ ⟨rfl, hx⟩
        rw [List.getElem?_map] at hx
        obtain ⟨key, hkey, rfl⟩ := Option.map_eq_some_iff.mp hx
        rw [List.length_map] at hi
        have hi3 : (i' : Int) * P61 ≤ 59 * P61 := Int.mul_le_mul_of_nonneg_right (by omega) (by omega)
        have hkm := pq.mem_iff.mp (List.mem_of_getElem? hkey)
        obtain ⟨jj, hj, ej⟩ := List.mem_iff_getElem.mp hkm
        have kj : ks[jj]? = some key := by rw [List.getElem?_eq_getElem hj, ej]
        have vj : vs[jj]? = some vs[jj] := List.getElem?_eq_getElem (by omega)
        have dj : ds[jj]? = some ds[jj] := List.getElem?_eq_getElem (by omega)
        have gp := Bu _ _ hpq npw
        refine ⟨rfl, yes_i ⟨_, rfl, _, rfl, _, rfl, _, rfl, p, _, rfl, .inl ⟨_, Sum.inr key, .inl gp, rfl, (mkv_val nd kj vj).symm⟩, _, rfl, w, a', b, c', dim, _, _, rfl, Wl, by rw [hP]; omega, Wq.rep Bu (hsq jj _ _ vj dj), Nat.lt_of_le_of_lt (dep_mem (List.mem_of_getElem? dj)) hdl, fun r d' a'' c'' H'' hc'' W'' B'' R'' hd'' => ?_⟩⟩
        rw [hP] at hc''
        refine ⟨(by show 2 ≤ sizeLine; decide), fun t ht => ?_⟩
        have hDD := B'' _ _ hD' nDw
        have nt := same_new (o := .tup [.str key, r]) ht
        have et := at_new (o := .tup [.str key, r]) ht
        generalize (upd H'' t (.tup [.str key, r])) = H6 at nt et ⊢
        have hD6 := nt _ _ hDD
        have W6 := W''.same nt
        have B6 : But w Hb H6 := B''.trans (But.of nt)
        refine ⟨_, hD6, by rw [List.length_map]; exact small1000 (by omega), fun q o e nq => ?_, a'', c'', ⟨by rw [upd_ne (Ne.symm nDw)]; exact W6.at_, W6.b0, W6.b1, W6.c0, W6.c1⟩, ?_, ts ++ [t], xs ++ [r], ds' ++ [d'], by rw [upd_same, List.map_append]; rfl, by rw [List.length_append, hlt]; rfl, by rw [List.length_append, hlx]; rfl, ?_, fun d2 hd2 => ?_, fun j t2 x2 h1 h2 => ?_⟩
        · rw [upd_ne (ne_of_none e hD)]
          exact B6 _ _ (Bu _ _ e nq) nq
        · rw [show ((i' + 1 : Nat) : Int) = (i' : Int) + 1 from by omega, Int.add_mul]
          omega
        · exact (((hI.mono fun v d h => (Wl.rep B'' h).same nt).snoc (R''.same nt)).mono fun v d h => h.but But.upd hD6 tr_lst)
        · rcases List.mem_append.mp hd2 with h | h
          · exact hdp d2 h
          · rw [List.mem_singleton.mp h]
            have := dep_mem (List.mem_of_getElem? dj)
            omega
        · by_cases hjl : j < ts.length
          · rw [List.getElem?_append_left hjl] at h1
            rw [List.getElem?_append_left (by omega)] at h2
            obtain ⟨k2, e1, e2⟩ := hT j t2 x2 h1 h2
            refine ⟨k2, e1, ?_⟩
            have e3 := B6 _ _ e2 (ne_of e2 Wl.at_ (fun z => nomatch z))
            rw [upd_ne (ne_of e3 hD6 (fun z => nomatch z))]
            exact e3
          · have hl2 := (List.getElem?_eq_some_iff.mp h1).1
            rw [List.length_append] at hl2
            have hl3 : j < ts.length + 1 := hl2
            have ej2 : j = ts.length := by omega
            subst ej2
            rw [List.getElem?_append_right (Nat.le_refl _), Nat.sub_self] at h1
            rw [show ts.length = xs.length from by omega, List.getElem?_append_right (Nat.le_refl _), Nat.sub_self] at h2
            cases h1
            cases h2
            refine ⟨key, by rw [hlt]; exact hkey, ?_⟩
            rw [upd_ne (ne_of et hD6 (fun z => nomatch z))]
            exact et
      rintro H4 ⟨Bu, a4, c4, W4, hc4, ts, xs, ds', hD4, hlt, hlx, hI, hdp, hT⟩
      rw [List.length_map] at hlt hlx hc4
      have hm3 : (ys.length : Int) * P61 ≤ 60 * P61 := Int.mul_le_mul_of_nonneg_right (by omega) (by omega)
      have ndk : ys.Nodup := pq.nodup_iff.mpr nd
      refine ⟨D, ts, mkv ys xs, rfl, SqL.of hD4, paired_of (by rw [mkv_length hlx.symm]; exact hlt) (fun j t kv ht hkv => ?_), fun p2 hp2 => ?_⟩
      · obtain ⟨k0, v0⟩ := kv
        obtain ⟨k', ek', rfl, ev'⟩ := mkv_get hkv
        obtain ⟨k2, e1, e2⟩ := hT j t v0 ht ev'
        rw [ek'] at e1
        cases e1
        exact SqT.of e2
      · have em := merge_nd ys xs [] hlx.symm ndk (fun _ _ p hp => nomatch hp)
        rw [List.nil_append] at em
        rw [em]
        have n5 := same_new (o := .dK (mkv ys xs)) hp2
        refine kk _ (.map ys ds') a4 c4 _ (by omega) (W4.same n5) (Bq.trans (Bu.trans (But.of n5))) (.map upd_same hI.1 (hlx.symm.trans hI.1) (by rw [← hI.1]; omega) ndk (fun k hk => ko k (pq.mem_iff.mp hk)) (fun i v d h1 h2 => (hI.2 i v d h1 h2).same n5)) ?_
        have := depL_le hdp
        rw [dep, dep]
        omega

  have e2 : ¬ V.str (lsort d) = V.str "map" := fun z => em (by have := V.str.inj z; rwa [lsort_eq hu'] at this)
  rw [decide_eq_false e2]
  refine iteF ?_
  refine ⟨_, rfl, rfl, _, rfl, ite2 (fun h10 => ?_) (fun h10 => ?_)⟩
  · refine ⟨_, rfl, rfl, rfl, (by show 6 ≤ sizeLine; decide), fun l hl => ?_⟩
    have nl : l ≠ w := fun z => by rw [z, W3'.at_] at hl; cases hl
    refine ⟨w, l, a1, b, c1, _, rfl, W3'.same (same_new hl), by omega, upd_same, nl, (by decide), (by decide), fun v a3 c3 H4 hv hc3 W4 B4 => ?_⟩
    have bb := B3'.trans ((But.of (same_new hl)).trans B4)
    simp only [List.mem_cons, List.not_mem_nil, or_false] at hv
    rcases hv with rfl | rfl | rfl | rfl | rfl | rfl
    · exact kk _ (.int _) a3 c3 H4 (by omega) W4 bb (.int _) (Nat.zero_le _)
    · exact kk _ (.bl _) a3 c3 H4 (by omega) W4 bb (.bl _) (Nat.zero_le _)
    · exact kk _ (.str _) a3 c3 H4 (by omega) W4 bb (.str _ ⟨by decide +kernel, by decide +kernel⟩) (Nat.zero_le _)
    · exact kk _ (.int _) a3 c3 H4 (by omega) W4 bb (.int _) (Nat.zero_le _)
    · exact kk _ (.bl _) a3 c3 H4 (by omega) W4 bb (.bl _) (Nat.zero_le _)
    · exact kk _ .non a3 c3 H4 (by omega) W4 bb .non (Nat.zero_le _)
  · exact ⟨_, rfl, kk _ d a1 c1 H3' (by omega) W3' B3' hd3' (by omega)⟩
end
end K01

namespace K01
open PySem L2 XR VT
abbrev sLaw : Stmt := top 27
def spLaw (K : PySem.W.Frag) : Sp := fun vs H Q _ => ∃ (a : Addr) (ns : List Int), vs = [.ref a] ∧ SqL K H a (ns.map V.int) ∧ ns.length ≤ 63 ∧ ∀ H', Q (.bl true) H'
theorem cut_ints {ns : List Int} {lo hi : Option Int} {y : V} (h : y ∈ cutV (ns.map V.int) lo hi) : ∃ z, y = .int z := by
  unfold cutV at h
  have h1 := List.mem_of_mem_take h
  have h2 := List.mem_of_mem_drop h1
  obtain ⟨z, _, e⟩ := List.mem_map.mp h2
  exact ⟨z, e.symm⟩
theorem same_upd2 {H : Hp} {p : Addr} {o o' : HO} (h : H p = none) : Same H (upd (upd H p o) p o') := fun b u e => by
  rw [upd_ne (ne_of_none e h), upd_ne (ne_of_none e h)]
  exact e
theorem at_upd2 {H : Hp} {p : Addr} {o o' : HO} (h : H p = none) : (upd (upd H p o) p o') p = some o' := upd_same
section
variable {P : Program} {w : World} {K : PySem.W.Frag} {mg : Str → Option Value} {base : Heap} {CU : Addr}
theorem nfirst (d : D) : PySem.W.notFirst K CU (tyD CU d) = true := by
  have key : ∀ t : String, PySem.W.subIn K (.type t) (.ref CU) = some false → PySem.W.notFirst K CU (.type t) = true := fun t h => by
    simp [PySem.W.notFirst, h]
  cases d with
  | unk => simp [PySem.W.notFirst, tyD]
  | non => exact key _ rfl
  | bl b => exact key _ rfl
  | int i => exact key _ rfl
  | str x => exact key _ rfl
  | tup l => exact key _ rfl
  | map ks ds => exact key _ rfl
theorem rep_a {H : Hp} {q : Addr} {v : V} {e : D} (h : H q = some (.dK (mergeK [] [(Sum.inr "a", v)]))) (r : Rep CU H v e) : Rep CU H (.ref q) (.map ["a"] [e]) := by
  have h' : H q = some (.dK (mkv ["a"] [v])) := h
  refine .map h' rfl rfl (by show 1 ≤ 60; decide) (List.nodup_cons.mpr ⟨List.not_mem_nil, List.nodup_nil⟩) (fun k hk => ?_) (fun i v' d' h1 h2 => ?_)
  · rw [List.mem_singleton.mp hk]
    exact ⟨by decide +kernel, by decide +kernel⟩
  · match i, h1, h2 with
    | 0, h1, h2 => cases h1; cases h2; exact r
theorem rep_1 {H : Hp} {q : Addr} {v : V} {e : D} (h : H q = some (.tup [v])) (r : Rep CU H v e) : Rep CU H (.ref q) (.tup [e]) := by
  refine .tup h rfl (by show 1 ≤ 60; decide) (fun i v' d' h1 h2 => ?_)
  match i, h1, h2 with
  | 0, h1, h2 => cases h1; cases h2; exact r
theorem sum_le {f : D → Nat} {B : Nat} : ∀ {l : List D}, (∀ d ∈ l, f d ≤ B) → (l.map f).sum ≤ l.length * B
  | [], _ => Nat.zero_le _
  | d :: l, h => by
    have h1 := h d List.mem_cons_self
    have h2 := sum_le (l := l) fun d hd => h d (List.mem_cons_of_mem _ hd)
    rw [List.map_cons, List.sum_cons, List.length_cons, Nat.add_mul]
    omega
theorem opn_le : ∀ (n : Nat) {H : Hp} {v : V} {d : D}, Rep CU H v d → opn n d ≤ 60 ^ n
  | 0, _, _, _, _ => Nat.zero_le _
  | n + 1, H, v, d, h => by
    have key : ∀ (xs : List V) (l : List D), xs.length = l.length → l.length ≤ 60 → (∀ (i : Nat) (v : V) (d : D), xs[i]? = some v → l[i]? = some d → Rep CU H v d) → (l.map (opn n)).sum ≤ 60 ^ (n + 1) := fun xs l hl hz hs => by
      refine Nat.le_trans (sum_le (B := 60 ^ n) fun d hd => ?_) ?_
      · obtain ⟨i, hi, rfl⟩ := List.mem_iff_getElem.mp hd
        exact opn_le n (hs i xs[i] _ (List.getElem?_eq_getElem (by omega)) (List.getElem?_eq_getElem hi))
      · rw [Nat.pow_succ, Nat.mul_comm]
        exact Nat.mul_le_mul_left _ hz
    have one : 1 ≤ 60 ^ (n + 1) := Nat.one_le_pow _ _ (by decide)
    cases h with
    | @tup a xs ds h hl hz hs =>
      show (if isTag ds then 0 else (ds.map (opn n)).sum) ≤ _
      split
      · exact Nat.zero_le _
      · exact key xs ds hl hz hs
    | @map a vs ks ds h hv hk hz nd ko hs => exact key vs ds hv hz hs
    | unk h => exact one
    | _ => exact Nat.zero_le _
theorem opn_log {H : Hp} {v : V} {d : D} (h : Rep CU H v d) : ((opn 9 d : Nat) : Int).natAbs.log2 < 1920 := by
  rw [Int.natAbs_natCast]
  by_cases z : opn 9 d = 0
  · rw [z]; decide
  · have h1 := opn_le 9 h
    have h2 : opn 9 d < 2 ^ 60 := Nat.lt_of_le_of_lt h1 (by decide)
    exact Nat.lt_trans ((Nat.log2_lt z).mpr h2) (by decide)
theorem scLw : FnScope ["_law_script", "_law_cell", "_law_well_here", "_law_one_here", "_law_other", "_law_turn", "_law_is_map", "_law_kept", "_law_its"] ["_law_script"] (defScope sLaw) := ⟨rfl, rfl, rfl, by decide +kernel, rfl, by decide +kernel, by decide +kernel⟩
theorem ok_law {f fW fD fV fT fO fR fS fU : Addr} {fd dW dD dV dT dO dR dS dU : FuncData} (F : Fun K "law" "law" sLaw f fd) (T : Txt K mg CU) (BU : Bare K mg "Unknown" CU) (U : UCls K CU fU) (mR : mg "range" = none) (mP : mg "repr" = none)
    (GU : FnOk P w K mg base CX0 1 fU dU ["self", "other"] (spIsC K CU)) (bU : Binds K dU ["self", "other"] [])
    (GW : FnOk P w K mg base CX0 1 fW dW ["_law_cell"] spWell) (gW : mg "_law_well" = some (.ref fW)) (kW : PySem.W.keepIn K (.ref fW) = true) (bW : Binds K dW ["_law_cell"] [])
    (GD : FnOk P w K mg base CX0 1 fD dD ["_law_well_here", "_law_below"] spDraw) (gD : mg "_law_draw" = some (.ref fD)) (kD : PySem.W.keepIn K (.ref fD) = true) (bD : Binds K dD ["_law_well_here", "_law_below"] [])
    (GV : FnOk P w K mg base CX0 6 fV dV ["_law_well_here", "_law_deep", "_law_dim"] (spVal CU 4)) (gV : mg "_law_value" = some (.ref fV)) (kV : PySem.W.keepIn K (.ref fV) = true) (bV : Binds K dV ["_law_well_here", "_law_deep", "_law_dim"] [])
    (GT : FnOk P w K mg base CX0 9 fT dT ["_law_well_here", "_law_value_here", "_law_dim"] (spTurn CU 5)) (gT : mg "_law_turned" = some (.ref fT)) (kT : PySem.W.keepIn K (.ref fT) = true) (bT : Binds K dT ["_law_well_here", "_law_value_here", "_law_dim"] [])
    (GO : FnOk P w K mg base CX0 13 fO dO ["_law_value_here"] (spN CU 9 fun d => .int (opn 9 d))) (gO : mg "_law_open" = some (.ref fO)) (kO : PySem.W.keepIn K (.ref fO) = true) (bO : Binds K dO ["_law_value_here"] [])
    (GR : FnOk P w K mg base CX0 15 fR dR ["_law_one_here", "_law_other"] (spRight CU 9)) (gR : mg "_law_pair_right" = some (.ref fR)) (kR : PySem.W.keepIn K (.ref fR) = true) (bR : Binds K dR ["_law_one_here", "_law_other"] [])
    (GS : FnOk P w K mg base CX0 2 fS dS ["_law_value_here"] (spD CU fun d => .str (lsort d))) (gS : mg "_law_sort" = some (.ref fS)) (kS : PySem.W.keepIn K (.ref fS) = true) (bS : Binds K dS ["_law_value_here"] []) :
    FnOk P w K mg base CX0 16 f fd ["_law_script"] (spLaw K) := by
  refine F.ok scLw (fun vs H Q E h => ?_) (fun cdv A outer s0 H vs Q E hr h => ?_)
  · obtain ⟨a, ns, rfl, _⟩ := h
    rfl
  · obtain ⟨a, ns, rfl, hS, hlen, kk⟩ := h
    have hr1 : Room 1 _ := hr.mono (by decide)
    have hr2 : Room 2 _ := hr.mono (by decide)
    have hr6 : Room 6 _ := hr.mono (by decide)
    have hr9 : Room 9 _ := hr.mono (by decide)
    have hr13 : Room 13 _ := hr.mono (by decide)
    refine ⟨_, (pss_cons (ps_for PassesOwn.never rfl (pi_list (pe_op op_cat (pe_slice sl_list (pv 0) po_none (po_some pe_int)) (pe_lst (pa_cons pe_int pa_nil)))) (pg_name (i := 1) scLw.nd rfl (Or.inl rfl))
        (pss_cons (ps_set (i := 2) scLw.nd rfl (Or.inl rfl) (pe_call GW hr1 rfl gW kW bW .nil pass0 (pa_cons (pv 1) pa_nil)))
        (pss_cons (ps_set (i := 3) scLw.nd rfl (Or.inl rfl) (pe_call GV hr6 rfl gV kV bV .nil pass0 (pa_cons (pv 2) (pa_cons pe_int (pa_cons (pe_call GD hr1 rfl gD kD bD .nil pass0 (pa_cons (pv 2) (pa_cons pe_int pa_nil))) pa_nil)))))
        (pss_cons (ps_set (i := 4) scLw.nd rfl (Or.inl rfl) (pe_ifExp (pt_cmpR op_gt (pe_call GD hr1 rfl gD kD bD .nil pass0 (pa_cons (pv 2) (pa_cons pe_int pa_nil))) pe_int (nomark _)) (pe_call GT hr9 rfl gT kT bT .nil pass0 (pa_cons (pv 2) (pa_cons (pv 3) (pa_cons (pe_call GD hr1 rfl gD kD bD .nil pass0 (pa_cons (pv 2) (pa_cons pe_int pa_nil))) pa_nil)))) (pe_call GV hr6 rfl gV kV bV .nil pass0 (pa_cons (pv 2) (pa_cons pe_int (pa_cons pe_int pa_nil))))))
        (pss_cons (ps_for PassesOwn.never rfl (pi_range1 (by rfl) mR (pa_cons (pe_call GD hr1 rfl gD kD bD .nil pass0 (pa_cons (pv 2) (pa_cons pe_int pa_nil))) pa_nil)) (pg_name (i := 5) scLw.nd rfl (Or.inl rfl))
          (pss_cons (ps_set (i := 6) scLw.nd rfl (Or.inl rfl) (pe_cmpR op_eq (pe_call GD hr1 rfl gD kD bD .nil pass0 (pa_cons (pv 2) (pa_cons pe_int pa_nil))) pe_int (nomark _)))
          (pss_one (ps_asg (pe_ifExp (pt_val (pv 6)) (pe_tup (pa_cons (pe_disp (pps_cons pe_str (pv 3) pps_nil) (by rfl) (by rfl) (fun z => by cases z) (by decide)) (pa_cons (pe_disp (pps_cons pe_str (pv 4) pps_nil) (by rfl) (by rfl) (fun z => by cases z) (by decide)) pa_nil))) (pe_tup (pa_cons (pe_tup (pa_cons (pv 3) pa_nil)) (pa_cons (pe_tup (pa_cons (pv 4) pa_nil)) pa_nil)))) (pg_tup rfl (pgs_cons (pg_name (i := 3) scLw.nd rfl (Or.inl rfl)) (pgs_cons (pg_name (i := 4) scLw.nd rfl (Or.inl rfl)) pgs_nil)))))))
        (pss_cons (ps_par (i := 7) (j := 8) (by rfl) scLw.nd rfl rfl (by decide) rfl rfl (pa_cons (pe_callB SkE.call_repr_int (by rfl) mP (by decide +kernel) (pa_cons (pe_call GO hr13 rfl gO kO bO .nil pass0 (pa_cons (pv 3) pa_nil)) pa_nil)) (pa_cons (pe_call GO hr13 rfl gO kO bO .nil pass0 (pa_cons (pv 4) pa_nil)) pa_nil)) (by rfl))
        (pss_cons (ps_if (PW.pt (pw_or (pt_not (pt_val (pe_call GR hr rfl gR kR bR .nil pass0 (pa_cons (pv 3) (pa_cons (pv 4) pa_nil))))) (pw_or1 (pt_not (pt_val (pe_call GR hr rfl gR kR bR .nil pass0 (pa_cons (pv 3) (pa_cons (pv 3) pa_nil)))))))) (pss_one (ps_ret pe_bl)) pss_nil)
        (pss_cons (ps_if (PW.pt (pw_or (pt_cmpR op_ne (pv 7) (pe_callB SkE.call_repr_int (by rfl) mP (by decide +kernel) (pa_cons (pe_call GO hr13 rfl gO kO bO .nil pass0 (pa_cons (pv 3) pa_nil)) pa_nil)) (nomark _)) (pw_or1 (pt_cmpR op_ne (pv 8) (pe_call GO hr13 rfl gO kO bO .nil pass0 (pa_cons (pv 4) pa_nil)) (nomark _))))) (pss_one (ps_ret pe_bl)) pss_nil)
        (pss_one (ps_if (PW.pt (pw_or (pt_not (pt_cmpR (op_eqU GU U.hs U.hf bU hr1) (pe_bare BU rfl) (pe_bare BU rfl) (nomark _))) (pw_or1 (PW.pt (pw_and (pt_cmpR (op_eqU GU U.hs U.hf bU hr1) (pe_bare BU rfl) (pv 3) (nomark _)) (pw_and1 (pt_cmpR op_ne (pe_call GS hr2 rfl gS kS bS .nil pass0 (pa_cons (pv 3) pa_nil)) pe_str (nomark _)))))))) (pss_one (ps_ret pe_bl)) pss_nil))))))))))
      (pss_one (ps_ret pe_bl))), ?_⟩
    refine ⟨_, rfl, _, rfl, a, _, rfl, hS, fun q0 hq0 => ?_⟩
    have m0 := same_new (o := .lst (cutV (ns.map V.int) none (some 12))) hq0
    refine ⟨(by show 1 ≤ sizeLine; decide), fun q1 hq1 => ?_⟩
    have m1 := same_new (o := .lst [.int 0]) hq1
    have lc := cutV_length (ns.map V.int) none (some 12)
    rw [List.length_map] at lc
    refine ⟨q0, q1, _, _, rfl, rfl, m1 _ _ upd_same, upd_same, ?_, fun q2 hq2 => ?_⟩
    · rw [sizeLine_eq]
      show _ + 1 ≤ _
      omega
    have f2 : (upd _ q2 (.lst (cutV (ns.map V.int) none (some 12) ++ [.int 0]))) q2 = _ := at_new hq2
    generalize (upd _ q2 (.lst (cutV (ns.map V.int) none (some 12) ++ [.int 0]))) = G2 at f2 ⊢
    clear m0 m1
    refine ⟨q2, rfl, ⟨_, SqL.of f2⟩, for_list (K := K) (a := q2) (xs := cutV (ns.map V.int) none (some 12) ++ [.int 0])
      (fun i σ H' => H' q2 = some (.lst (cutV (ns.map V.int) none (some 12) ++ [.int 0])) ∧ ∃ x1 x2 x3 x4 x5 x6 x7 x8 : Option V, σ = [some (.ref a), x1, x2, x3, x4, x5, x6, x7, x8])
      ⟨f2, none, none, none, none, none, none, none, none, rfl⟩ (fun i σ H' _ ⟨m, _⟩ => SqL.of m) ?_ ?_⟩
    · rintro i y σ H3 hi ⟨q3, x1, x2, x3, x4, x5, x6, x7, x8, rfl⟩
      obtain ⟨z, rfl⟩ : ∃ z, y = V.int z := by
        rcases List.mem_append.mp (List.mem_of_getElem? hi) with h | h
        · exact cut_ints h
        · exact ⟨0, by simpa using h⟩
      refine ⟨_, rfl, z, rfl, fun p a0 b0 H0 m0 np W0 => ?_⟩
      have nq : q2 ≠ p := ne_of_none q3 np
      have q0' := m0 _ _ q3
      refine ⟨_, rfl, _, rfl, p, a0, b0, 0, 3, rfl, W0, by decide, by decide, by decide, fun d1 a1 c1 H1 _ _ hc1 W1 B1 => ⟨p, a1, b0, c1, d1, rfl, W1, by show c1 + 256 < _; omega, fun r1 D1 a2 c2 H2 hc2 W2 B2 R1 hd1 => ?_⟩⟩
      have hc2 : c2 ≤ c1 + 256 := hc2
      have hd1 : dep D1 ≤ 4 := hd1
      have q2' := B2 _ _ (B1 _ _ q0' nq) nq
      refine ⟨_, rfl, p, a2, b0, c2, 4, rfl, W2, by omega, by decide, by decide, fun d2 a3 c3 H3' _ _ hc3 W3 B3 => ⟨_, _, rfl, rfl, _, rfl, ite2 (fun hg => ?_) (fun hg => ?_)⟩⟩
      · have R1 := W2.rep B3 R1
        refine ⟨_, rfl, _, rfl, _, rfl, p, a3, b0, c3, 4, rfl, W3, by omega, by decide, by decide, fun d3 a4 c4 H4 _ _ hc4 W4 B4 => ⟨p, a4, b0, c4, d3, r1, D1, rfl, W4, by show c4 + 16891926020 < _; omega, W3.rep B4 R1, by omega, fun r2 D2 a5 c5 H5 hc5 W5 B5 R2 hd2 => ?_⟩⟩
        have hc5 : c5 ≤ c4 + 16891926020 := hc5
        have R1 := W4.rep B5 (W3.rep B4 R1)
        have q5 := B5 _ _ (B4 _ _ (B3 _ _ q2' nq) nq) nq
        -- for turn in range(draw(3))
        refine ⟨_, rfl, p, a5, b0, c5, 3, rfl, W5, by omega, by decide, by decide, fun d4 a6 c6 H6 d40 d43 hc6 W6 B6' => ⟨d4, rfl, by omega, by omega, for_range (lo := 0) (n := d4.toNat)
          (fun j σ H' => ∃ (v1 v2 : V) (e1 e2 : D) (a' c' : Int) (x5 x6 : Option V), σ = [some (.ref a), some (.int z), some (.ref p), some v1, some v2, x5, x6, x7, x8] ∧ But p H5 H' ∧ Well H' p a' b0 c' ∧ c' ≤ c6 + j ∧ Rep CU H' v1 e1 ∧ Rep CU H' v2 e2 ∧ dep e1 ≤ 4 + j ∧ dep e2 ≤ 6 + j)
          ⟨_, _, _, _, a6, c6, _, _, rfl, B6', W6, by omega, W5.rep B6' R1, W5.rep B6' R2, by omega, by omega⟩ ?_ ?_⟩⟩
        · rintro j σ H7 hj ⟨v1, v2, e1, e2, a7, c7, y5, y6, rfl, B7, W7, hc7, P1, P2, dp1, dp2⟩
          refine ⟨_, rfl, p, a7, b0, c7, 2, rfl, W7, by omega, by decide, by decide, fun d8 a8 c8 H8 _ _ hc8 W8 B8' => ⟨rfl, ?_⟩⟩
          have B8 := B7.trans B8'
          have P1' := W7.rep B8' P1
          have P2' := W7.rep B8' P2
          refine ⟨_, rfl, _, rfl, ite2 (fun hm => ?_) (fun hm => ?_)⟩
          · intro q1 hq1
            refine ⟨_, rfl, upd_same, [(Sum.inr "a", v1)], rfl, (by show 1 ≤ 15; decide), ?_⟩
            have n1 := same_upd2 (o := .dK []) (o' := .dK (mergeK [] [(Sum.inr "a", v1)])) hq1
            have f1 := at_upd2 (o := .dK []) (o' := .dK (mergeK [] [(Sum.inr "a", v1)])) hq1
            generalize (upd (upd H8 q1 (.dK [])) q1 (.dK (mergeK [] [(Sum.inr "a", v1)]))) = G1 at n1 f1 ⊢
            intro q2' hq2'
            refine ⟨_, rfl, upd_same, [(Sum.inr "a", v2)], rfl, (by show 1 ≤ 15; decide), ?_⟩
            have n2 := same_upd2 (o := .dK []) (o' := .dK (mergeK [] [(Sum.inr "a", v2)])) hq2'
            have f2' := at_upd2 (o := .dK []) (o' := .dK (mergeK [] [(Sum.inr "a", v2)])) hq2'
            generalize (upd (upd G1 q2' (.dK [])) q2' (.dK (mergeK [] [(Sum.inr "a", v2)]))) = G2' at n2 f2' ⊢
            refine ⟨(by show 2 ≤ sizeLine; decide), fun t ht => ?_⟩
            have n3 := same_new (o := .tup [.ref q1, .ref q2']) ht
            have f3 := at_new (o := .tup [.ref q1, .ref q2']) ht
            generalize (upd G2' t (.tup [.ref q1, .ref q2'])) = G3' at n3 f3 ⊢
            have nn := (n1.trans n2).trans n3
            refine ⟨t, _, rfl, SqT.of f3, rfl, _, _, rfl, _, _, rfl, rfl, _, _, .map ["a"] [e1], .map ["a"] [e2], a8, c8, _, _, rfl, B8.trans (But.of nn), W8.same nn, by omega, rep_a (n3 _ _ (n2 _ _ f1)) (P1'.same nn), rep_a (n3 _ _ f2') (P2'.same nn), ?_, ?_⟩
            · rw [dep, depL, depL]; omega
            · rw [dep, depL, depL]; omega
          · refine ⟨_, rfl, (by show 1 ≤ sizeLine; decide), fun q1 hq1 => ?_⟩
            have n1 := same_new (o := .tup [v1]) hq1
            have f1 := at_new (o := .tup [v1]) hq1
            generalize (upd H8 q1 (.tup [v1])) = G1 at n1 f1 ⊢
            refine ⟨_, rfl, (by show 1 ≤ sizeLine; decide), fun q2' hq2' => ?_⟩
            have n2 := same_new (o := .tup [v2]) hq2'
            have f2' := at_new (o := .tup [v2]) hq2'
            generalize (upd G1 q2' (.tup [v2])) = G2' at n2 f2' ⊢
            refine ⟨(by show 2 ≤ sizeLine; decide), fun t ht => ?_⟩
            have n3 := same_new (o := .tup [.ref q1, .ref q2']) ht
            have f3 := at_new (o := .tup [.ref q1, .ref q2']) ht
            generalize (upd G2' t (.tup [.ref q1, .ref q2'])) = G3' at n3 f3 ⊢
            have nn := (n1.trans n2).trans n3
            refine ⟨t, _, rfl, SqT.of f3, rfl, _, _, rfl, _, _, rfl, rfl, _, _, .tup [e1], .tup [e2], a8, c8, _, _, rfl, B8.trans (But.of nn), W8.same nn, by omega, rep_1 (n3 _ _ (n2 _ _ f1)) (P1'.same nn), rep_1 (n3 _ _ f2') (P2'.same nn), ?_, ?_⟩
            · rw [dep, depL, depL]; omega
            · rw [dep, depL, depL]; omega
        rintro σ H7 ⟨v1, v2, e1, e2, a7, c7, y5, y6, rfl, B7, W7, hc7, P1, P2, dp1, dp2⟩
        have hn1 : dep e1 < 9 := by omega
        have hn2 : dep e2 < 9 := by omega
        have q7 := B7 _ _ q5 nq
        -- kept, its = repr(open(one)), open(other)
        refine ⟨_, rfl, v1, e1, rfl, P1, hn1, fun K1 k1 => ⟨_, rfl, opn_log P1, _, rfl, v2, e2, rfl, P2.same k1, hn2, fun K2 k2' => ⟨_, _, rfl, ?_⟩⟩⟩
        have k2 := k1.trans k2'
        refine ⟨_, rfl, _, rfl, v1, v2, e1, e2, rfl, P1.same k2, P2.same k2, hn1, hn2, fun K3 k3' => ⟨_, rfl, iteF ?_⟩⟩
        have k3 := k2.trans k3'
        refine ⟨_, rfl, _, rfl, v1, v1, e1, e1, rfl, P1.same k3, P1.same k3, hn1, hn1, fun K4 k4' => ⟨_, rfl, iteF ?_⟩⟩
        have k4 := k3.trans k4'
        refine ⟨_, rfl, _, rfl, v1, e1, rfl, P1.same k4, hn1, fun K5 k5' => ⟨_, rfl, opn_log P1, rfl, _, rfl, iteNS rfl ?_⟩⟩
        have k5 := k4.trans k5'
        refine ⟨_, rfl, _, rfl, v2, e2, rfl, P2.same k5, hn2, fun K6 k6' => ⟨rfl, _, rfl, iteNS rfl ?_⟩⟩
        have k6 := k5.trans k6'
        -- Unknown() == Unknown()
        intro u1 dx1 g1 g2 g3
        have n1 : Same K6 (upd (upd K6 dx1 (.own u1)) u1 (.ins CU dx1 [])) := (same_new g2).trans (same_new (by rw [upd_ne (Ne.symm g3)]; exact g1))
        have i1 : (upd (upd K6 dx1 (.own u1)) u1 (.ins CU dx1 [])) u1 = some (.ins CU dx1 []) := upd_same
        generalize (upd (upd K6 dx1 (.own u1)) u1 (.ins CU dx1 [])) = K7 at n1 i1 ⊢
        intro u2 dx2 h1 h2 h3
        have n2 : Same K7 (upd (upd K7 dx2 (.own u2)) u2 (.ins CU dx2 [])) := (same_new h2).trans (same_new (by rw [upd_ne (Ne.symm h3)]; exact h1))
        have i2 : (upd (upd K7 dx2 (.own u2)) u2 (.ins CU dx2 [])) u2 = some (.ins CU dx2 []) := upd_same
        generalize (upd (upd K7 dx2 (.own u2)) u2 (.ins CU dx2 [])) = K8 at n2 i2 ⊢
        have ruk : Rep CU K8 (.ref u2) .unk := .unk i2
        refine ⟨u1, dx1, [], _, rfl, n2 _ _ i1, Rep.ty T ruk, nfirst _, u1, _, _, true, rfl, Rep.ty T ruk, T.kU .unk, fun K9 k9' => ⟨⟨_, rfl⟩, _, rfl, iteF ?_⟩⟩
        have k9 := ((k6.trans n1).trans n2).trans k9'
        -- Unknown() == one
        intro u3 dx3 l1 l2 l3
        have n3 : Same K9 (upd (upd K9 dx3 (.own u3)) u3 (.ins CU dx3 [])) := (same_new l2).trans (same_new (by rw [upd_ne (Ne.symm l3)]; exact l1))
        have i3 : (upd (upd K9 dx3 (.own u3)) u3 (.ins CU dx3 [])) u3 = some (.ins CU dx3 []) := upd_same
        generalize (upd (upd K9 dx3 (.own u3)) u3 (.ins CU dx3 [])) = K10 at n3 i3 ⊢
        have k10 := k9.trans n3
        have P10 := P1.same k10
        refine ⟨_, rfl, u3, dx3, [], _, rfl, i3, Rep.ty T P10, nfirst _, u3, _, _, _, rfl, Rep.ty T P10, T.kU e1, fun K11 k11' => ⟨⟨_, rfl⟩, _, rfl, ?_⟩⟩
        have k11 := k10.trans k11'
        cases hu1 : isU e1 with
        | false => exact iteF (iteF ⟨k11 _ _ q7, _, _, _, _, _, _, _, _, rfl⟩)
        | true =>
          refine iteT ⟨_, rfl, v1, e1, rfl, P1.same k11, fun K12 k12' => ⟨rfl, _, rfl, ?_⟩⟩
          have eu : V.str (lsort e1) = V.str "unknown" := by rw [(lsort_u e1).mpr hu1]
          rw [decide_eq_true eu]
          exact iteF ⟨(k11.trans k12') _ _ q7, _, _, _, _, _, _, _, _, rfl⟩

      · have R1 := W2.rep B3 R1
        refine ⟨_, rfl, p, a3, b0, c3, 1, rfl, W3, by show c3 + 256 < _; omega, fun r2 D2 a5 c5 H5 hc5 W5 B5 R2 hd2 => ?_⟩
        have hc5 : c5 ≤ c3 + 256 := hc5
        have hd2 : dep D2 ≤ 4 := hd2
        have R1 := W3.rep B5 R1
        have q5 := B5 _ _ (B3 _ _ q2' nq) nq
        -- for turn in range(draw(3))
        refine ⟨_, rfl, p, a5, b0, c5, 3, rfl, W5, by omega, by decide, by decide, fun d4 a6 c6 H6 d40 d43 hc6 W6 B6' => ⟨d4, rfl, by omega, by omega, for_range (lo := 0) (n := d4.toNat)
          (fun j σ H' => ∃ (v1 v2 : V) (e1 e2 : D) (a' c' : Int) (x5 x6 : Option V), σ = [some (.ref a), some (.int z), some (.ref p), some v1, some v2, x5, x6, x7, x8] ∧ But p H5 H' ∧ Well H' p a' b0 c' ∧ c' ≤ c6 + j ∧ Rep CU H' v1 e1 ∧ Rep CU H' v2 e2 ∧ dep e1 ≤ 4 + j ∧ dep e2 ≤ 6 + j)
          ⟨_, _, _, _, a6, c6, _, _, rfl, B6', W6, by omega, W5.rep B6' R1, W5.rep B6' R2, by omega, by omega⟩ ?_ ?_⟩⟩
        · rintro j σ H7 hj ⟨v1, v2, e1, e2, a7, c7, y5, y6, rfl, B7, W7, hc7, P1, P2, dp1, dp2⟩
          refine ⟨_, rfl, p, a7, b0, c7, 2, rfl, W7, by omega, by decide, by decide, fun d8 a8 c8 H8 _ _ hc8 W8 B8' => ⟨rfl, ?_⟩⟩
          have B8 := B7.trans B8'
          have P1' := W7.rep B8' P1
          have P2' := W7.rep B8' P2
          refine ⟨_, rfl, _, rfl, ite2 (fun hm => ?_) (fun hm => ?_)⟩
          · intro q1 hq1
            refine ⟨_, rfl, upd_same, [(Sum.inr "a", v1)], rfl, (by show 1 ≤ 15; decide), ?_⟩
            have n1 := same_upd2 (o := .dK []) (o' := .dK (mergeK [] [(Sum.inr "a", v1)])) hq1
            have f1 := at_upd2 (o := .dK []) (o' := .dK (mergeK [] [(Sum.inr "a", v1)])) hq1
            generalize (upd (upd H8 q1 (.dK [])) q1 (.dK (mergeK [] [(Sum.inr "a", v1)]))) = G1 at n1 f1 ⊢
            intro q2' hq2'
            refine ⟨_, rfl, upd_same, [(Sum.inr "a", v2)], rfl, (by show 1 ≤ 15; decide), ?_⟩
            have n2 := same_upd2 (o := .dK []) (o' := .dK (mergeK [] [(Sum.inr "a", v2)])) hq2'
            have f2' := at_upd2 (o := .dK []) (o' := .dK (mergeK [] [(Sum.inr "a", v2)])) hq2'
            generalize (upd (upd G1 q2' (.dK [])) q2' (.dK (mergeK [] [(Sum.inr "a", v2)]))) = G2' at n2 f2' ⊢
            refine ⟨(by show 2 ≤ sizeLine; decide), fun t ht => ?_⟩
            have n3 := same_new (o := .tup [.ref q1, .ref q2']) ht
            have f3 := at_new (o := .tup [.ref q1, .ref q2']) ht
            generalize (upd G2' t (.tup [.ref q1, .ref q2'])) = G3' at n3 f3 ⊢
            have nn := (n1.trans n2).trans n3
            refine ⟨t, _, rfl, SqT.of f3, rfl, _, _, rfl, _, _, rfl, rfl, _, _, .map ["a"] [e1], .map ["a"] [e2], a8, c8, _, _, rfl, B8.trans (But.of nn), W8.same nn, by omega, rep_a (n3 _ _ (n2 _ _ f1)) (P1'.same nn), rep_a (n3 _ _ f2') (P2'.same nn), ?_, ?_⟩
            · rw [dep, depL, depL]; omega
            · rw [dep, depL, depL]; omega
          · refine ⟨_, rfl, (by show 1 ≤ sizeLine; decide), fun q1 hq1 => ?_⟩
            have n1 := same_new (o := .tup [v1]) hq1
            have f1 := at_new (o := .tup [v1]) hq1
            generalize (upd H8 q1 (.tup [v1])) = G1 at n1 f1 ⊢
            refine ⟨_, rfl, (by show 1 ≤ sizeLine; decide), fun q2' hq2' => ?_⟩
            have n2 := same_new (o := .tup [v2]) hq2'
            have f2' := at_new (o := .tup [v2]) hq2'
            generalize (upd G1 q2' (.tup [v2])) = G2' at n2 f2' ⊢
            refine ⟨(by show 2 ≤ sizeLine; decide), fun t ht => ?_⟩
            have n3 := same_new (o := .tup [.ref q1, .ref q2']) ht
            have f3 := at_new (o := .tup [.ref q1, .ref q2']) ht
            generalize (upd G2' t (.tup [.ref q1, .ref q2'])) = G3' at n3 f3 ⊢
            have nn := (n1.trans n2).trans n3
            refine ⟨t, _, rfl, SqT.of f3, rfl, _, _, rfl, _, _, rfl, rfl, _, _, .tup [e1], .tup [e2], a8, c8, _, _, rfl, B8.trans (But.of nn), W8.same nn, by omega, rep_1 (n3 _ _ (n2 _ _ f1)) (P1'.same nn), rep_1 (n3 _ _ f2') (P2'.same nn), ?_, ?_⟩
            · rw [dep, depL, depL]; omega
            · rw [dep, depL, depL]; omega
        rintro σ H7 ⟨v1, v2, e1, e2, a7, c7, y5, y6, rfl, B7, W7, hc7, P1, P2, dp1, dp2⟩
        have hn1 : dep e1 < 9 := by omega
        have hn2 : dep e2 < 9 := by omega
        have q7 := B7 _ _ q5 nq
        -- kept, its = repr(open(one)), open(other)
        refine ⟨_, rfl, v1, e1, rfl, P1, hn1, fun K1 k1 => ⟨_, rfl, opn_log P1, _, rfl, v2, e2, rfl, P2.same k1, hn2, fun K2 k2' => ⟨_, _, rfl, ?_⟩⟩⟩
        have k2 := k1.trans k2'
        refine ⟨_, rfl, _, rfl, v1, v2, e1, e2, rfl, P1.same k2, P2.same k2, hn1, hn2, fun K3 k3' => ⟨_, rfl, iteF ?_⟩⟩
        have k3 := k2.trans k3'
        refine ⟨_, rfl, _, rfl, v1, v1, e1, e1, rfl, P1.same k3, P1.same k3, hn1, hn1, fun K4 k4' => ⟨_, rfl, iteF ?_⟩⟩
        have k4 := k3.trans k4'
        refine ⟨_, rfl, _, rfl, v1, e1, rfl, P1.same k4, hn1, fun K5 k5' => ⟨_, rfl, opn_log P1, rfl, _, rfl, iteNS rfl ?_⟩⟩
        have k5 := k4.trans k5'
        refine ⟨_, rfl, _, rfl, v2, e2, rfl, P2.same k5, hn2, fun K6 k6' => ⟨rfl, _, rfl, iteNS rfl ?_⟩⟩
        have k6 := k5.trans k6'
        -- Unknown() == Unknown()
        intro u1 dx1 g1 g2 g3
        have n1 : Same K6 (upd (upd K6 dx1 (.own u1)) u1 (.ins CU dx1 [])) := (same_new g2).trans (same_new (by rw [upd_ne (Ne.symm g3)]; exact g1))
        have i1 : (upd (upd K6 dx1 (.own u1)) u1 (.ins CU dx1 [])) u1 = some (.ins CU dx1 []) := upd_same
        generalize (upd (upd K6 dx1 (.own u1)) u1 (.ins CU dx1 [])) = K7 at n1 i1 ⊢
        intro u2 dx2 h1 h2 h3
        have n2 : Same K7 (upd (upd K7 dx2 (.own u2)) u2 (.ins CU dx2 [])) := (same_new h2).trans (same_new (by rw [upd_ne (Ne.symm h3)]; exact h1))
        have i2 : (upd (upd K7 dx2 (.own u2)) u2 (.ins CU dx2 [])) u2 = some (.ins CU dx2 []) := upd_same
        generalize (upd (upd K7 dx2 (.own u2)) u2 (.ins CU dx2 [])) = K8 at n2 i2 ⊢
        have ruk : Rep CU K8 (.ref u2) .unk := .unk i2
        refine ⟨u1, dx1, [], _, rfl, n2 _ _ i1, Rep.ty T ruk, nfirst _, u1, _, _, true, rfl, Rep.ty T ruk, T.kU .unk, fun K9 k9' => ⟨⟨_, rfl⟩, _, rfl, iteF ?_⟩⟩
        have k9 := ((k6.trans n1).trans n2).trans k9'
        -- Unknown() == one
        intro u3 dx3 l1 l2 l3
        have n3 : Same K9 (upd (upd K9 dx3 (.own u3)) u3 (.ins CU dx3 [])) := (same_new l2).trans (same_new (by rw [upd_ne (Ne.symm l3)]; exact l1))
        have i3 : (upd (upd K9 dx3 (.own u3)) u3 (.ins CU dx3 [])) u3 = some (.ins CU dx3 []) := upd_same
        generalize (upd (upd K9 dx3 (.own u3)) u3 (.ins CU dx3 [])) = K10 at n3 i3 ⊢
        have k10 := k9.trans n3
        have P10 := P1.same k10
        refine ⟨_, rfl, u3, dx3, [], _, rfl, i3, Rep.ty T P10, nfirst _, u3, _, _, _, rfl, Rep.ty T P10, T.kU e1, fun K11 k11' => ⟨⟨_, rfl⟩, _, rfl, ?_⟩⟩
        have k11 := k10.trans k11'
        cases hu1 : isU e1 with
        | false => exact iteF (iteF ⟨k11 _ _ q7, _, _, _, _, _, _, _, _, rfl⟩)
        | true =>
          refine iteT ⟨_, rfl, v1, e1, rfl, P1.same k11, fun K12 k12' => ⟨rfl, _, rfl, ?_⟩⟩
          have eu : V.str (lsort e1) = V.str "unknown" := by rw [(lsort_u e1).mpr hu1]
          rw [decide_eq_true eu]
          exact iteF ⟨(k11.trans k12') _ _ q7, _, _, _, _, _, _, _, _, rfl⟩

    · rintro σ H3 ⟨_, x1, x2, x3, x4, x5, x6, x7, x8, rfl⟩
      exact kk H3
end
end K01

namespace K01
open PySem L2 XR VT
theorem isC {K : PySem.W.Frag} {C : Addr} (i : PySem.W.isClsIn K C = true) (ty : PySem.W.typeIn K (.ref C) = some (.type "type")) : ((PySem.W.clsIn K C).isSome && PySem.W.typeIn K (.ref C) == some (.type "type")) = true := by
  have i2 : (PySem.W.clsIn K C).isSome = true := i
  rw [i2, ty]
  rfl
theorem kit_tyC {K : PySem.W.Frag} {C : Addr} {t : String} {b : Bool} (i : PySem.W.isClsIn K C = true) (ty : PySem.W.typeIn K (.ref C) = some (.type "type")) (h : (PySem.W.subIn K (.type t) (.ref C)) = some b) : PySem.W.kitOne K (.type t) (.ref C) = some b := by
  show (if (Value.type t == Value.ref C) = true then some true else if ((PySem.W.clsIn K C).isSome && PySem.W.typeIn K (.ref C) == some (.type "type")) = true then PySem.W.subIn K (.type t) (.ref C) else none) = _
  rw [if_neg (by intro z; exact Value.noConfusion (beq_iff_eq.mp z)), if_pos (isC i ty), h]
theorem kit_self {K : PySem.W.Frag} {C : Addr} : PySem.W.kitOne K (.ref C) (.ref C) = some true := by
  show (if (Value.ref C == Value.ref C) = true then some true else if ((PySem.W.clsIn K C).isSome && PySem.W.typeIn K (.ref C) == some (.type "type")) = true then PySem.W.mroIn K C (.ref C) else none) = _
  rw [if_pos (beq_self_eq_true _)]
theorem kit_CT {K : PySem.W.Frag} {C : Addr} {t : String} {b : Bool} (m : PySem.W.kitMeta t = true) (h : PySem.W.mroIn K C (.type t) = some b) : PySem.W.kitOne K (.ref C) (.type t) = some b := by
  show (if (Value.ref C == Value.type t) = true then some true else if PySem.W.kitMeta t = true then PySem.W.mroIn K C (.type t) else none) = _
  rw [if_neg (by intro z; exact Value.noConfusion (beq_iff_eq.mp z)), if_pos m, h]
theorem walk {l : PySem.W.OpenLaw} {q : Program} {loose : List Str} {XP : (Str → Option Value) → Heap → Prop} {YP : World → Heap → Prop} {d : DefRec} {K : Params → PySem.W.Frag} (hn : l.most = some 63) (hdf : d.params.defaults = [])
    (hY : ∀ (w : World) (h : Heap), YP w h → (K w.params).In h)
    (F : ∀ (w : World) (mg : Str → Option Value) (fa : Addr) (h : Heap), (K w.params).In h → h.Ns mainGlobals mg → mg d.name = some (.ref fa) →
      ∃ fd : FuncData, (∀ (s : Shared) (u : Value), BindsTo s fd ⟨[u], []⟩ [("_law_script", u)]) ∧ ∀ base : Heap, (K w.params).In base → base.Ns mainGlobals mg → FnOk l.prog w (K w.params) mg base CX0 16 fa fd ["_law_script"] (spLaw (K w.params))) :
    PySem.W.WalkO q loose XP YP l.row.toRowW d [] (fun f vs => PySem.call f vs) :=
  L2.walk_of (n := 63) (k := 16) (x := "_law_script") (CX := fun _ => CX0) (sp := fun w => spLaw (K w.params)) hn (by decide) hdf ⟨rfl, by decide, by decide⟩ hY F (fun _ _ a ns hl _ hS => ⟨a, ns, rfl, hS, hl, fun _ => rfl⟩) fun _ _ _ _ _ z => z
theorem all_mk {l : PySem.W.OpenLaw} {w : World} {K : PySem.W.Frag} {h : Heap} {mg : Str → Option Value} {fa : Addr} (X : K.In h) (G : h.Ns mainGlobals mg) (hfa : mg "law" = some (.ref fa))
    {CU : Addr}
    {tL tM : Tok}
    {finteg : Addr} {odinteg aninteg : Option Addr} {slinteg : Array (Option Value)} {ocinteg kVinteg dcinteg pminteg ctinteg cdinteg : Value}
    {fname : Addr} {odname anname : Option Addr} {slname : Array (Option Value)} {ocname kVname dcname pmname ctname cdname : Value}
    {ftag : Addr} {odtag antag : Option Addr} {sltag : Array (Option Value)} {octag kVtag dctag pmtag cttag cdtag : Value}
    {fknown : Addr} {odknown anknown : Option Addr} {slknown : Array (Option Value)} {ocknown kVknown dcknown pmknown ctknown cdknown : Value}
    {fsort : Addr} {odsort ansort : Option Addr} {slsort : Array (Option Value)} {ocsort kVsort dcsort pmsort ctsort cdsort : Value}
    {fparts : Addr} {odparts anparts : Option Addr} {slparts : Array (Option Value)} {ocparts kVparts dcparts pmparts ctparts cdparts : Value}
    {fsame : Addr} {odsame ansame : Option Addr} {slsame : Array (Option Value)} {ocsame kVsame dcsame pmsame ctsame cdsame : Value}
    {fagr : Addr} {odagr anagr : Option Addr} {slagr : Array (Option Value)} {ocagr kVagr dcagr pmagr ctagr cdagr : Value}
    {fwell : Addr} {odwell anwell : Option Addr} {slwell : Array (Option Value)} {ocwell kVwell dcwell pmwell ctwell cdwell : Value}
    {fdraw : Addr} {oddraw andraw : Option Addr} {sldraw : Array (Option Value)} {ocdraw kVdraw dcdraw pmdraw ctdraw cddraw : Value}
    {fone : Addr} {odone anone : Option Addr} {slone : Array (Option Value)} {ocone kVone dcone pmone ctone cdone : Value}
    {fval : Addr} {odval anval : Option Addr} {slval : Array (Option Value)} {ocval kVval dcval pmval ctval cdval : Value}
    {fltag : Addr} {odltag anltag : Option Addr} {slltag : Array (Option Value)} {ocltag kVltag dcltag pmltag ctltag cdltag : Value}
    {flsort : Addr} {odlsort anlsort : Option Addr} {sllsort : Array (Option Value)} {oclsort kVlsort dclsort pmlsort ctlsort cdlsort : Value}
    {flpairs : Addr} {odlpairs anlpairs : Option Addr} {sllpairs : Array (Option Value)} {oclpairs kVlpairs dclpairs pmlpairs ctlpairs cdlpairs : Value}
    {flmay : Addr} {odlmay anlmay : Option Addr} {sllmay : Array (Option Value)} {oclmay kVlmay dclmay pmlmay ctlmay cdlmay : Value}
    {flopen : Addr} {odlopen anlopen : Option Addr} {sllopen : Array (Option Value)} {oclopen kVlopen dclopen pmlopen ctlopen cdlopen : Value}
    {flsame : Addr} {odlsame anlsame : Option Addr} {sllsame : Array (Option Value)} {oclsame kVlsame dclsame pmlsame ctlsame cdlsame : Value}
    {flalike : Addr} {odlalike anlalike : Option Addr} {sllalike : Array (Option Value)} {oclalike kVlalike dclalike pmlalike ctlalike cdlalike : Value}
    {fturn : Addr} {odturn anturn : Option Addr} {slturn : Array (Option Value)} {octurn kVturn dcturn pmturn ctturn cdturn : Value}
    {fright : Addr} {odright anright : Option Addr} {slright : Array (Option Value)} {ocright kVright dcright pmright ctright cdright : Value}
    {flaw : Addr} {odlaw anlaw : Option Addr} {sllaw : Array (Option Value)} {oclaw kVlaw dclaw pmlaw ctlaw cdlaw : Value}
    {fUEq : Addr} {odUEq anUEq : Option Addr} {slUEq : Array (Option Value)} {ocUEq kVUEq dcUEq pmUEq ctUEq cdUEq : Value}
    (gU : PySem.W.nsIn K mainGlobals "Unknown" = some (some (.ref CU)))
    (c1U : PySem.W.plainGet K CU Str.empty = true)
    (c2U : PySem.W.hasDictIn K CU = true)
    (c3U : PySem.W.plainOver K CU = true)
    (c4U : PySem.W.findIn K (.ref CU) "__setattr__" = some (some (.builtin "object.__setattr__")))
    (mkU : PySem.W.makesIn K CU = true)
    (kpU : PySem.W.keepIn K (.ref CU) = true)
    (inU : PySem.W.findIn K (.ref CU) "__init__" = some (some (.builtin "object.__init__")))
    (i1U : PySem.W.isClsIn K CU = true)
    (i2U : PySem.W.typeIn K (.ref CU) = some (.type "type"))
    (d1U : PySem.W.findIn K (.ref CU) "__class__" = some (some (.builtin "object.__class__")))
    (d2U : PySem.W.specialIn K (.builtin "object.__class__") "__get__" = some (some (.builtin "getset_descriptor.__get__")))
    (d3U : PySem.W.takesIn K (.builtin "object.__class__") = some true)
    (d4U : PySem.W.mroIn K CU (.type "object") = some true)
    (mU_tuple : PySem.W.mroIn K CU (.type "tuple") = some false)
    (mU_bool : PySem.W.mroIn K CU (.type "bool") = some false)
    (mU_int : PySem.W.mroIn K CU (.type "int") = some false)
    (mU_dict : PySem.W.mroIn K CU (.type "dict") = some false)
    (mU_str : PySem.W.mroIn K CU (.type "str") = some false)
    (gL : PySem.W.nsIn K mainGlobals "LETTERS" = some (some (.str "abcdefghijklmnopqrstuvwxyz" tL)))
    (gM : PySem.W.nsIn K mainGlobals "MARK" = some (some (.str "#" tM)))
    (b_isinstance : PySem.W.nsIn K mainGlobals "isinstance" = some none)
    (b_len : PySem.W.nsIn K mainGlobals "len" = some none)
    (b_all : PySem.W.nsIn K mainGlobals "all" = some none)
    (b_zip : PySem.W.nsIn K mainGlobals "zip" = some none)
    (b_tuple : PySem.W.nsIn K mainGlobals "tuple" = some none)
    (b_dict : PySem.W.nsIn K mainGlobals "dict" = some none)
    (b_list : PySem.W.nsIn K mainGlobals "list" = some none)
    (b_bool : PySem.W.nsIn K mainGlobals "bool" = some none)
    (b_int : PySem.W.nsIn K mainGlobals "int" = some none)
    (b_str : PySem.W.nsIn K mainGlobals "str" = some none)
    (b_sorted : PySem.W.nsIn K mainGlobals "sorted" = some none)
    (b_range : PySem.W.nsIn K mainGlobals "range" = some none)
    (b_enumerate : PySem.W.nsIn K mainGlobals "enumerate" = some none)
    (b_sum : PySem.W.nsIn K mainGlobals "sum" = some none)
    (b_repr : PySem.W.nsIn K mainGlobals "repr" = some none)
    (a_integ : PySem.W.nsIn K mainGlobals "is_integer" = some (some (.ref finteg)))
    (linteg : K.lookup finteg = some ⟨ocinteg, odinteg, .func (PySem.W.fnOf "is_integer" "is_integer" (defArgs sInt) (defBody sInt) (defScope sInt) .none kVinteg dcinteg pminteg aninteg cdinteg ctinteg), slinteg⟩)
    (yinteg : PySem.W.codeIn K cdinteg "is_integer" = true)
    (zinteg : PySem.W.keepIn K (.ref finteg) = true)
    (a_name : PySem.W.nsIn K mainGlobals "is_name" = some (some (.ref fname)))
    (lname : K.lookup fname = some ⟨ocname, odname, .func (PySem.W.fnOf "is_name" "is_name" (defArgs sName) (defBody sName) (defScope sName) .none kVname dcname pmname anname cdname ctname), slname⟩)
    (yname : PySem.W.codeIn K cdname "is_name" = true)
    (zname : PySem.W.keepIn K (.ref fname) = true)
    (a_tag : PySem.W.nsIn K mainGlobals "is_tag" = some (some (.ref ftag)))
    (ltag : K.lookup ftag = some ⟨octag, odtag, .func (PySem.W.fnOf "is_tag" "is_tag" (defArgs sTag) (defBody sTag) (defScope sTag) .none kVtag dctag pmtag antag cdtag cttag), sltag⟩)
    (ytag : PySem.W.codeIn K cdtag "is_tag" = true)
    (ztag : PySem.W.keepIn K (.ref ftag) = true)
    (a_known : PySem.W.nsIn K mainGlobals "is_known" = some (some (.ref fknown)))
    (lknown : K.lookup fknown = some ⟨ocknown, odknown, .func (PySem.W.fnOf "is_known" "is_known" (defArgs sKnown) (defBody sKnown) (defScope sKnown) .none kVknown dcknown pmknown anknown cdknown ctknown), slknown⟩)
    (yknown : PySem.W.codeIn K cdknown "is_known" = true)
    (zknown : PySem.W.keepIn K (.ref fknown) = true)
    (a_sort : PySem.W.nsIn K mainGlobals "sort_of" = some (some (.ref fsort)))
    (lsort : K.lookup fsort = some ⟨ocsort, odsort, .func (PySem.W.fnOf "sort_of" "sort_of" (defArgs sSort) (defBody sSort) (defScope sSort) .none kVsort dcsort pmsort ansort cdsort ctsort), slsort⟩)
    (ysort : PySem.W.codeIn K cdsort "sort_of" = true)
    (zsort : PySem.W.keepIn K (.ref fsort) = true)
    (a_parts : PySem.W.nsIn K mainGlobals "parts_of" = some (some (.ref fparts)))
    (lparts : K.lookup fparts = some ⟨ocparts, odparts, .func (PySem.W.fnOf "parts_of" "parts_of" (defArgs sParts) (defBody sParts) (defScope sParts) .none kVparts dcparts pmparts anparts cdparts ctparts), slparts⟩)
    (yparts : PySem.W.codeIn K cdparts "parts_of" = true)
    (zparts : PySem.W.keepIn K (.ref fparts) = true)
    (a_same : PySem.W.nsIn K mainGlobals "same" = some (some (.ref fsame)))
    (lsame : K.lookup fsame = some ⟨ocsame, odsame, .func (PySem.W.fnOf "same" "same" (defArgs sSame) (defBody sSame) (defScope sSame) .none kVsame dcsame pmsame ansame cdsame ctsame), slsame⟩)
    (ysame : PySem.W.codeIn K cdsame "same" = true)
    (zsame : PySem.W.keepIn K (.ref fsame) = true)
    (a_agr : PySem.W.nsIn K mainGlobals "agrees" = some (some (.ref fagr)))
    (lagr : K.lookup fagr = some ⟨ocagr, odagr, .func (PySem.W.fnOf "agrees" "agrees" (defArgs sAgrees) (defBody sAgrees) (defScope sAgrees) .none kVagr dcagr pmagr anagr cdagr ctagr), slagr⟩)
    (yagr : PySem.W.codeIn K cdagr "agrees" = true)
    (zagr : PySem.W.keepIn K (.ref fagr) = true)
    (a_well : PySem.W.nsIn K mainGlobals "_law_well" = some (some (.ref fwell)))
    (lwell : K.lookup fwell = some ⟨ocwell, odwell, .func (PySem.W.fnOf "_law_well" "_law_well" (defArgs sWell) (defBody sWell) (defScope sWell) .none kVwell dcwell pmwell anwell cdwell ctwell), slwell⟩)
    (ywell : PySem.W.codeIn K cdwell "_law_well" = true)
    (zwell : PySem.W.keepIn K (.ref fwell) = true)
    (a_draw : PySem.W.nsIn K mainGlobals "_law_draw" = some (some (.ref fdraw)))
    (ldraw : K.lookup fdraw = some ⟨ocdraw, oddraw, .func (PySem.W.fnOf "_law_draw" "_law_draw" (defArgs sDraw) (defBody sDraw) (defScope sDraw) .none kVdraw dcdraw pmdraw andraw cddraw ctdraw), sldraw⟩)
    (ydraw : PySem.W.codeIn K cddraw "_law_draw" = true)
    (zdraw : PySem.W.keepIn K (.ref fdraw) = true)
    (a_one : PySem.W.nsIn K mainGlobals "_law_one" = some (some (.ref fone)))
    (lone : K.lookup fone = some ⟨ocone, odone, .func (PySem.W.fnOf "_law_one" "_law_one" (defArgs sOne) (defBody sOne) (defScope sOne) .none kVone dcone pmone anone cdone ctone), slone⟩)
    (yone : PySem.W.codeIn K cdone "_law_one" = true)
    (zone : PySem.W.keepIn K (.ref fone) = true)
    (a_val : PySem.W.nsIn K mainGlobals "_law_value" = some (some (.ref fval)))
    (lval : K.lookup fval = some ⟨ocval, odval, .func (PySem.W.fnOf "_law_value" "_law_value" (defArgs sLVal) (defBody sLVal) (defScope sLVal) .none kVval dcval pmval anval cdval ctval), slval⟩)
    (yval : PySem.W.codeIn K cdval "_law_value" = true)
    (zval : PySem.W.keepIn K (.ref fval) = true)
    (a_ltag : PySem.W.nsIn K mainGlobals "_law_is_tag" = some (some (.ref fltag)))
    (lltag : K.lookup fltag = some ⟨ocltag, odltag, .func (PySem.W.fnOf "_law_is_tag" "_law_is_tag" (defArgs sLTag) (defBody sLTag) (defScope sLTag) .none kVltag dcltag pmltag anltag cdltag ctltag), slltag⟩)
    (yltag : PySem.W.codeIn K cdltag "_law_is_tag" = true)
    (zltag : PySem.W.keepIn K (.ref fltag) = true)
    (a_lsort : PySem.W.nsIn K mainGlobals "_law_sort" = some (some (.ref flsort)))
    (llsort : K.lookup flsort = some ⟨oclsort, odlsort, .func (PySem.W.fnOf "_law_sort" "_law_sort" (defArgs sLSort) (defBody sLSort) (defScope sLSort) .none kVlsort dclsort pmlsort anlsort cdlsort ctlsort), sllsort⟩)
    (ylsort : PySem.W.codeIn K cdlsort "_law_sort" = true)
    (zlsort : PySem.W.keepIn K (.ref flsort) = true)
    (a_lpairs : PySem.W.nsIn K mainGlobals "_law_pairs" = some (some (.ref flpairs)))
    (llpairs : K.lookup flpairs = some ⟨oclpairs, odlpairs, .func (PySem.W.fnOf "_law_pairs" "_law_pairs" (defArgs sLPairs) (defBody sLPairs) (defScope sLPairs) .none kVlpairs dclpairs pmlpairs anlpairs cdlpairs ctlpairs), sllpairs⟩)
    (ylpairs : PySem.W.codeIn K cdlpairs "_law_pairs" = true)
    (zlpairs : PySem.W.keepIn K (.ref flpairs) = true)
    (a_lmay : PySem.W.nsIn K mainGlobals "_law_may" = some (some (.ref flmay)))
    (llmay : K.lookup flmay = some ⟨oclmay, odlmay, .func (PySem.W.fnOf "_law_may" "_law_may" (defArgs sLMay) (defBody sLMay) (defScope sLMay) .none kVlmay dclmay pmlmay anlmay cdlmay ctlmay), sllmay⟩)
    (ylmay : PySem.W.codeIn K cdlmay "_law_may" = true)
    (zlmay : PySem.W.keepIn K (.ref flmay) = true)
    (a_lopen : PySem.W.nsIn K mainGlobals "_law_open" = some (some (.ref flopen)))
    (llopen : K.lookup flopen = some ⟨oclopen, odlopen, .func (PySem.W.fnOf "_law_open" "_law_open" (defArgs sLOpen) (defBody sLOpen) (defScope sLOpen) .none kVlopen dclopen pmlopen anlopen cdlopen ctlopen), sllopen⟩)
    (ylopen : PySem.W.codeIn K cdlopen "_law_open" = true)
    (zlopen : PySem.W.keepIn K (.ref flopen) = true)
    (a_lsame : PySem.W.nsIn K mainGlobals "_law_same" = some (some (.ref flsame)))
    (llsame : K.lookup flsame = some ⟨oclsame, odlsame, .func (PySem.W.fnOf "_law_same" "_law_same" (defArgs sLSame) (defBody sLSame) (defScope sLSame) .none kVlsame dclsame pmlsame anlsame cdlsame ctlsame), sllsame⟩)
    (ylsame : PySem.W.codeIn K cdlsame "_law_same" = true)
    (zlsame : PySem.W.keepIn K (.ref flsame) = true)
    (a_lalike : PySem.W.nsIn K mainGlobals "_law_alike" = some (some (.ref flalike)))
    (llalike : K.lookup flalike = some ⟨oclalike, odlalike, .func (PySem.W.fnOf "_law_alike" "_law_alike" (defArgs sLAlike) (defBody sLAlike) (defScope sLAlike) .none kVlalike dclalike pmlalike anlalike cdlalike ctlalike), sllalike⟩)
    (ylalike : PySem.W.codeIn K cdlalike "_law_alike" = true)
    (zlalike : PySem.W.keepIn K (.ref flalike) = true)
    (a_turn : PySem.W.nsIn K mainGlobals "_law_turned" = some (some (.ref fturn)))
    (lturn : K.lookup fturn = some ⟨octurn, odturn, .func (PySem.W.fnOf "_law_turned" "_law_turned" (defArgs sLTurn) (defBody sLTurn) (defScope sLTurn) .none kVturn dcturn pmturn anturn cdturn ctturn), slturn⟩)
    (yturn : PySem.W.codeIn K cdturn "_law_turned" = true)
    (zturn : PySem.W.keepIn K (.ref fturn) = true)
    (a_right : PySem.W.nsIn K mainGlobals "_law_pair_right" = some (some (.ref fright)))
    (lright : K.lookup fright = some ⟨ocright, odright, .func (PySem.W.fnOf "_law_pair_right" "_law_pair_right" (defArgs sLRight) (defBody sLRight) (defScope sLRight) .none kVright dcright pmright anright cdright ctright), slright⟩)
    (yright : PySem.W.codeIn K cdright "_law_pair_right" = true)
    (zright : PySem.W.keepIn K (.ref fright) = true)
    (a_law : PySem.W.nsIn K mainGlobals "law" = some (some (.ref flaw)))
    (llaw : K.lookup flaw = some ⟨oclaw, odlaw, .func (PySem.W.fnOf "law" "law" (defArgs sLaw) (defBody sLaw) (defScope sLaw) .none kVlaw dclaw pmlaw anlaw cdlaw ctlaw), sllaw⟩)
    (ylaw : PySem.W.codeIn K cdlaw "law" = true)
    (zlaw : PySem.W.keepIn K (.ref flaw) = true)
    (m_UEq : PySem.W.findIn K (.ref CU) "__eq__" = some (some (.ref fUEq)))
    (j_UEq : PySem.W.isFn K (.ref fUEq) = true)
    (lUEq : K.lookup fUEq = some ⟨ocUEq, odUEq, .func (PySem.W.fnOf "__eq__" "Unknown.__eq__" (defArgs sUEq) (defBody sUEq) (defScope sUEq) .none kVUEq dcUEq pmUEq anUEq cdUEq ctUEq), slUEq⟩)
    (yUEq : PySem.W.codeIn K cdUEq "Unknown.__eq__" = true)
    (zUEq : PySem.W.keepIn K (.ref fUEq) = true)
    : ∃ fd : FuncData, (∀ (s : Shared) (v : Value), BindsTo s fd ⟨[v], []⟩ [("_law_script", v)]) ∧ ∀ base : Heap, K.In base → base.Ns mainGlobals mg → FnOk l.prog w K mg base CX0 16 fa fd ["_law_script"] (spLaw K) := by
  have e := hfa.symm.trans (PySem.W.mg_of X G a_law)
  cases e
  have B_isinstance := PySem.W.mg_none_of X G b_isinstance
  have B_len := PySem.W.mg_none_of X G b_len
  have B_all := PySem.W.mg_none_of X G b_all
  have B_zip := PySem.W.mg_none_of X G b_zip
  have B_tuple := PySem.W.mg_none_of X G b_tuple
  have B_dict := PySem.W.mg_none_of X G b_dict
  have B_list := PySem.W.mg_none_of X G b_list
  have B_bool := PySem.W.mg_none_of X G b_bool
  have B_int := PySem.W.mg_none_of X G b_int
  have B_str := PySem.W.mg_none_of X G b_str
  have B_sorted := PySem.W.mg_none_of X G b_sorted
  have B_range := PySem.W.mg_none_of X G b_range
  have B_enumerate := PySem.W.mg_none_of X G b_enumerate
  have B_sum := PySem.W.mg_none_of X G b_sum
  have B_repr := PySem.W.mg_none_of X G b_repr
  have F_integ := fun_mk (st := sInt) linteg yinteg zinteg
  have B_integ := F_integ.binds (ps := ["thing"]) fun _ _ _ _ _ _ us hl => match us, hl with | [_], _ => rfl
  have F_name := fun_mk (st := sName) lname yname zname
  have B_name := F_name.binds (ps := ["thing"]) fun _ _ _ _ _ _ us hl => match us, hl with | [_], _ => rfl
  have F_tag := fun_mk (st := sTag) ltag ytag ztag
  have B_tag := F_tag.binds (ps := ["thing"]) fun _ _ _ _ _ _ us hl => match us, hl with | [_], _ => rfl
  have F_known := fun_mk (st := sKnown) lknown yknown zknown
  have B_known := F_known.binds (ps := ["value"]) fun _ _ _ _ _ _ us hl => match us, hl with | [_], _ => rfl
  have F_sort := fun_mk (st := sSort) lsort ysort zsort
  have B_sort := F_sort.binds (ps := ["value"]) fun _ _ _ _ _ _ us hl => match us, hl with | [_], _ => rfl
  have F_parts := fun_mk (st := sParts) lparts yparts zparts
  have B_parts := F_parts.binds (ps := ["one", "other"]) fun _ _ _ _ _ _ us hl => match us, hl with | [_, _], _ => rfl
  have F_same := fun_mk (st := sSame) lsame ysame zsame
  have B_same := F_same.binds (ps := ["one", "other"]) fun _ _ _ _ _ _ us hl => match us, hl with | [_, _], _ => rfl
  have F_agr := fun_mk (st := sAgrees) lagr yagr zagr
  have B_agr := F_agr.binds (ps := ["planned", "value"]) fun _ _ _ _ _ _ us hl => match us, hl with | [_, _], _ => rfl
  have F_well := fun_mk (st := sWell) lwell ywell zwell
  have B_well := F_well.binds (ps := ["_law_cell"]) fun _ _ _ _ _ _ us hl => match us, hl with | [_], _ => rfl
  have F_draw := fun_mk (st := sDraw) ldraw ydraw zdraw
  have B_draw := F_draw.binds (ps := ["_law_well_here", "_law_below"]) fun _ _ _ _ _ _ us hl => match us, hl with | [_, _], _ => rfl
  have F_one := fun_mk (st := sOne) lone yone zone
  have B_one := F_one.binds (ps := ["_law_well_here", "_law_some"]) fun _ _ _ _ _ _ us hl => match us, hl with | [_, _], _ => rfl
  have F_val := fun_mk (st := sLVal) lval yval zval
  have B_val := F_val.binds (ps := ["_law_well_here", "_law_deep", "_law_dim"]) fun _ _ _ _ _ _ us hl => match us, hl with | [_, _, _], _ => rfl
  have F_ltag := fun_mk (st := sLTag) lltag yltag zltag
  have B_ltag := F_ltag.binds (ps := ["_law_value_here"]) fun _ _ _ _ _ _ us hl => match us, hl with | [_], _ => rfl
  have F_lsort := fun_mk (st := sLSort) llsort ylsort zlsort
  have B_lsort := F_lsort.binds (ps := ["_law_value_here"]) fun _ _ _ _ _ _ us hl => match us, hl with | [_], _ => rfl
  have F_lpairs := fun_mk (st := sLPairs) llpairs ylpairs zlpairs
  have B_lpairs := F_lpairs.binds (ps := ["_law_one_here", "_law_other"]) fun _ _ _ _ _ _ us hl => match us, hl with | [_, _], _ => rfl
  have F_lmay := fun_mk (st := sLMay) llmay ylmay zlmay
  have B_lmay := F_lmay.binds (ps := ["_law_one_here", "_law_other"]) fun _ _ _ _ _ _ us hl => match us, hl with | [_, _], _ => rfl
  have F_lopen := fun_mk (st := sLOpen) llopen ylopen zlopen
  have B_lopen := F_lopen.binds (ps := ["_law_value_here"]) fun _ _ _ _ _ _ us hl => match us, hl with | [_], _ => rfl
  have F_lsame := fun_mk (st := sLSame) llsame ylsame zlsame
  have B_lsame := F_lsame.binds (ps := ["_law_one_here", "_law_other"]) fun _ _ _ _ _ _ us hl => match us, hl with | [_, _], _ => rfl
  have F_lalike := fun_mk (st := sLAlike) llalike ylalike zlalike
  have B_lalike := F_lalike.binds (ps := ["_law_one_here", "_law_other"]) fun _ _ _ _ _ _ us hl => match us, hl with | [_, _], _ => rfl
  have F_turn := fun_mk (st := sLTurn) lturn yturn zturn
  have B_turn := F_turn.binds (ps := ["_law_well_here", "_law_value_here", "_law_dim"]) fun _ _ _ _ _ _ us hl => match us, hl with | [_, _, _], _ => rfl
  have F_right := fun_mk (st := sLRight) lright yright zright
  have B_right := F_right.binds (ps := ["_law_one_here", "_law_other"]) fun _ _ _ _ _ _ us hl => match us, hl with | [_, _], _ => rfl
  have F_law := fun_mk (st := sLaw) llaw ylaw zlaw
  have B_law := F_law.binds (ps := ["_law_script"]) fun _ _ _ _ _ _ us hl => match us, hl with | [_], _ => rfl
  have F_UEq := fun_mk (st := sUEq) lUEq yUEq zUEq
  have B_UEq := F_UEq.binds (ps := ["self", "other"]) fun _ _ _ _ _ _ us hl => match us, hl with | [_, _], _ => rfl
  have A_integ := PySem.W.mg_of X G a_integ
  have A_name := PySem.W.mg_of X G a_name
  have A_tag := PySem.W.mg_of X G a_tag
  have A_known := PySem.W.mg_of X G a_known
  have A_sort := PySem.W.mg_of X G a_sort
  have A_parts := PySem.W.mg_of X G a_parts
  have A_same := PySem.W.mg_of X G a_same
  have A_agr := PySem.W.mg_of X G a_agr
  have A_well := PySem.W.mg_of X G a_well
  have A_draw := PySem.W.mg_of X G a_draw
  have A_one := PySem.W.mg_of X G a_one
  have A_val := PySem.W.mg_of X G a_val
  have A_ltag := PySem.W.mg_of X G a_ltag
  have A_lsort := PySem.W.mg_of X G a_lsort
  have A_lpairs := PySem.W.mg_of X G a_lpairs
  have A_lmay := PySem.W.mg_of X G a_lmay
  have A_lopen := PySem.W.mg_of X G a_lopen
  have A_lsame := PySem.W.mg_of X G a_lsame
  have A_lalike := PySem.W.mg_of X G a_lalike
  have A_turn := PySem.W.mg_of X G a_turn
  have A_right := PySem.W.mg_of X G a_right
  have A_law := PySem.W.mg_of X G a_law
  have GU := PySem.W.mg_of X G gU
  have cU : Cls K CU := ⟨c1U, c2U, c3U, c4U⟩
  have kU : ∀ d : D, PySem.W.kitOne K (tyD CU d) (.ref CU) = some (isU d) := fun d => by
    cases d with
    | unk => exact kit_self
    | non => exact kit_tyC i1U i2U rfl
    | bl b => exact kit_tyC i1U i2U rfl
    | int i => exact kit_tyC i1U i2U rfl
    | str x => exact kit_tyC i1U i2U rfl
    | tup l => exact kit_tyC i1U i2U rfl
    | map ks ds => exact kit_tyC i1U i2U rfl
  have kT : ∀ t ∈ tys, PySem.W.kitOne K (.ref CU) (.type t) = some false := fun t ht => by
    simp only [tys, List.mem_cons, List.not_mem_nil, or_false] at ht
    rcases ht with rfl | rfl | rfl | rfl | rfl
    · exact kit_CT (by decide +kernel) mU_tuple
    · exact kit_CT (by decide +kernel) mU_bool
    · exact kit_CT (by decide +kernel) mU_int
    · exact kit_CT (by decide +kernel) mU_dict
    · exact kit_CT (by decide +kernel) mU_str
  have T : Txt K mg CU := ⟨B_isinstance, B_len, B_all, B_zip, B_tuple, B_dict, B_list, B_bool, B_int, B_str, B_sorted, GU, ⟨_, PySem.W.mg_of X G gL⟩, ⟨_, PySem.W.mg_of X G gM⟩, kU, kT, cU, d1U, d2U, d3U, d4U⟩
  have BU : Bare K mg "Unknown" CU := ⟨mkU, inU, kpU, GU⟩
  have U : UCls K CU fUEq := ⟨m_UEq, j_UEq, fun H a dx fs h => .base (.ins h cU d1U d2U d3U d4U), kU (.bl true), kU .unk, mU_bool⟩
  have t0 : Txt0 mg := ⟨B_int, B_len⟩
  refine ⟨PySem.W.fnOf "law" "law" (defArgs sLaw) (defBody sLaw) (defScope sLaw) .none kVlaw dclaw pmlaw anlaw cdlaw ctlaw, fun s v => .of_eq rfl, fun base _ _ => ?_⟩
  have oI : FnOk l.prog w K mg base CX0 1 finteg _ ["thing"] _ := ok_int F_integ T
  have oN : FnOk l.prog w K mg base CX0 1 fname _ ["thing"] _ := ok_name F_name T
  have oT : FnOk l.prog w K mg base CX0 2 ftag _ ["thing"] _ := ok_tag F_tag T F_name A_name B_name F_integ A_integ B_integ
  have oS : FnOk l.prog w K mg base CX0 3 fsort _ ["value"] _ := ok_sort F_sort T oT A_tag ztag B_tag
  have oP : FnOk l.prog w K mg base CX0 4 fparts _ ["one", "other"] _ := ok_parts F_parts T oS A_sort zsort B_sort
  have oU : FnOk l.prog w K mg base CX0 1 fUEq _ ["self", "other"] _ := ok_ueq F_UEq T
  have oKn : ∀ n, FnOk l.prog w K mg base CX0 (4 + n) fknown _ ["value"] (spN CU n fun d => .bl (known n d)) := fun n => by
    induction n with
    | zero => exact never0
    | succ n ih => exact ok_known (k := 4 + n) F_known T A_known B_known oT A_tag ztag B_tag (Nat.le_trans (by decide) (Nat.le_add_right 4 n)) ih
  have oSm : ∀ n, FnOk l.prog w K mg base CX0 (4 + n) fsame _ ["one", "other"] (spSame CU n) := fun n => by
    induction n with
    | zero => exact same0
    | succ n ih => exact ok_same (k := 4 + n) F_same T BU U oU B_UEq oS A_sort zsort B_sort oP A_parts zparts B_parts A_same B_same (Nat.le_trans (by decide) (Nat.le_add_right 4 n)) ih
  have oAg : FnOk l.prog w K mg base CX0 14 fagr _ ["planned", "value"] (spAgrees CU 9) := ok_agrees F_agr T (oSm 9) A_same zsame B_same
  have oLt : FnOk l.prog w K mg base CX0 1 fltag _ ["_law_value_here"] _ := ok_ltag F_ltag T
  have oLs : FnOk l.prog w K mg base CX0 2 flsort _ ["_law_value_here"] _ := ok_lsort F_lsort T oLt A_ltag zltag B_ltag
  have oLp : FnOk l.prog w K mg base CX0 3 flpairs _ ["_law_one_here", "_law_other"] _ := ok_lpairs F_lpairs T B_range oLs A_lsort zlsort B_lsort
  have oLm : ∀ n, FnOk l.prog w K mg base CX0 (4 + n) flmay _ ["_law_one_here", "_law_other"] (spMay CU n) := fun n => by
    induction n with
    | zero => exact may0
    | succ n ih => exact ok_lmay (k := 4 + n) F_lmay T oLs A_lsort zlsort B_lsort oLp A_lpairs zlpairs B_lpairs A_lmay B_lmay (Nat.le_trans (by decide) (Nat.le_add_right 4 n)) ih
  have oLo : ∀ n, FnOk l.prog w K mg base CX0 (4 + n) flopen _ ["_law_value_here"] (spN CU n fun d => .int (opn n d)) := fun n => by
    induction n with
    | zero => exact never0
    | succ n ih => exact ok_lopen (k := 4 + n) F_lopen T B_sum oLs A_lsort zlsort B_lsort A_lopen B_lopen (Nat.le_trans (by decide) (Nat.le_add_right 4 n)) ih
  have oLe : FnOk l.prog w K mg base CX0 14 flsame _ ["_law_one_here", "_law_other"] (spLSame CU 9) := ok_lsame F_lsame T BU (oLm 9) A_lmay zlmay B_lmay (oLo 9) A_lopen zlopen B_lopen
  have oLa : FnOk l.prog w K mg base CX0 4 flalike _ ["_law_one_here", "_law_other"] _ := ok_lalike F_lalike T oLs A_lsort zlsort B_lsort oLp A_lpairs zlpairs B_lpairs A_lalike B_lalike
  have oR : FnOk l.prog w K mg base CX0 15 fright _ ["_law_one_here", "_law_other"] (spRight CU 9) := ok_lright (k := 13) F_right T (by decide) (oSm 9) A_same zsame B_same oLe A_lsame zlsame B_lsame oLa A_lalike zlalike B_lalike (oKn 9) A_known zknown B_known (oLo 9) A_lopen zlopen B_lopen oAg A_agr zagr B_agr (oLm 9) A_lmay zlmay B_lmay
  have oW : FnOk l.prog w K mg base CX0 1 fwell _ ["_law_cell"] _ := ok_well F_well t0
  have oD : FnOk l.prog w K mg base CX0 1 fdraw _ ["_law_well_here", "_law_below"] _ := ok_draw F_draw t0
  have oO : FnOk l.prog w K mg base CX0 2 fone _ ["_law_well_here", "_law_some"] _ := ok_one F_one t0 F_draw A_draw B_draw
  have oV : ∀ n, FnOk l.prog w K mg base CX0 (2 + n) fval _ ["_law_well_here", "_law_deep", "_law_dim"] (spVal CU n) := fun n => by
    induction n with
    | zero => exact val0
    | succ n ih => exact ok_val (k := 2 + n) F_val T BU B_range B_enumerate oD A_draw zdraw B_draw oO A_one zone B_one A_val B_val (Nat.le_trans (by decide) (Nat.le_add_right 2 n)) ih
  have oTu : ∀ n, FnOk l.prog w K mg base CX0 (4 + n) fturn _ ["_law_well_here", "_law_value_here", "_law_dim"] (spTurn CU n) := fun n => by
    induction n with
    | zero => exact turn0
    | succ n ih => exact ok_turn (k := 4 + n) (kV := 0) F_turn T BU oD A_draw zdraw B_draw oO A_one zone B_one oLs A_lsort zlsort B_lsort (oV 2) A_val zval B_val A_turn B_turn (Nat.le_trans (by decide) (Nat.le_add_right 4 n)) ih
  exact ok_law F_law T BU U B_range B_repr oU B_UEq oW A_well zwell B_well oD A_draw zdraw B_draw (oV 4) A_val zval B_val (oTu 5) A_turn zturn B_turn (oLo 9) A_lopen zlopen B_lopen oR A_right zright B_right oLs A_lsort zlsort B_lsort
end K01
open PySem PySem.W PyProof.Rows
set_option maxRecDepth 100000 in
set_option maxHeartbeats 0 in
theorem PySem.Challenge.cw_planfirst_k01_values_that_are_the_same_holds : PySem.Challenge.rw_planfirst_k01_values_that_are_the_same.Holds := by
  w_on; o_law; k_head; (case hw => w_witness2)
  k_fill
  refine K01.walk (l := PySem.Challenge.rw_planfirst_k01_values_that_are_the_same) rfl rfl (fun w h Y => PySem.W.kIn_of Y) ?F
  case F =>
    intro w mg fa h KX G hmg
    refine' K01.all_mk KX G hmg ?gU ?c1U ?c2U ?c3U ?c4U ?mkU ?kpU ?inU ?i1U ?i2U ?d1U ?d2U ?d3U ?d4U ?mU_tuple ?mU_bool ?mU_int ?mU_dict ?mU_str ?gL ?gM ?b_isinstance ?b_len ?b_all ?b_zip ?b_tuple ?b_dict ?b_list ?b_bool ?b_int ?b_str ?b_sorted ?b_range ?b_enumerate ?b_sum ?b_repr ?a_integ ?linteg ?yinteg ?zinteg ?a_name ?lname ?yname ?zname ?a_tag ?ltag ?ytag ?ztag ?a_known ?lknown ?yknown ?zknown ?a_sort ?lsort ?ysort ?zsort ?a_parts ?lparts ?yparts ?zparts ?a_same ?lsame ?ysame ?zsame ?a_agr ?lagr ?yagr ?zagr ?a_well ?lwell ?ywell ?zwell ?a_draw ?ldraw ?ydraw ?zdraw ?a_one ?lone ?yone ?zone ?a_val ?lval ?yval ?zval ?a_ltag ?lltag ?yltag ?zltag ?a_lsort ?llsort ?ylsort ?zlsort ?a_lpairs ?llpairs ?ylpairs ?zlpairs ?a_lmay ?llmay ?ylmay ?zlmay ?a_lopen ?llopen ?ylopen ?zlopen ?a_lsame ?llsame ?ylsame ?zlsame ?a_lalike ?llalike ?ylalike ?zlalike ?a_turn ?lturn ?yturn ?zturn ?a_right ?lright ?yright ?zright ?a_law ?llaw ?ylaw ?zlaw ?m_UEq ?j_UEq ?lUEq ?yUEq ?zUEq
    (case gU => k_is)
    (case c1U => k_is)
    (case c2U => k_is)
    (case c3U => k_is)
    (case c4U => k_is)
    (case mkU => k_is)
    (case kpU => k_is)
    (case inU => k_is)
    (case i1U => k_is)
    (case i2U => k_is)
    (case d1U => k_is)
    (case d2U => k_is)
    (case d3U => k_is)
    (case d4U => k_is)
    (case mU_tuple => k_is)
    (case mU_bool => k_is)
    (case mU_int => k_is)
    (case mU_dict => k_is)
    (case mU_str => k_is)
    (case gL => k_is)
    (case gM => k_is)
    (case b_isinstance => k_is)
    (case b_len => k_is)
    (case b_all => k_is)
    (case b_zip => k_is)
    (case b_tuple => k_is)
    (case b_dict => k_is)
    (case b_list => k_is)
    (case b_bool => k_is)
    (case b_int => k_is)
    (case b_str => k_is)
    (case b_sorted => k_is)
    (case b_range => k_is)
    (case b_enumerate => k_is)
    (case b_sum => k_is)
    (case b_repr => k_is)
    (case a_integ => k_is)
    (case linteg => k_is)
    (case yinteg => k_is)
    (case zinteg => k_is)
    (case a_name => k_is)
    (case lname => k_is)
    (case yname => k_is)
    (case zname => k_is)
    (case a_tag => k_is)
    (case ltag => k_is)
    (case ytag => k_is)
    (case ztag => k_is)
    (case a_known => k_is)
    (case lknown => k_is)
    (case yknown => k_is)
    (case zknown => k_is)
    (case a_sort => k_is)
    (case lsort => k_is)
    (case ysort => k_is)
    (case zsort => k_is)
    (case a_parts => k_is)
    (case lparts => k_is)
    (case yparts => k_is)
    (case zparts => k_is)
    (case a_same => k_is)
    (case lsame => k_is)
    (case ysame => k_is)
    (case zsame => k_is)
    (case a_agr => k_is)
    (case lagr => k_is)
    (case yagr => k_is)
    (case zagr => k_is)
    (case a_well => k_is)
    (case lwell => k_is)
    (case ywell => k_is)
    (case zwell => k_is)
    (case a_draw => k_is)
    (case ldraw => k_is)
    (case ydraw => k_is)
    (case zdraw => k_is)
    (case a_one => k_is)
    (case lone => k_is)
    (case yone => k_is)
    (case zone => k_is)
    (case a_val => k_is)
    (case lval => k_is)
    (case yval => k_is)
    (case zval => k_is)
    (case a_ltag => k_is)
    (case lltag => k_is)
    (case yltag => k_is)
    (case zltag => k_is)
    (case a_lsort => k_is)
    (case llsort => k_is)
    (case ylsort => k_is)
    (case zlsort => k_is)
    (case a_lpairs => k_is)
    (case llpairs => k_is)
    (case ylpairs => k_is)
    (case zlpairs => k_is)
    (case a_lmay => k_is)
    (case llmay => k_is)
    (case ylmay => k_is)
    (case zlmay => k_is)
    (case a_lopen => k_is)
    (case llopen => k_is)
    (case ylopen => k_is)
    (case zlopen => k_is)
    (case a_lsame => k_is)
    (case llsame => k_is)
    (case ylsame => k_is)
    (case zlsame => k_is)
    (case a_lalike => k_is)
    (case llalike => k_is)
    (case ylalike => k_is)
    (case zlalike => k_is)
    (case a_turn => k_is)
    (case lturn => k_is)
    (case yturn => k_is)
    (case zturn => k_is)
    (case a_right => k_is)
    (case lright => k_is)
    (case yright => k_is)
    (case zright => k_is)
    (case a_law => k_is)
    (case llaw => k_is)
    (case ylaw => k_is)
    (case zlaw => k_is)
    (case m_UEq => k_is)
    (case j_UEq => k_is)
    (case lUEq => k_is)
    (case yUEq => k_is)
    (case zUEq => k_is)
