import PyProof.Rows.All
import Wide.All
import OpenK.AllK
import Wide.FinOn
import KE.KExcIs
import HandS.ForExc
import HandS.ForMost
import HandS.More
import HandS.Defaults
import HandS.ExcInit
import HandS.ExcValue
import HandS.RaiseMore
import HandS.IsInst
import HandS.ClsMeth
import HandS.Head0
import HandS.Head1
import HandS.Head2
import HandS.HeadEnd
import HandS.HeadHook1
import HandS.HeadHook2
import HandS.HeadHook3
import HandS.HeadHook4
import HandS.Lambda
import HandS.HeadWalk
import HandS.EndTab
import HandS.TryMany
import HandS.TupAny
import HandS.Walk
import HandS.ExcField
import HandS.ExcOwn
import HandS.Style
import HandS.DeepEq
import HandS.OwnEq
import PySem.Challenge.RW_worldcalls_k01_classes_added
set_option Elab.async false
set_option linter.all false
set_option maxRecDepth 100000
set_option maxHeartbeats 4000000
namespace Wc
open PySem PySem.Spec PyProof.Rows L2
/-! ### what the written part says of an own exception class, as one Bool -/
def excClsB (K : PySem.W.Frag) (C : Addr) : Bool := match K.lookup C with
  | some ⟨.type t, dd, .cls cd, sl⟩ => decide (t = "type") && (match cd.mro, sl.toList with
    | .ref C' :: bm, [_, _, _, _, some (.builtin n), _] => decide (C' = C) && (decide (n = "ValueError.__new__") && (!cd.hasDel && (cd.hasDict && PySem.HandSPX.refsVE bm)))
    | _, _ => false)
  | _ => false
def exB (K : PySem.W.Frag) (C : Addr) : Bool := excClsB K C && (decide (PySem.W.findIn K (.ref C) "__setattr__" = some (some (.builtin "object.__setattr__"))) &&
  (decide (PySem.W.subIn K (.ref C) (.type "BaseException") = some true) && (decide (PySem.W.typeIn K (.ref C) = some (.type "type")) && PySem.W.keepIn K (.ref C))))
theorem excClsB_ok {K : PySem.W.Frag} {C : Addr} (h : excClsB K C = true) : ∃ nm q N bs bm sn sub ab col dd k0 k1 k2 k3 k5, K.lookup C = some (excClassObj nm q C N bs bm true sn sub ab col dd k0 k1 k2 k3 k5 "ValueError.__new__") ∧ PySem.HandSPX.refsVE bm = true := by
  unfold excClsB at h
  split at h
  · rename_i t dd cd sl lk
    obtain ⟨h1, h2⟩ := He.ba h
    have et := of_decide_eq_true h1
    subst et
    split at h2
    · rename_i C' bm k0 k1 k2 k3 n k5 hm hs
      obtain ⟨h3, h4⟩ := He.ba h2
      obtain ⟨h5, h6⟩ := He.ba h4
      obtain ⟨h7, h8⟩ := He.ba h6
      obtain ⟨h9, h10⟩ := He.ba h8
      have e1 := of_decide_eq_true h3
      have e2 := of_decide_eq_true h5
      subst e1 e2
      obtain ⟨nm, bs, mro, ns, qn, hd, sn, sub, ab, col, del⟩ := cd
      dsimp only at hm h7 h9
      subst hm
      have e3 : del = false := by simpa using h7
      subst e3 h9
      have hsl : sl = #[k0, k1, k2, k3, some (.builtin "ValueError.__new__"), k5] := by
        obtain ⟨l⟩ := sl
        simp only at hs
        rw [hs]
      subst hsl
      exact ⟨nm, qn, ns, bs, bm, sn, sub, ab, col, dd, k0, k1, k2, k3, k5, lk, h10⟩
    · cases h2
  · cases h
theorem exB_ok {K : PySem.W.Frag} {C : Addr} (h : exB K C = true) : OexC K C := by
  obtain ⟨h1, h⟩ := He.ba h
  obtain ⟨h2, h⟩ := He.ba h
  obtain ⟨h3, h⟩ := He.ba h
  obtain ⟨h4, h5⟩ := He.ba h
  exact ⟨excClsB_ok h1, of_decide_eq_true h2, of_decide_eq_true h3, of_decide_eq_true h4, h5⟩
/-- reading an attribute of an exception: no hooks -/
structure ExRd (K : PySem.W.Frag) (C : Addr) : Prop where
  ga : PySem.W.findIn K (.ref C) "__getattribute__" = some (some (.builtin "BaseException.__getattribute__"))
  gg : PySem.W.findIn K (.ref C) "__getattr__" = some none
  hd : PySem.W.hasDictIn K C = true
def exRdB (K : PySem.W.Frag) (C : Addr) : Bool := decide (PySem.W.findIn K (.ref C) "__getattribute__" = some (some (.builtin "BaseException.__getattribute__"))) &&
  (decide (PySem.W.findIn K (.ref C) "__getattr__" = some none) && PySem.W.hasDictIn K C)
theorem exRdB_ok {K : PySem.W.Frag} {C : Addr} (h : exRdB K C = true) : ExRd K C := by
  obtain ⟨h1, h⟩ := He.ba h
  obtain ⟨h2, h3⟩ := He.ba h
  exact ⟨of_decide_eq_true h1, of_decide_eq_true h2, h3⟩
/-- its own __init__ is the def at f -/
structure ExIn (K : PySem.W.Frag) (C f : Addr) : Prop where
  at_ : PySem.W.findIn K (.ref C) "__init__" = some (some (.ref f))
  ty : PySem.W.typeIn K (.ref f) = some (.type "function")
def exInB (K : PySem.W.Frag) (C f : Addr) : Bool := decide (PySem.W.findIn K (.ref C) "__init__" = some (some (.ref f))) && decide (PySem.W.typeIn K (.ref f) = some (.type "function"))
theorem exInB_ok {K : PySem.W.Frag} {C f : Addr} (h : exInB K C f = true) : ExIn K C f := by
  obtain ⟨h1, h2⟩ := He.ba h
  exact ⟨of_decide_eq_true h1, of_decide_eq_true h2⟩
/-- the base class's __init__ read off the class -/
structure BaseIn (K : PySem.W.Frag) (W : Addr) : Prop where
  sp : PySem.W.specialIn K (.ref W) "__getattribute__" = some (some (.builtin "type.__getattribute__"))
  rd : PySem.W.readsIn K W (.type "type") = true
  at_ : PySem.W.findCls K (.ref W) (.type "type") "__init__" = some (.val (.builtin "ValueError.__init__"))
def baseB (K : PySem.W.Frag) (W : Addr) : Bool := decide (PySem.W.specialIn K (.ref W) "__getattribute__" = some (some (.builtin "type.__getattribute__"))) &&
  (PySem.W.readsIn K W (.type "type") && (match PySem.W.findCls K (.ref W) (.type "type") "__init__" with
    | some (.val (.builtin n)) => decide (n = "ValueError.__init__")
    | _ => false))
theorem baseB_ok {K : PySem.W.Frag} {W : Addr} (h : baseB K W = true) : BaseIn K W := by
  obtain ⟨h1, h⟩ := He.ba h
  obtain ⟨h2, h3⟩ := He.ba h
  refine ⟨of_decide_eq_true h1, h2, ?_⟩
  split at h3
  · rename_i n e
    rw [e, of_decide_eq_true h3]
  · cases h3
/-- isinstance of such an exception -/
structure ExIs (K : PySem.W.Frag) (C : Addr) : Prop where
  cl : (PySem.W.clsIn K C).isSome = true
  at_ : PySem.W.findIn K (.ref C) "__class__" = some (some (.builtin "object.__class__"))
  sp : PySem.W.specialIn K (.builtin "object.__class__") "__get__" = some (some (.builtin "getset_descriptor.__get__"))
  tk : PySem.W.takesIn K (.builtin "object.__class__") = some true
  ob : PySem.W.mroIn K C (.type "object") = some true
def exIsB (K : PySem.W.Frag) (C : Addr) : Bool := (PySem.W.clsIn K C).isSome && (decide (PySem.W.findIn K (.ref C) "__class__" = some (some (.builtin "object.__class__"))) &&
  (decide (PySem.W.specialIn K (.builtin "object.__class__") "__get__" = some (some (.builtin "getset_descriptor.__get__"))) && (decide (PySem.W.takesIn K (.builtin "object.__class__") = some true) &&
  decide (PySem.W.mroIn K C (.type "object") = some true))))
theorem exIsB_ok {K : PySem.W.Frag} {C : Addr} (h : exIsB K C = true) : ExIs K C := by
  obtain ⟨h1, h⟩ := He.ba h
  obtain ⟨h2, h⟩ := He.ba h
  obtain ⟨h3, h⟩ := He.ba h
  obtain ⟨h4, h5⟩ := He.ba h
  exact ⟨h1, of_decide_eq_true h2, of_decide_eq_true h3, of_decide_eq_true h4, of_decide_eq_true h5⟩

/-! ### the head's look: the module's names and the model's own table of statics, so many steps; facts, defs, one Bool more -/
def asC (g : Addr → Option Obj) (n : Nat) : List Addr := cStatics :: He.asD g n
abbrev AlC : Type := He.AlD × Bool
def obsC (n : Nat) (fa : List He.Fa) (fn : List He.DefD) (ex : PySem.W.Frag → Bool) (g : Addr → Option Obj) : AlC := (He.obsD fa fn (He.frG g (asC g n)), ex (He.frG g (asC g n)))
def valC (fn : List He.DefD) : AlC := (He.valD fn, true)
structure SaysC (fa : List He.Fa) (fn : List He.DefD) (ex : PySem.W.Frag → Bool) (K : PySem.W.Frag) : Prop where
  d : He.SaysD fa fn K
  more : ex K = true
theorem saysC_of {fa : List He.Fa} {fn : List He.DefD} {ex : PySem.W.Frag → Bool} {n : Nat} {g : Addr → Option Obj} (e : obsC n fa fn ex g = valC fn) : SaysC fa fn ex (He.frG g (asC g n)) :=
  ⟨congrArg (fun z : AlC => z.1) e, congrArg (fun z : AlC => z.2) e⟩
def hookC (n : Nat) (fa : List He.Fa) (fn : List He.DefD) (ex : PySem.W.Frag → Bool) : PySem.W.Hook where
  α := AlC
  obs := fun s => obsC n fa fn ex s.heap.get?
  val := fun _ => valC fn
  says := fun _ h => ∃ K : PySem.W.Frag, K.In h ∧ SaysC fa fn ex K
  of := fun _ _ e => ⟨_, He.frG_in, saysC_of e⟩
  keeps := fun _ _ _ ⟨K, hK, c⟩ k => ⟨K, PySem.W.Frag.In.keeps hK k, c⟩
theorem obsC_eq {n : Nat} {fa : List He.Fa} {fn : List He.DefD} {ex : PySem.W.Frag → Bool} {g : Addr → Option Obj} {s : Shared} (h : ∀ a, g a = s.heap.get? a) : obsC n fa fn ex g = (hookC n fa fn ex).obs s := by
  have e : g = s.heap.get? := funext h
  rw [e] <;> rfl
theorem SaysC.fact {fa : List He.Fa} {fn : List He.DefD} {ex : PySem.W.Frag → Bool} {K : PySem.W.Frag} (c : SaysC fa fn ex K) {f : He.Fa} (h : f ∈ fa) : f.ok K = true := by
  obtain ⟨i, hi, e⟩ := List.mem_iff_getElem.mp h
  exact c.d.fact i (f := f) (by rw [List.getElem?_eq_getElem hi, e])
theorem SaysC.def_ {fa : List He.Fa} {fn : List He.DefD} {ex : PySem.W.Frag → Bool} {K : PySem.W.Frag} (c : SaysC fa fn ex K) {d : He.DefD} (h : d ∈ fn) : ∃ fd, FunD K d.name d.qual d.params d.body d.scope (d.dvs K) (d.kws K) (He.fAd K d.at_) fd := by
  obtain ⟨i, hi, e⟩ := List.mem_iff_getElem.mp h
  exact c.d.def_ i (d := d) (by rw [List.getElem?_eq_getElem hi, e])
end Wc

set_option Elab.async false
set_option linter.all false
set_option maxRecDepth 100000
set_option maxHeartbeats 4000000
/-! own exceptions held as values: making, reading, isinstance, str -/
namespace Wc
open PySem PySem.Spec PyProof.Rows L2
section
variable {X : Cx} {o e : Expr} {es : List Expr} {to te : TE} {ta : TA} {f : Str} {p p' p1 p2 pos : Pos}
/-- W.__init__(self, ..), W an own class over ValueError -/
theorem pe_winit {x : Str} {W : Addr} {pl : Sem Bool} (hg : Gl X x) (hm : X.mg x = some (.ref W)) (B : BaseIn X.K W) (ha : PA X (e :: es) ta) (hdb : (x == ("__debug__" : Str)) = false := by decide)
    (hc : eval (.Call (.Attribute (.Name x p1) "__init__" p2) (e :: es) [] pos) X.env = (do
      let ov ← eval (.Name x p1) X.env
      standAt p2.atName
      let (f, first) ← holding [ov] (getMethod ov "__init__" pl)
      callWith pos f first (backTo pos (starEach (e :: es) X.env)) (backToKw pos (keywordEach [] X.env))) := by rfl)
    (he : starEach (e :: es) X.env = (false, eval e X.env) :: starEach es X.env := by rfl) (hpl : (backTo pos (starEach es X.env)).any (·.1) = false := by rfl) :
    PE X (.Call (.Attribute (.Name x p1) "__init__" p2) (e :: es) [] pos) (tVeI X.K ta) := by
  refine ⟨fun pins s σ H Q I h => ?_⟩
  refine PySem.W.methodCall_KW (ld_glob I hg hm ?_ hdb) hc
  refine PySem.W.method_cls I.kIn B.sp ?_
  refine PySem.W.cls_value I.kIn B.rd B.at_ (by rfl) ?_
  show wpAny _ _ (callWith pos (Value.builtin "ValueError.__init__") [] (backTo pos (starEach (e :: es) X.env)) []) _ _ _
  refine PyProof.Rows.callWith_method1 (thn (ha.run pos pins _ σ H _ (I.tok _) h) fun us s1 ⟨vs, H1, I1, r1, a, C, ws, ev, hl, T, ea, q⟩ => ?_) he hpl
  subst ev
  cases r1 with
  | @cons _ u0 _ ur ra rw' =>
    obtain rfl : u0 = Value.ref a := ra
    have hlen : ur.length ≤ sizeLine := by
      rw [← Paired.length rw', sizeLine_eq]
      omega
    exact oinit_ok T I1 ea hlen fun s' J => ⟨.non, H1, J, rfl, q⟩
/-- C(e, ..) as a value, C's own __init__ keeping sp -/
def tMkV (C : Addr) (sp : Sp) (ta : TA) : TE := fun σ H Q => ta σ H fun vs H1 => vs.length ≤ 1000 ∧ ∀ a, H1 a = none → sp (.ref a :: vs) (upd H1 a (exo a C none)) (fun v H2 => v = .non ∧ Q (.ref a) H2) E0
theorem pe_mkv {CX : CXT} {x : Str} {C fI : Addr} {k : Nat} {fd : FuncData} {ps : List Str} {sp : Sp} (T : OexC X.K C) (J : ExIn X.K C fI)
    (F1 : FnOk X.prog X.w X.K X.mg X.base CX k fI fd ps sp) (hr : Room (k + 1) X.A) (hb : Binds X.K fd ps []) (hx : Passes CX X E0) (hg : Gl X x) (hm : X.mg x = some (.ref C)) (ha : PA X (e :: es) ta)
    (hdb : (x == ("__debug__" : Str)) = false := by decide) (he : starEach (e :: es) X.env = (false, eval e X.env) :: starEach es X.env := by rfl) (hpl : (backTo pos (starEach es X.env)).any (·.1) = false := by rfl) :
    PE X (.Call (.Name x p) (e :: es) [] pos) (tMkV C sp ta) := by
  refine ⟨fun pins s σ H Q I h => ?_⟩
  obtain ⟨nm, q, N, bs, bm, sn, sub, ab, col, dd, k0, k1, k2, k3, k5, hC, hbm⟩ := T.cls
  refine wpAny_Call_Name_kw (ld_glob I hg hm ?_ hdb)
  refine PySem.W.callWith_K (h₀ := X.base) I.ok.mod.kin T.kC (thn (ha.run pos pins s σ H _ I h) fun us s1 ⟨vs, H1, I1, r1, hz, q1⟩ => ⟨I1.kIn, ?_⟩) he hpl
  show wpAny _ _ (call (.ref C) us) _ _ _
  obtain ⟨hp, g, dr, tk, os⟩ := s1
  have hsz : hp.objs.size ≤ hp.objs.size + 1 := Nat.le_succ _
  have hn : H1 (hp.objs.size + 1) = none := I1.hok.fresh hsz
  have hq := q1 (hp.objs.size + 1) hn
  have kk : ∀ b o, hp.get? b = some o → ((hp.push (PySem.W.kdv_tup us)).push (PySem.HandSPX.excO C hp.objs.size)).get? b = some o := fun b o e => Heap.get?_push_of_some _ (Heap.get?_push_of_some _ e)
  have hget : ((hp.push (PySem.W.kdv_tup us)).push (PySem.HandSPX.excO C hp.objs.size)).get? (hp.objs.size + 1) = some (PySem.HandSPX.excO C hp.objs.size) := by heap_get
  have I2 : Inv X pins σ (upd H1 (hp.objs.size + 1) (exo (hp.objs.size + 1) C none)) ⟨(hp.push (PySem.W.kdv_tup us)).push (PySem.HandSPX.excO C hp.objs.size), g, dr, tk, os⟩ :=
    I1.laid (t' := tk) (a := hp.objs.size + 1) (o := exo (hp.objs.size + 1) C none) (h' := (hp.push (PySem.W.kdv_tup us)).push (PySem.HandSPX.excO C hp.objs.size)) kk hsz (exo_ok hget)
  have r2 : Vals (V.ref (hp.objs.size + 1) :: vs) (Value.ref (hp.objs.size + 1) :: us) := .cons rfl r1
  have hl : (Value.ref (hp.objs.size + 1) :: us).length = ps.length := by
    have e := r2.length
    rw [F1.len _ _ _ _ hq] at e
    exact e.symm
  have hus : us.length ≤ sizeLine := by
    rw [← Paired.length r1, sizeLine_eq]
    omega
  have b := hb _ (Value.ref (hp.objs.size + 1) :: us) I2.kIn (by rw [List.append_nil]; exact hl)
  rw [List.append_nil] at b
  refine wpAny_call (PySem.HandSPX.call_own F.excBase_ValueError (fun Y => PySem.HandSPX.refsVE_contains Y bm hbm) (I1.kIn _ _ hC) (PySem.W.looks_findIn I1.kIn J.at_) (fun self => PySem.W.bind_fn I1.kIn self J.ty) hus
    (codeAny_mono (F1.run _ X.stack _ _ ⟨Value.ref (hp.objs.size + 1) :: us, []⟩ (Value.ref (hp.objs.size + 1) :: us) _ _ E0 (hr.make C us []) (I2.env0.make C us []) b r2 hq) fun r s' hq' => ?_))
  cases r with
  | error er => exact hx pins σ _ _ er s' I2 hq'
  | ok fl =>
    cases fl with
    | ret u =>
      obtain ⟨v, H2, I3, rv, ev, q2⟩ := I2.after hq'
      subst ev
      exact ⟨rv, .ref (hp.objs.size + 1), H2, I3, rfl, q2⟩
    | next => exact False.elim hq'
    | brk => exact False.elim hq'
    | cont => exact False.elim hq'
/-- e.f, e an exception with a dict of its own -/
def tXfld (K : PySem.W.Frag) (te : TE) (f : Str) : TE := fun σ H Q => te σ H fun x H1 => ∃ (a C d : Addr) (fs : List (Str × V)) (v : V), x = .ref a ∧ H1 a = some (exo a C (some d)) ∧ H1 d = some (exd d fs) ∧ ExRd K C ∧ OexC K C ∧ NoAttr K C f ∧ fs.lookup f = some v ∧ Q v H1
theorem pe_xfld (he : PE X e te) (hb : attributeBase e f X.env (eval e X.env) = eval e X.env) : PE X (.Attribute e f pos) (tXfld X.K te f) := by
  refine ⟨fun pins s σ H Q I h => ?_⟩
  refine attr_of hb (thn (he.run pins s σ H _ I h) fun u s1 hh => ?_)
  obtain ⟨x, H1, I1, rx, a, C, d, fs, v, ex, ea, ed, R, T, n, l, q⟩ := hh
  subst ex
  obtain rfl : u = Value.ref a := rx
  obtain ⟨t1, ho⟩ := exo_at I1.hok ea
  obtain ⟨mA, hns, rel⟩ := exd_at I1.hok ed
  obtain ⟨od, hod, hl⟩ := lookIn_ns hns
  obtain ⟨u, hu, ru⟩ := RelO.some_of (v := v) (o := mA f) (by rw [← l]; exact rel f)
  have J : PySem.W.InstAt s1.heap a _ C (some od) := ⟨ho, rfl, rfl, hod⟩
  exact PySem.HandSPX.exc_get I1.kIn J R.ga R.gg T.exC (PySem.W.findObj_own R.hd n rfl (by rw [hl, hu])) (handed_of ru) ⟨v, H1, I1.tok _, ru, q⟩
/-- an exception made with arguments (the tuple at t), no dict -/
def exo1 (e C t : Addr) : HO := .ext fun h => h.get? e = some ({ cls := .ref C, dict := none, data := .fields #[.ref t, .none, .none, .none, .bool false, .none] } : Obj)
theorem exo1_ok {P : Program} {w : World} {H : Hp} {h : Heap} {e C t : Addr} (he : h.get? e = some ({ cls := .ref C, dict := none, data := .fields #[.ref t, .none, .none, .none, .bool false, .none] } : Obj)) : ObjOk P w H h e (exo1 e C t) :=
  ⟨he, ⟨_, he⟩, fun h1 h2 z k => k _ z⟩
theorem exo1_at {P : Program} {w : World} {H : Hp} {h : Heap} {e C t : Addr} (hok : HOk P w H h) (he : H e = some (exo1 e C t)) : h.get? e = some ({ cls := .ref C, dict := none, data := .fields #[.ref t, .none, .none, .none, .bool false, .none] } : Obj) := by
  have x : ObjOk P w H h e (.ext _) := hok e _ he
  exact x.1
/-- an exception of the class at C stands at a -/
def ExAt (H : Hp) (a C : Addr) : Prop := (∃ d fs, H a = some (exo a C (some d)) ∧ H d = some (exd d fs)) ∨ ∃ t, H a = some (exo1 a C t)
theorem ExAt.inst {P : Program} {w : World} {H : Hp} {h : Heap} {a C : Addr} (x : ExAt H a C) (hok : HOk P w H h) : ∃ ox od, PySem.W.InstAt h a ox C od := by
  rcases x with ⟨d, fs, ea, ed⟩ | ⟨t, ea⟩
  · obtain ⟨t1, ho⟩ := exo_at hok ea
    obtain ⟨mA, hns, rel⟩ := exd_at hok ed
    obtain ⟨od, hod, hl⟩ := lookIn_ns hns
    exact ⟨_, some od, ho, rfl, rfl, hod⟩
  · exact ⟨_, none, exo1_at hok ea, rfl, rfl, trivial⟩
/-- isinstance(e, c), e such an exception -/
def rIsiE (K : PySem.W.Frag) : List V → Hp → VK → Prop := fun xs H Q => ∃ (a C : Addr) (c : V) (u : Value) (b : Bool), xs = [.ref a, c] ∧ ClsV c u ∧ ExAt H a C ∧ ExIs K C ∧ ExRd K C ∧ PySem.W.subIn K (.ref C) (.type "BaseException") = some true ∧ PySem.W.kitOne K (.ref C) u = some b ∧ Q (.bl b) H
theorem call_isiE : CallR X (.builtin "isinstance") (rIsiE X.K) := by
  intro pins s σ H xs us Q I r h
  obtain ⟨a, C, c, u, b, rfl, k, ex, S, R, sb, e, q⟩ := h
  obtain ⟨u1, u2, rfl, r1, r2⟩ := vals2 r
  obtain rfl : u1 = Value.ref a := r1
  have e2 := k.eq r2
  subst e2
  obtain ⟨ox, od, J⟩ := ex.inst I.hok
  exact PySem.W.kia_one (PySem.W.kitx_exc (x := a) (ox := ox) (od := od) S.cl R.ga R.gg sb S.at_ S.sp S.tk S.ob) I.kIn J e (by intro z; cases z) fun tk => ⟨.bl b, H, I.tok tk, rfl, q⟩
/-- X(e), an own exception class without own __init__, as a value: a new exception object and its tuple of arguments -/
theorem pe_exc1t {C : Addr} {bmB : List Value} {B newId initId : String} {x : Str} {p pos : Pos} (F : ExcBaseFacts B newId initId bmB) (q : PySem.W.excIn X.K C bmB newId = true) (gC : X.mg x = some (.ref C)) (kC : PySem.W.keepIn X.K (.ref C) = true) (hg : Gl X x)
    (he : PE X e te) (hs : starEach [e] X.env = (false, eval e X.env) :: starEach [] X.env := by rfl) (hdb : (x == ("__debug__" : Str)) = false := by decide) :
    PE X (.Call (.Name x p) [e] [] pos) (fun σ H Q => te σ H fun v H1 => ∀ a t, H1 a = none → H1 t = none → a ≠ t → Q (.ref a) (upd (upd H1 t (.tup [v])) a (exo1 a C t))) := by
  refine ⟨fun pins s σ H Q I h => ?_⟩
  refine wpAny_Call_Name_kw (ld_glob I hg gC ?_ hdb)
  refine PySem.W.callWith_K (h₀ := X.base) I.ok.mod.kin kC ?_ hs (by rfl)
  rw [hs]
  show wpAny _ _ (spliced ((false, eval e X.env) :: backTo pos (starEach [] X.env))) _ _ s
  refine Calls.spliced_cons (thn (he.run pins s σ H _ I h) fun u s1 ⟨v, H1, I1, r1, q1⟩ => ?_)
  refine Calls.spliced_nil ⟨I1.kIn, ?_⟩
  show wpAny _ _ (call (.ref C) [u]) _ _ _
  obtain ⟨bm, N, nm, qn, bs, hdct, sn, sub, ab, col, dd, k0, k1, k2, k3, k5, mN, hC, hN, hni, T⟩ := exc_obj I1.kIn q
  refine wpAny_call_exc_subT F T hC hN hni (fun h' a hm => ?_) (by show 1 ≤ sizeLine; rw [sizeLine_eq]; omega)
  obtain ⟨t, ht, ht0, htup⟩ := hm.there
  have hna : H1 a = none := I1.hok.gone hm.new
  have hnt : H1 t = none := I1.hok.gone ht0
  have hne : t ≠ a := fun z => by
    rw [z, ht] at htup
    cases htup
  obtain ⟨G, g1, g2⟩ := restrict h' fun b => decide (b ≠ a)
  have gk : ∀ b, b ≠ a → G.get? b = h'.get? b := fun b hb => g1 b (decide_eq_true hb)
  have ge : G.get? a = none := g2 a (by simp)
  have gs : ∀ b o, G.get? b = some o → h'.get? b = some o := fun b o e => by
    by_cases hb : b = a
    · rw [hb, ge] at e
      cases e
    · rw [← gk b hb]
      exact e
  have k1 : ∀ b o, s1.heap.get? b = some o → G.get? b = some o := fun b o e => by
    have hb : b ≠ a := fun z => by
      have z2 := hm.new
      rw [← z] at z2
      have e' : s1.heap.get? b = some o := e
      have z3 : s1.heap.get? b = none := z2
      rw [z3] at e'
      cases e'
    rw [gk b hb]
    exact hm.keeps b o e
  have ob1 : ObjOk X.prog X.w (upd H1 t (.tup [v])) G t (.tup [v]) := ⟨by show 1 ≤ sizeLine; rw [sizeLine_eq]; omega, [u], .cons r1 .nil, _, (gk t hne).trans htup, rfl, _, rfl⟩
  have J1 : Inv X pins σ (upd H1 t (.tup [v])) { s1 with heap := G } := I1.laidN (t' := s1.toks) k1 ht0 hnt ob1
  have hna2 : upd H1 t (.tup [v]) a = none := by
    rw [upd_ne (Ne.symm hne)]
    exact hna
  have J2 : Inv X pins σ (upd (upd H1 t (.tup [v])) a (exo1 a C t)) { s1 with heap := h' } := J1.laidN (t' := s1.toks) gs ge hna2 (exo1_ok ht)
  exact ⟨.ref a, _, J2, rfl, q1 a t hna hnt (Ne.symm hne)⟩
/-- str(e), e made with one text -/
theorem call_str_exc (hu : X.A.units + 2 < cLine) : CallR X (.type "str") (fun xs H Q => ∃ (a C t : Addr) (m : Str), xs = [.ref a] ∧ H a = some (exo1 a C t) ∧ H t = some (.tup [.str m]) ∧ PySem.W.findIn X.K (.ref C) "__str__" = some (some (.builtin "BaseException.__str__")) ∧
    PySem.W.subIn X.K (.ref C) (.type "BaseException") = some true ∧ Q (.str m) H) := by
  intro pins s σ H xs us Q I r h
  obtain ⟨a, C, t, m, rfl, ea, et, fs, sb, q⟩ := h
  obtain ⟨u1, rfl, r1⟩ := vals1 r
  obtain rfl : u1 = Value.ref a := r1
  have ho := exo1_at I.hok ea
  obtain ⟨_, its, rv, o, h1, h2, n, h3⟩ := (show ObjOk X.prog X.w H s.heap t (.tup [.str m]) from I.hok t _ et)
  cases rv with
  | cons ra rn =>
    cases rn
    obtain ⟨tk, rfl⟩ := ra
    exact PySem.P.str_of_C_one hu ⟨I.kIn, _, _, ho, rfl, rfl, rfl⟩ ⟨o, n, h1, h2, by simpa using h3⟩ fs sb ⟨.str m, H, I, ⟨_, rfl⟩, q⟩
end
end Wc

set_option Elab.async false
set_option linter.all false
set_option maxRecDepth 100000
set_option maxHeartbeats 4000000
/-! steps through readings; what is known of the heap as a list -/
namespace Wc
open PySem PySem.Spec PyProof.Rows L2
abbrev Ext (H H' : Hp) : Prop := ∀ a o, H a = some o → H' a = some o
theorem Ext.refl (H : Hp) : Ext H H := fun _ _ h => h
theorem Ext.trans {H H1 H2 : Hp} (a : Ext H H1) (b : Ext H1 H2) : Ext H H2 := fun x o h => b x o (a x o h)
theorem Ext.new {H : Hp} {p : Addr} {o : HO} (h : H p = none) : Ext H (upd H p o) := fun a u e => by
  rw [upd_ne (ne_of_none e h)]
  exact e
theorem Ext.free {H H' : Hp} (e : Ext H H') {l : Addr} (h : H' l = none) : H l = none := by
  cases q : H l with
  | none => rfl
  | some o =>
    rw [e l o q] at h
    cases h
theorem Ext.l {K : PySem.W.Frag} {H H' : Hp} {a : Addr} {xs : List V} (e : Ext H H') (h : SqL K H a xs) : SqL K H' a xs := by
  rcases h with (h | ⟨o, h⟩) | h
  · exact .inl (.inl (e _ _ h))
  · exact .inl (.inr ⟨o, e _ _ h⟩)
  · exact .inr h
theorem Ext.t {K : PySem.W.Frag} {H H' : Hp} {a : Addr} {xs : List V} (e : Ext H H') (h : SqT K H a xs) : SqT K H' a xs := by
  rcases h with (h | ⟨o, h⟩) | h
  · exact .inl (.inl (e _ _ h))
  · exact .inl (.inr ⟨o, e _ _ h⟩)
  · exact .inr h
/-- the heap beside the addresses A is as it was -/
def Fr (A : List Addr) (H H' : Hp) : Prop := ∀ a o, a ∉ A → H a = some o → H' a = some o
theorem Ext.fr {H H' : Hp} {A : List Addr} (e : Ext H H') : Fr A H H' := fun a o _ h => e a o h
theorem Fr.trans {A : List Addr} {H H1 H2 : Hp} (a : Fr A H H1) (b : Fr A H1 H2) : Fr A H H2 := fun x o n h => b x o n (a x o n h)
theorem Fr.updE {A : List Addr} {H : Hp} {p : Addr} {o : HO} (h : p ∈ A) : Fr A H (upd H p o) := fun a u n e => by
  rw [upd_ne (fun z => n (by rw [z]; exact h))]
  exact e
theorem Fr.refl (A : List Addr) (H : Hp) : Fr A H H := fun _ _ _ h => h
theorem Fr.sql {K : PySem.W.Frag} {A : List Addr} {H H' : Hp} {a : Addr} {xs : List V} (e : Fr A H H') (n : a ∉ A) (h : SqL K H a xs) : SqL K H' a xs := by
  rcases h with (h | ⟨o, h⟩) | h
  · exact .inl (.inl (e _ _ n h))
  · exact .inl (.inr ⟨o, e _ _ n h⟩)
  · exact .inr h
theorem Fr.mono {A B : List Addr} {H H' : Hp} (e : Fr A H H') (h : ∀ a, a ∈ A → a ∈ B) : Fr B H H' := fun a o n x => e a o (fun z => n (h a z)) x
/-- what is known: these addresses, no two alike, hold these; what H0 held stands but at M -/
structure KH (H0 : Hp) (M : List Addr) (L : List (Addr × HO)) (H : Hp) : Prop where
  at_ : ∀ (j : Nat) (p : Addr) (o : HO), L[j]? = some (p, o) → H p = some o
  nd : (L.map (·.1)).Nodup
  fr : Fr M H0 H
  md : ∀ a, a ∈ M → ∃ o, H a = some o
section
variable {H0 H H' : Hp} {M : List Addr} {L : List (Addr × HO)} {p : Addr} {o o' : HO}
theorem KH.start : KH H [] [] H := ⟨fun j p o h => by simp at h, List.nodup_nil, Fr.refl _ _, fun a h => by simp at h⟩
theorem KH.start1 (h : H p = some o) : KH H [p] [(p, o)] H := ⟨fun j q u e => by
    cases j with
    | zero =>
      simp at e
      obtain ⟨rfl, rfl⟩ := e
      exact h
    | succ j => simp at e, by simp, Fr.refl _ _, fun a q => by
    have e : a = p := by simpa using q
    exact ⟨o, by rw [e]; exact h⟩⟩
theorem KH.get (k : KH H0 M L H) (j : Nat) (h : L[j]? = some (p, o)) : H p = some o := k.at_ j p o h
theorem KH.mem (k : KH H0 M L H) (h : p ∈ L.map (·.1)) : ∃ o, H p = some o := by
  obtain ⟨q, hq, rfl⟩ := List.mem_map.mp h
  obtain ⟨j, hj⟩ := List.getElem?_of_mem hq
  exact ⟨q.2, k.at_ j q.1 q.2 hj⟩
theorem KH.ext (k : KH H0 M L H) (e : Ext H H') : KH H0 M L H' := ⟨fun j p o h => e p o (k.at_ j p o h), k.nd, k.fr.trans e.fr, fun a h => by
  obtain ⟨o, z⟩ := k.md a h
  exact ⟨o, e _ _ z⟩⟩
theorem KH.fresh (k : KH H0 M L H) (h : H p = none) : H0 p = none := by
  cases q : H0 p with
  | none => rfl
  | some o =>
    have n : p ∉ M := fun z => by
      obtain ⟨u, e⟩ := k.md p z
      rw [h] at e
      cases e
    have z := k.fr p o n q
    rw [h] at z
    cases z
theorem KH.cons (k : KH H0 M L H) (h : H p = some o) (n : p ∉ L.map (·.1)) : KH H0 M ((p, o) :: L) H := by
  refine ⟨fun j q u e => ?_, ?_, k.fr, k.md⟩
  · cases j with
    | zero =>
      simp at e
      obtain ⟨rfl, rfl⟩ := e
      exact h
    | succ j =>
      simp at e
      exact k.at_ j q u e
  · rw [List.map_cons, List.nodup_cons]
    exact ⟨n, k.nd⟩
theorem KH.new (k : KH H0 M L H) (h : H p = none) : KH H0 M ((p, o) :: L) (upd H p o) := by
  refine (k.ext (Ext.new h)).cons upd_same fun m => ?_
  obtain ⟨o', z⟩ := k.mem m
  rw [h] at z
  cases z
theorem KH.tail {q : Addr × HO} (k : KH H0 M (q :: L) H) : KH H0 M L H :=
  ⟨fun j q u e => k.at_ (j + 1) q u (by simpa using e), by have z := k.nd; rw [List.map_cons, List.nodup_cons] at z; exact z.2, k.fr, k.md⟩
theorem KH.forget (k : KH H0 M L H) : KH H0 M [] H := ⟨fun j p o h => by simp at h, List.nodup_nil, k.fr, k.md⟩
theorem KH.take (k : KH H0 M L H) (n : Nat) : KH H0 M (L.take n) H := by
  refine ⟨fun j q u e => k.at_ j q u ?_, ?_, k.fr, k.md⟩
  · rw [List.getElem?_take] at e
    split at e
    · exact e
    · cases e
  · rw [List.map_take]
    exact List.Nodup.sublist (List.take_sublist _ _) k.nd
theorem KH.consN (k : KH H0 M L H) (e : Ext H H') (n : H p = none) (h : H' p = some o) : KH H0 M ((p, o) :: L) H' := (k.ext e).cons h fun m => by
  obtain ⟨u, z⟩ := k.mem m
  rw [n] at z
  cases z
theorem KH.rebaseM (k : KH H0 M L H) (M' : List Addr) (h : ∀ a, a ∈ M' → ∃ o, H a = some o) : KH H M' L H := ⟨k.at_, k.nd, Fr.refl _ _, h⟩
theorem KH.rebase1 (k : KH H0 M L H) {q : Addr} {u : HO} (h : H q = some u) : KH H [q] L H := ⟨k.at_, k.nd, Fr.refl _ _, fun a z => by
  have e : a = q := by simpa using z
  exact ⟨u, by rw [e]; exact h⟩⟩
theorem KH.rebase (k : KH H0 M L H) : KH H [] L H := ⟨k.at_, k.nd, Fr.refl _ _, fun a h => by simp at h⟩
theorem KH.ne (k : KH H0 M L H) (i j : Nat) {p q : Addr} {o u : HO} (hi : L[i]? = some (p, o)) (hj : L[j]? = some (q, u)) (hn : i ≠ j) : p ≠ q := fun e => by
  have h1 : (L.map (·.1))[i]? = some p := by rw [List.getElem?_map, hi] <;> rfl
  have h2 : (L.map (·.1))[j]? = some q := by rw [List.getElem?_map, hj] <;> rfl
  rw [← e] at h2
  exact hn (nd_ix k.nd h1 h2)
theorem map_set_fst {j : Nat} (hj : L[j]? = some (p, o)) : (L.set j (p, o')).map (·.1) = L.map (·.1) := by
  apply List.ext_getElem?
  intro i
  rw [List.getElem?_map, List.getElem?_map, List.getElem?_set]
  by_cases e : j = i
  · subst e
    rw [if_pos rfl]
    obtain ⟨hlt, _⟩ := List.getElem?_eq_some_iff.mp hj
    rw [if_pos hlt, hj]
    rfl
  · rw [if_neg e]
/-- behind a change of one known address (one of M, or a new one) -/
theorem KH.setE (k : KH H0 M L H) (j : Nat) (hj : L[j]? = some (p, o)) (f : Fr [p] H H') (h : H' p = some o') (hm : p ∈ M ∨ H0 p = none) : KH H0 M (L.set j (p, o')) H' := by
  refine ⟨fun i q u e => ?_, by rw [map_set_fst hj]; exact k.nd, fun a u n z => ?_, fun a ha => ?_⟩
  · rw [List.getElem?_set] at e
    by_cases c : j = i
    · subst c
      obtain ⟨hlt, _⟩ := List.getElem?_eq_some_iff.mp hj
      rw [if_pos rfl, if_pos hlt] at e
      have e2 := Option.some.inj e
      injection e2 with e3 e4
      subst e3 e4
      exact h
    · rw [if_neg c] at e
      have ne := k.ne i j e hj (fun z => c z.symm)
      exact f q u (by simpa using ne) (k.at_ i q u e)
  · have ne : a ≠ p := fun q => by
      rcases hm with m | m
      · exact n (by rw [q]; exact m)
      · rw [q, m] at z
        cases z
    exact f a u (by simpa using ne) (k.fr a u n z)
  · by_cases c : a = p
    · exact ⟨o', by rw [c]; exact h⟩
    · obtain ⟨u, z⟩ := k.md a ha
      exact ⟨u, f a u (by simpa using c) z⟩
theorem KH.set (k : KH H0 M L H) (j : Nat) (hj : L[j]? = some (p, o)) (hm : p ∈ M ∨ H0 p = none) : KH H0 M (L.set j (p, o')) (upd H p o') := k.setE j hj (Fr.updE (by simp)) upd_same hm
end
/-- where it stands, found step by step -/
inductive Look : List (Addr × HO) → Addr → HO → Prop where
  | here {L : List (Addr × HO)} {p : Addr} {o : HO} : Look ((p, o) :: L) p o
  | there {q : Addr × HO} {L : List (Addr × HO)} {p : Addr} {o : HO} (h : Look L p o) : Look (q :: L) p o
theorem Look.ix {L : List (Addr × HO)} {p : Addr} {o : HO} (l : Look L p o) : ∃ j : Nat, L[j]? = some (p, o) := by
  induction l with
  | here => exact ⟨0, rfl⟩
  | there _ ih =>
    obtain ⟨j, e⟩ := ih
    exact ⟨j + 1, by simpa using e⟩
theorem KH.find {H0 H : Hp} {M : List Addr} {L : List (Addr × HO)} {p : Addr} {o : HO} (k : KH H0 M L H) (l : Look L p o) : H p = some o := by
  obtain ⟨j, e⟩ := l.ix
  exact k.get j e
inductive UpL : List (Addr × HO) → Addr → HO → HO → List (Addr × HO) → Prop where
  | here {L : List (Addr × HO)} {p : Addr} {o o' : HO} : UpL ((p, o) :: L) p o o' ((p, o') :: L)
  | there {q : Addr × HO} {L L' : List (Addr × HO)} {p : Addr} {o o' : HO} (h : UpL L p o o' L') : UpL (q :: L) p o o' (q :: L')
theorem UpL.ix {L L' : List (Addr × HO)} {p : Addr} {o o' : HO} (l : UpL L p o o' L') : ∃ j : Nat, L[j]? = some (p, o) ∧ L' = L.set j (p, o') := by
  induction l with
  | here => exact ⟨0, rfl, rfl⟩
  | there _ ih =>
    obtain ⟨j, e, e2⟩ := ih
    exact ⟨j + 1, by simpa using e, by rw [e2] <;> rfl⟩
theorem KH.up {H0 H H' : Hp} {M : List Addr} {L L' : List (Addr × HO)} {p : Addr} {o o' : HO} (k : KH H0 M L H) (l : UpL L p o o' L') (f : Fr [p] H H') (h : H' p = some o') (hm : p ∈ M ∨ H0 p = none) : KH H0 M L' H' := by
  obtain ⟨j, e, e2⟩ := l.ix
  rw [e2]
  exact k.setE j e f h hm
inductive SetAt : List (Option V) → Nat → V → List (Option V) → Prop where
  | here {x : Option V} {l : List (Option V)} {v : V} : SetAt (x :: l) 0 v (some v :: l)
  | there {x : Option V} {l l' : List (Option V)} {i : Nat} {v : V} (h : SetAt l i v l') : SetAt (x :: l) (i + 1) v (x :: l')
theorem SetAt.eq {l l' : List (Option V)} {i : Nat} {v : V} (h : SetAt l i v l') : l.set i (some v) = l' := by
  induction h with
  | here => rfl
  | there _ ih => rw [List.set_cons_succ, ih]
inductive GetAt : List (Option V) → Nat → V → Prop where
  | here {l : List (Option V)} {v : V} : GetAt (some v :: l) 0 v
  | there {x : Option V} {l : List (Option V)} {i : Nat} {v : V} (h : GetAt l i v) : GetAt (x :: l) (i + 1) v
theorem GetAt.eq {l : List (Option V)} {i : Nat} {v : V} (h : GetAt l i v) : l[i]? = some (some v) := by
  induction h with
  | here => rfl
  | there _ ih => simpa using ih
/-- a new object o is laid and handed on; an object of ours becomes o -/
def AllocO (o : HO) (Q : VK) (H : Hp) : Prop := ∀ p, H p = none → Q (.ref p) (upd H p o)
def UpdO (p : Addr) (o : HO) (R : Hp → Prop) (H : Hp) : Prop := R (upd H p o)
theorem AllocO.mk {o : HO} {Q : VK} {H0 H : Hp} {M : List Addr} {L : List (Addr × HO)} (k : KH H0 M L H) (h : ∀ p H', H0 p = none → KH H0 M ((p, o) :: L) H' → Q (.ref p) H') : AllocO o Q H := fun p hp => h p _ (k.fresh hp) (k.new hp)
theorem UpdO.mk {o o' : HO} {p : Addr} {R : Hp → Prop} {H0 H : Hp} {M : List Addr} {L L' : List (Addr × HO)} (k : KH H0 M L H) (hj : UpL L p o o' L') (hm : p ∈ M ∨ H0 p = none) (h : ∀ H', KH H0 M L' H' → R H') : UpdO p o' R H := h _ (k.up hj (Fr.updE (by simp)) upd_same hm)
theorem sz_of {n : Nat} (h : n ≤ 100000) : n ≤ sizeLine := Nat.le_trans h (by decide)
theorem sz_lt {n : Nat} (h : n < 100000) : n < sizeLine := Nat.lt_of_lt_of_le h (by decide)
section
variable {D : Ends} {σ : L2.St} {H : Hp} {Q : VK} {K : PySem.W.Frag}
theorem r_iteT {c : Bool} {A B : Prop} (hc : c = true) (h : A) : if c = true then A else B := by
  rw [if_pos hc]
  exact h
theorem r_iteF {c : Bool} {A B : Prop} (hc : c = false) (h : B) : if c = true then A else B := by
  rw [hc, if_neg Bool.false_ne_true]
  exact h
theorem r_seq {t u : TS} (h : t { D with nx := u D } σ H) : tSeq t u D σ H := h
theorem r_next (h : D.nx σ H) : tNext D σ H := h
theorem r_asg {te : TE} {g : TG} (h : te σ H fun x H1 => g x σ H1 D.nx) : tAsg te g D σ H := h
theorem r_drop {te : TE} (h : te σ H fun _ H1 => D.nx σ H1) : tDrop te D σ H := h
theorem r_ret {te : TE} (h : te σ H D.rt) : tRet te D σ H := h
theorem r_retN (h : D.rt .non H) : tRetN D σ H := h
theorem r_ifs {c : TT} {t u : TS} (h : c σ H fun b H1 => if b = true then t D σ H1 else u D σ H1) : tIfS c t u D σ H := h
theorem r_cont (h : D.ct σ H) : tCont D σ H := h
theorem r_break (h : D.bk σ H) : tBreak D σ H := h
theorem r_var {i : Nat} {v : V} (h : GetAt σ i v) (q : Q v H) : tVar i σ H Q := ⟨v, h.eq, q⟩
theorem r_c {v : V} (q : Q v H) : tC v σ H Q := q
theorem r_op {r : R2} {ta tb : TE} (h : ta σ H fun x H1 => tb σ H1 fun y H2 => r x y H2 Q) : tOp r ta tb σ H Q := h
theorem r_un {r : V → Hp → VK → Prop} {ta : TE} (h : ta σ H fun x H1 => r x H1 Q) : tUn r ta σ H Q := h
theorem r_test {te : TE} {R : Bool → Hp → Prop} (h : te σ H fun x H' => ∃ k, x = .bl k ∧ R k H') : tTest te σ H R := h
theorem r_tB {te : TE} {R : Bool → Hp → Prop} (h : te σ H fun x H' => ∃ k, x = .bl k ∧ R k H') : tB te σ H R := h
theorem r_not {t : TT} {R : Bool → Hp → Prop} (h : t σ H fun c H1 => R (!c) H1) : tNot t σ H R := h
theorem r_and {t u : TT} {R : Bool → Hp → Prop} (h : t σ H fun c H1 => if c = true then u σ H1 R else R false H1) : tAnd t u σ H R := h
theorem r_or {t u : TT} {R : Bool → Hp → Prop} (h : t σ H fun c H1 => if c = true then R true H1 else u σ H1 R) : tOr t u σ H R := h
theorem r_notV {ta : TE} (h : ta σ H fun x H1 => ∃ c, x = .bl c ∧ Q (.bl (!c)) H1) : tNotV ta σ H Q := h
theorem r_andV {ta tb : TE} (h : ta σ H fun x H1 => ∃ c, x = .bl c ∧ if c = true then tb σ H1 Q else Q (.bl false) H1) : tAndV ta tb σ H Q := h
theorem r_orV {ta tb : TE} (h : ta σ H fun x H1 => ∃ c, x = .bl c ∧ if c = true then Q (.bl true) H1 else tb σ H1 Q) : tOrV ta tb σ H Q := h
theorem r_ifE {t : TT} {ta tb : TE} (h : t σ H fun c H1 => if c = true then ta σ H1 Q else tb σ H1 Q) : tIf t ta tb σ H Q := h
theorem r_bl {k : Bool} {R : Bool → Prop} (h : R k) : ∃ k', V.bl k = .bl k' ∧ R k' := ⟨k, rfl, h⟩
theorem r_nil {R : List V → Hp → Prop} (h : R [] H) : tNil σ H R := h
theorem r_cons {ta : TE} {tr : TA} {R : List V → Hp → Prop} (h : ta σ H fun x H1 => tr σ H1 fun xs H2 => R (x :: xs) H2) : tCons ta tr σ H R := h
theorem r_tup {ta : TA} (h : ta σ H fun xs H1 => xs.length ≤ sizeLine ∧ AllocO (.tup xs) Q H1) : tTup ta σ H Q := h
theorem r_lst {ta : TA} (h : ta σ H fun xs H1 => xs.length ≤ sizeLine ∧ AllocO (.lst xs) Q H1) : tLst ta σ H Q := h
theorem r_cb {r : List V → Hp → VK → Prop} {ta : TA} (h : ta σ H fun vs H1 => r vs H1 Q) : tCB r ta σ H Q := h
theorem r_call {sp : Sp} {dvs : List V} {E : XK} {ta : TA} (h : ta σ H fun vs H1 => sp (vs ++ dvs) H1 Q E) : tCall sp dvs E ta σ H Q := h
theorem r_name {i : Nat} {v : V} {σ' : L2.St} {R : L2.St → Hp → Prop} (hs : SetAt σ i v σ') (h : R σ' H) : gName i v σ H R := by
  show R (σ.set i (some v)) H
  rw [hs.eq]
  exact h
theorem r_gnil {R : L2.St → Hp → Prop} (h : R σ H) : gNil [] σ H R := ⟨rfl, h⟩
theorem r_gcons {t : TG} {u : TGs} {v : V} {r : List V} {R : L2.St → Hp → Prop} (h : t v σ H fun σ' H' => u r σ' H' R) : gCons t u (v :: r) σ H R := ⟨v, r, rfl, h⟩
theorem r_gtup {n : Nat} {t : TGs} {a : Addr} {xs : List V} {R : L2.St → Hp → Prop} (hx : SqT K H a xs) (hl : xs.length = n) (h : t xs σ H R) : gTup K n t (.ref a) σ H R := ⟨a, xs, rfl, hx, hl, h⟩
theorem r_gsub {to ti : TE} {t : TSet} {v : V} {R : L2.St → Hp → Prop} (h : to σ H fun o H1 => ti σ H1 fun i H2 => t o i v H2 fun H3 => R σ H3) : gSub to ti t v σ H R := h
theorem r_par {i j : Nat} {ta : TA} (h : ta σ H fun vs H1 => ∃ v w, vs = [v, w] ∧ D.nx ((σ.set i (some v)).set j (some w)) H1) : tPar i j ta D σ H := h
theorem r_par2 {i j : Nat} {v w : V} {R : V → V → Prop} (h : R v w) : ∃ v' w', [v, w] = [v', w'] ∧ R v' w' := ⟨v, w, rfl, h⟩
theorem r_aug {i : Nat} {te : TE} {ti : TIp} {x : V} (hx : GetAt σ i x) (h : te σ H fun y H1 => ti x y H1 fun z H2 => D.nx (σ.set i (some z)) H2) : tAug i te ti D σ H := ⟨x, hx.eq, h⟩
theorem r_I0 {g : Int → Int → V} {i j : Int} (h : Q (g i j) H) : rI0 g (.int i) (.int j) H Q := ⟨i, j, rfl, rfl, h⟩
theorem r_I {C : Int → Int → Prop} {g : Int → Int → V} {i j : Int} (hc : C i j) (h : Q (g i j) H) : rI C g (.int i) (.int j) H Q := ⟨i, j, rfl, rfl, hc, h⟩
theorem r_U {g : Int → V} {i : Int} (h : Q (g i) H) : rU g (.int i) H Q := ⟨i, rfl, h⟩
theorem r_eq {x y : V} (hs : scal x y = true) (h : Q (.bl (decide (x = y))) H) : rEq x y H Q := ⟨hs, h⟩
theorem r_ne {x y : V} (hs : scal x y = true) (h : Q (.bl (!decide (x = y))) H) : rNe x y H Q := ⟨hs, h⟩
theorem r_ixL {p : Addr} {xs : List V} {i : Int} {v : V} (h : SqL K H p xs) (ha : atI xs i = some v) (q : Q v H) : rIxL K (.ref p) (.int i) H Q := ⟨p, xs, i, v, rfl, rfl, h, ha, q⟩
theorem r_ixT {p : Addr} {xs : List V} {i : Int} {v : V} (h : SqT K H p xs) (ha : atI xs i = some v) (q : Q v H) : rIxT K (.ref p) (.int i) H Q := ⟨p, xs, i, v, rfl, rfl, h, ha, q⟩
theorem r_setL {p : Addr} {xs : List V} {i : Int} {j : Nat} {v : V} {R : Hp → Prop} (h : H p = some (.lst xs)) (hj : ixN xs.length i = some j) (q : UpdO p (.lst (xs.set j v)) R H) : rSetL (.ref p) (.int i) v H R := ⟨p, xs, i, j, rfl, rfl, h, hj, q⟩
theorem r_part {te : TE} {R : Option Int → Hp → Prop} (h : te σ H fun x H1 => ∃ i, x = .int i ∧ R (some i) H1) : tPart te σ H R := h
theorem r_nopart {R : Option Int → Hp → Prop} (h : R none H) : tNoPart σ H R := h
theorem r_ii {i : Int} {R : Int → Prop} (h : R i) : ∃ i', V.int i = .int i' ∧ R i' := ⟨i, rfl, h⟩
theorem r_sl {r : V → Option Int → Option Int → Hp → VK → Prop} {te : TE} {tl th : TO} (h : te σ H fun x H1 => tl σ H1 fun l H2 => th σ H2 fun u H3 => r x l u H3 Q) : tSl r te tl th σ H Q := h
theorem r_slL {a : Addr} {xs : List V} {lo hi : Option Int} (h : SqL K H a xs) (q : AllocO (.lst (cutV xs lo hi)) Q H) : rSlL K (.ref a) lo hi H Q := ⟨a, xs, rfl, h, q⟩
theorem r_cat {a b : Addr} {xs ys : List V} (h1 : H a = some (.lst xs)) (h2 : H b = some (.lst ys)) (hz : xs.length + ys.length ≤ sizeLine) (q : AllocO (.lst (xs ++ ys)) Q H) : rCat (.ref a) (.ref b) H Q := ⟨a, b, xs, ys, rfl, rfl, h1, h2, hz, q⟩
theorem r_bm {T : String} {r : V → List V → Hp → VK → Prop} {to : TE} {t : TA} (h : to σ H fun x H1 => tyV K T x H1 ∧ t σ H1 fun xs H2 => r x xs H2 Q) : tBM K T r to t σ H Q := h
theorem r_bm0 {T : String} {r : V → List V → Hp → VK → Prop} {to : TE} (h : to σ H fun x H1 => tyV K T x H1 ∧ r x [] H1 Q) : tBM0 K T r to σ H Q := h
theorem r_append {l : Addr} {xs : List V} {y : V} (h : H l = some (.lst xs)) (hz : xs.length < sizeLine) (q : UpdO l (.lst (xs ++ [y])) (Q .non) H) : rAppend (.ref l) [y] H Q := ⟨l, xs, y, rfl, rfl, h, hz, q⟩
theorem r_int1 {i : Int} {k : Prop} {R : Int → Prop} (h : R i) : (∃ i', [V.int i] = [.int i'] ∧ R i') ∨ k := .inl ⟨i, rfl, h⟩
theorem r_int1b {b : Bool} {k : Prop} {R : Bool → Prop} (h : R b) : k ∨ (∃ b', [V.bl b] = [.bl b'] ∧ R b') := .inr ⟨b, rfl, h⟩
end
/-! ### loops -/
theorem for_enum {K : PySem.W.Frag} {a : Addr} {xs : List V} {g : TG} {tb : TS} {D : Ends} {σ : L2.St} {H : Hp} (Pv : Nat → L2.St → Hp → Prop) (h0 : Pv 0 σ H) (hl : ∀ i σ H, i ≤ xs.length → Pv i σ H → SqL K H a xs)
    (hs : ∀ (i : Nat) x σ H, xs[i]? = some x → Pv i σ H → AllocO (.tup [.int (i : Int), x]) (fun v H' => g v σ H' fun σ2 H2 => tb { D with nx := Pv (i + 1), ct := Pv (i + 1), bk := D.nx } σ2 H2) H) (hd : ∀ σ H, Pv xs.length σ H → D.nx σ H) :
    ∃ W : Nat → Nat → L2.St → Hp → Prop, (∃ m, W 0 m σ H) ∧ ∀ i m σ H, W i m σ H →
      ((Ite K a).stop i H ∧ D.nx σ H) ∨ ((Ite K a).go i H ∧ ∃ N : L2.St → Hp → Prop, (∀ σ' H', N σ' H' → ∃ m', m' < m ∧ W (i + 1) m' σ' H') ∧ ∀ x H', (Ite K a).yld i H x H' → g x σ H' fun σ2 H2 => tb { D with nx := N, ct := N, bk := D.nx } σ2 H2) := by
  refine ⟨fun i m σ H => m = xs.length - i ∧ i ≤ xs.length ∧ Pv i σ H, ⟨xs.length, by simp, Nat.zero_le _, h0⟩, ?_⟩
  rintro i m σ H ⟨rfl, hi, p⟩
  have q := hl i σ H hi p
  by_cases hlt : i < xs.length
  · refine .inr ⟨⟨xs, xs[i], q, by simp [hlt]⟩, Pv (i + 1), fun σ' H' p' => ⟨xs.length - (i + 1), by omega, rfl, hlt, p'⟩, fun x H' y => ?_⟩
    obtain ⟨T, z, rfl, hT, rfl, hz⟩ := y
    exact hs i z σ H (hz xs q) p T hT
  · have e : i = xs.length := by omega
    subst e
    exact .inl ⟨⟨xs, q, Nat.le_refl _⟩, hd σ H p⟩
/-- the turns of a for over a list, over enumerate(list), as one wish -/
def ForG (K : PySem.W.Frag) (a : Addr) (g : TG) (tb : TS) (D : Ends) (σ : L2.St) (H : Hp) : Prop := ∃ W : Nat → Nat → L2.St → Hp → Prop, (∃ m, W 0 m σ H) ∧ ∀ i m σ H, W i m σ H →
  ((Itl K a).stop i H ∧ D.nx σ H) ∨ ((Itl K a).go i H ∧ ∃ N : L2.St → Hp → Prop, (∀ σ' H', N σ' H' → ∃ m', m' < m ∧ W (i + 1) m' σ' H') ∧ ∀ x H', (Itl K a).yld i H x H' → g x σ H' fun σ2 H2 => tb { D with nx := N, ct := N, bk := D.nx } σ2 H2)
def ForE (K : PySem.W.Frag) (a : Addr) (g : TG) (tb : TS) (D : Ends) (σ : L2.St) (H : Hp) : Prop := ∃ W : Nat → Nat → L2.St → Hp → Prop, (∃ m, W 0 m σ H) ∧ ∀ i m σ H, W i m σ H →
  ((Ite K a).stop i H ∧ D.nx σ H) ∨ ((Ite K a).go i H ∧ ∃ N : L2.St → Hp → Prop, (∀ σ' H', N σ' H' → ∃ m', m' < m ∧ W (i + 1) m' σ' H') ∧ ∀ x H', (Ite K a).yld i H x H' → g x σ H' fun σ2 H2 => tb { D with nx := N, ct := N, bk := D.nx } σ2 H2)
def ForR (lo : Int) (n : Nat) (g : TG) (tb : TS) (D : Ends) (σ : L2.St) (H : Hp) : Prop := ∃ W : Nat → Nat → L2.St → Hp → Prop, (∃ m, W 0 m σ H) ∧ ∀ i m σ H, W i m σ H →
  ((Itr lo n).stop i H ∧ D.nx σ H) ∨ ((Itr lo n).go i H ∧ ∃ N : L2.St → Hp → Prop, (∀ σ' H', N σ' H' → ∃ m', m' < m ∧ W (i + 1) m' σ' H') ∧ ∀ x H', (Itr lo n).yld i H x H' → g x σ H' fun σ2 H2 => tb { D with nx := N, ct := N, bk := D.nx } σ2 H2)
section
variable {K : PySem.W.Frag} {D : Ends} {σ : L2.St} {H : Hp} {g : TG} {tb : TS}
theorem r_forL {tl : TE} (h : tl σ H fun x H1 => ∃ a, x = .ref a ∧ (∃ xs, SqL K H1 a xs) ∧ ForG K a g tb D σ H1) : tFor (iList K tl) g tb D σ H := h
theorem r_forE {ta : TA} (h : ta σ H fun vs H1 => ∃ a xs, vs = [.ref a] ∧ SqL K H1 a xs ∧ ForE K a g tb D σ H1) : tFor (iEnum K ta) g tb D σ H := h
theorem r_forR {ta : TA} (h : ta σ H fun vs H1 => ∃ j : Int, vs = [.int j] ∧ -(2 ^ 62) ≤ j ∧ j < 2 ^ 62 ∧ ForR 0 j.toNat g tb D σ H1) : tFor (iRng1 ta) g tb D σ H := h
theorem r_forL2 {a : Addr} {xs : List V} (h : SqL K H a xs) (q : ForG K a g tb D σ H) : ∃ a', V.ref a = .ref a' ∧ (∃ xs, SqL K H a' xs) ∧ ForG K a' g tb D σ H := ⟨a, rfl, ⟨xs, h⟩, q⟩
theorem r_forE2 {a : Addr} {xs : List V} (h : SqL K H a xs) (q : ForE K a g tb D σ H) : ∃ a' xs, [V.ref a] = [.ref a'] ∧ SqL K H a' xs ∧ ForE K a' g tb D σ H := ⟨a, xs, rfl, h, q⟩
end
theorem ForG.mk {K : PySem.W.Frag} {a : Addr} {xs : List V} {g : TG} {tb : TS} {D : Ends} {σ : L2.St} {H : Hp} (Pv : Nat → L2.St → Hp → Prop) (h0 : Pv 0 σ H) (hl : ∀ i σ H, i ≤ xs.length → Pv i σ H → SqL K H a xs)
    (hs : ∀ i x σ H, xs[i]? = some x → Pv i σ H → g x σ H fun σ2 H2 => tb { D with nx := Pv (i + 1), ct := Pv (i + 1), bk := D.nx } σ2 H2) (hd : ∀ σ H, Pv xs.length σ H → D.nx σ H) : ForG K a g tb D σ H := for_list Pv h0 hl hs hd
theorem ForE.mk {K : PySem.W.Frag} {a : Addr} {xs : List V} {g : TG} {tb : TS} {D : Ends} {σ : L2.St} {H : Hp} (Pv : Nat → L2.St → Hp → Prop) (h0 : Pv 0 σ H) (hl : ∀ i σ H, i ≤ xs.length → Pv i σ H → SqL K H a xs)
    (hs : ∀ (i : Nat) x σ H, xs[i]? = some x → Pv i σ H → AllocO (.tup [.int (i : Int), x]) (fun v H' => g v σ H' fun σ2 H2 => tb { D with nx := Pv (i + 1), ct := Pv (i + 1), bk := D.nx } σ2 H2) H) (hd : ∀ σ H, Pv xs.length σ H → D.nx σ H) : ForE K a g tb D σ H := for_enum Pv h0 hl hs hd
theorem ForR.mk {lo : Int} {n : Nat} {g : TG} {tb : TS} {D : Ends} {σ : L2.St} {H : Hp} (Pv : Nat → L2.St → Hp → Prop) (h0 : Pv 0 σ H)
    (hs : ∀ i σ H, i < n → Pv i σ H → g (.int (lo + i)) σ H fun σ2 H2 => tb { D with nx := Pv (i + 1), ct := Pv (i + 1), bk := D.nx } σ2 H2) (hd : ∀ σ H, Pv n σ H → D.nx σ H) : ForR lo n g tb D σ H := for_range Pv h0 hs hd
theorem mem_cutV {xs : List V} {lo hi : Option Int} {x : V} (h : x ∈ cutV xs lo hi) : x ∈ xs := by
  unfold cutV at h
  exact List.mem_of_mem_drop (List.mem_of_mem_take h)
theorem Ext.frN {H0 H H' : Hp} {p : Addr} (e : Ext H0 H) (f : Fr [p] H H') (n : H0 p = none) : Ext H0 H' := fun a o h => f a o (by
  have : a ≠ p := ne_of_none h n
  simpa using this) (e a o h)
/-- a comprehension over range(n), its element a value each -/
def LcR (lo : Int) (n : Nat) (g : TG) (tt : TT) (te : TE) (vs : List Nat) (σ : L2.St) (Q : VK) (H1 : Hp) : Prop := ∀ D, H1 D = none → ∃ W : Nat → Nat → Hp → Prop, (∃ m, W 0 m (upd H1 D (.lst []))) ∧ ∀ i m H, W i m H →
  ((Itr lo n).stop i H ∧ Q (.ref D) H) ∨ ((Itr lo n).go i H ∧ ∃ Nx : Hp → Prop, (∀ H', Nx H' → ∃ m', m' < m ∧ W (i + 1) m' H') ∧ ∀ x H', (Itr lo n).yld i H x H' → g x (wipe σ vs) H' fun σ2 H2 => wipe σ2 vs = wipe σ vs ∧ tt σ2 H2 fun b H3 =>
    if b = true then te σ2 H3 fun y H4 => ∃ acc, H4 D = some (.lst acc) ∧ acc.length < sizeLine ∧ Nx (upd H4 D (.lst (acc ++ [y]))) else Nx H3)
theorem r_lcR {g : TG} {tt : TT} {te : TE} {vs : List Nat} {ta : TA} {σ : L2.St} {H : Hp} {Q : VK} (h : ta σ H fun us H1 => ∃ j : Int, us = [.int j] ∧ -(2 ^ 62) ≤ j ∧ j < 2 ^ 62 ∧ LcR 0 j.toNat g tt te vs σ Q H1) : tLc (iRng1 ta) g tt te vs σ H Q := by
  show ta σ H _
  exact h
theorem lcR_pure {lo : Int} {n : Nat} {g : TG} {tt : TT} {te : TE} {vs : List Nat} {σ : L2.St} {Q : VK} {H : Hp} (f : Nat → V) (hn : n ≤ 100000)
    (hs : ∀ (i : Nat) (H' : Hp) (R : VK) (N : Hp → Prop), i < n → Ext H H' → (∀ H4, Ext H' H4 → R (f i) H4) → g (.int (lo + (i : Int))) (wipe σ vs) H' fun σ2 H2 => wipe σ2 vs = wipe σ vs ∧ tt σ2 H2 fun b H3 => if b = true then te σ2 H3 R else N H3)
    (q : ∀ p H', H p = none → Ext H H' → H' p = some (.lst ((List.range n).map f)) → Q (.ref p) H') : LcR lo n g tt te vs σ Q H := fun D hD =>
  lc_range (fun i H' => Ext H H' ∧ H' D = some (.lst ((List.range i).map f))) ⟨.new hD, upd_same⟩ (fun i H' hi ⟨e, hd⟩ => hs i H' _ _ hi e fun H4 e4 => by
      refine ⟨_, e4 _ _ hd, ?_, fun a o z => ?_, ?_⟩
      · refine sz_lt ?_
        rw [List.length_map, List.length_range]
        omega
      · rw [upd_ne (ne_of_none z hD)]
        exact e4 _ _ (e _ _ z)
      · rw [upd_same, List.range_succ, List.map_append]
        rfl) fun H' ⟨e, hd⟩ => q D H' hD e hd
theorem r_dnew {σ : L2.St} {H : Hp} {Q : VK} (h : AllocO (.dK []) Q H) : tDNewK σ H Q := h
theorem KH.extE {H0 H : Hp} {L : List (Addr × HO)} (k : KH H0 [] L H) : Ext H0 H := fun a o h => k.fr a o (by simp) h
/-! ### a def by its name -/
structure DfOk (P : Program) (w : World) (K : PySem.W.Frag) (mg : Str → Option Value) (base : Heap) (CX : CXT) (k : Nat) (x : Str) (ps : List Str) (sp : Sp) : Prop where
  ex : ∃ (f : Addr) (fd : FuncData), mg x = some (.ref f) ∧ PySem.W.keepIn K (.ref f) = true ∧ Binds K fd ps [] ∧ FnOk P w K mg base CX k f fd ps sp
theorem pe_callD {X : Cx} {CX : CXT} {k j : Nat} {x : Str} {ps : List Str} {sp : Sp} {p pos : Pos} {e : Expr} {es : List Expr} {t : TA} (Df : DfOk X.prog X.w X.K X.mg X.base CX k x ps sp) (hr : Room j X.A) (ha : PA X (e :: es) t)
    (hk : k ≤ j := by decide) (hx : Passes CX X E0 := by first | exact pass0 | exact passL) (hg : Gl X x := by rfl) (hdb : (x == ("__debug__" : Str)) = false := by decide)
    (he : starEach (e :: es) X.env = (false, eval e X.env) :: starEach es X.env := by rfl) (hpl : (backTo pos (starEach es X.env)).any (·.1) = false := by rfl) :
    PE X (.Call (.Name x p) (e :: es) [] pos) (tCall sp [] E0 t) := by
  obtain ⟨f, fd, hm, hkp, hb, F⟩ := Df.ex
  exact pe_call F (hr.mono hk) hg hm hkp hb .nil hx ha hdb he hpl
end Wc

set_option Elab.async false
set_option linter.all false
set_option maxRecDepth 100000
set_option maxHeartbeats 4000000
/-! own exceptions with one field, made as values; plain ones -/
namespace Wc
open PySem PySem.Spec PyProof.Rows L2
def spInit (K : PySem.W.Frag) (C : Addr) (fld : Str) : Sp := fun vs H Q _ => ∃ (a : Addr) (v : V), vs = [.ref a, v] ∧ H a = some (exo a C none) ∧ OexC K C ∧ PySem.W.findIn K (.ref C) fld = some none ∧
  ∀ d, H d = none → d ≠ a → Q .non (upd (upd H d (exd d [(fld, v)])) a (exo a C (some d)))
theorem r_vei {K : PySem.W.Frag} {ta : TA} {σ : L2.St} {H : Hp} {Q : VK} (h : ta σ H fun vs H1 => ∃ (a C : Addr) (ws : List V), vs = .ref a :: ws ∧ ws.length ≤ 1000 ∧ OexC K C ∧ H1 a = some (exo a C none) ∧ Q .non H1) : tVeI K ta σ H Q := h
theorem r_ost {K : PySem.W.Frag} {f : Str} {to te : TE} {D : Ends} {σ : L2.St} {H : Hp} (h : te σ H fun y H1 => to σ H1 fun x H2 => ∃ a C : Addr, x = .ref a ∧ OexC K C ∧ PySem.W.findIn K (.ref C) f = some none ∧
  ((H2 a = some (exo a C none) ∧ ∀ dx, H2 dx = none → dx ≠ a → D.nx σ (upd (upd H2 dx (exd dx [(f, y)])) a (exo a C (some dx)))) ∨
    ∃ (dx : Addr) (fs : List (Str × V)), H2 a = some (exo a C (some dx)) ∧ H2 dx = some (exd dx fs) ∧ fs.length ≤ 900 ∧ D.nx σ (upd H2 dx (exd dx ((f, y) :: fs))))) : tOst K f to te D σ H := h
/-- an exception of the class at C with its one field stands at a -/
def ExF (H : Hp) (a C : Addr) (f : Str) (v : V) : Prop := ∃ d, H a = some (exo a C (some d)) ∧ H d = some (exd d [(f, v)])
theorem ExF.at_ {H : Hp} {a C : Addr} {f : Str} {v : V} (h : ExF H a C f v) : ExAt H a C := by
  obtain ⟨d, h1, h2⟩ := h
  exact .inl ⟨d, _, h1, h2⟩
theorem ExF.ext {H H' : Hp} {a C : Addr} {f : Str} {v : V} (h : ExF H a C f v) (e : Ext H H') : ExF H' a C f v := by
  obtain ⟨d, h1, h2⟩ := h
  exact ⟨d, e _ _ h1, e _ _ h2⟩
theorem ExAt.ext {H H' : Hp} {a C : Addr} (h : ExAt H a C) (e : Ext H H') : ExAt H' a C := by
  rcases h with ⟨d, fs, h1, h2⟩ | ⟨t, h⟩
  · exact .inl ⟨d, fs, e _ _ h1, e _ _ h2⟩
  · exact .inr ⟨t, e _ _ h⟩
/-- .. where one list (or dict) changes -/
theorem ExAt.fr {H H' : Hp} {a C p : Addr} {xs : List V} (h : ExAt H a C) (hp : H p = some (.lst xs)) (e : Fr [p] H H') : ExAt H' a C := by
  have ne : ∀ {b : Addr} {φ : Heap → Prop}, H b = some (.ext φ) → b ∉ [p] := fun {b φ} hb => by
    have : b ≠ p := ne_of hb hp (by intro z; cases z)
    simpa using this
  rcases h with ⟨d, fs, h1, h2⟩ | ⟨t, h⟩
  · exact .inl ⟨d, fs, e _ _ (ne h1) h1, e _ _ (ne h2) h2⟩
  · exact .inr ⟨t, e _ _ (ne h) h⟩
/-- NoX(v) as a value -/
structure ErrOk (P : Program) (w : World) (K : PySem.W.Frag) (mg : Str → Option Value) (base : Heap) (x : Str) (C : Addr) (fld : Str) : Prop where
  g : mg x = some (.ref C)
  o : OexC K C
  no : PySem.W.findIn K (.ref C) fld = some none
  ex : ∃ (f : Addr) (fd : FuncData) (ps : List Str), ExIn K C f ∧ Binds K fd ps [] ∧ FnOk P w K mg base CX0 1 f fd ps (spInit K C fld)
/-- C(v): what is asked behind the argument -/
def MkG (K : PySem.W.Frag) (C : Addr) (fld : Str) (Q : VK) (vs : List V) (H : Hp) : Prop := vs.length ≤ 1000 ∧ ∀ a, H a = none → spInit K C fld (.ref a :: vs) (upd H a (exo a C none)) (fun v H2 => v = .non ∧ Q (.ref a) H2) E0
theorem MkG.mk {K : PySem.W.Frag} {C : Addr} {fld : Str} {v : V} {Q : VK} {H0 H : Hp} {M : List Addr} {L : List (Addr × HO)} (o : OexC K C) (no : PySem.W.findIn K (.ref C) fld = some none) (k : KH H0 M L H)
    (h : ∀ a d H', KH H0 M ((a, exo a C (some d)) :: (d, exd d [(fld, v)]) :: L) H' → Q (.ref a) H') : MkG K C fld Q [v] H := by
  refine ⟨by simp, fun a ha => ⟨a, v, rfl, upd_same, o, no, fun d hd ne => ⟨rfl, ?_⟩⟩⟩
  rw [upd_ne ne] at hd
  have e : upd (upd (upd H a (exo a C none)) d (exd d [(fld, v)])) a (exo a C (some d)) = upd (upd H d (exd d [(fld, v)])) a (exo a C (some d)) := by
    funext b
    by_cases c : b = a
    · rw [c, upd_same, upd_same]
    · rw [upd_ne c, upd_ne c]
      by_cases c2 : b = d
      · rw [c2, upd_same, upd_same]
      · rw [upd_ne c2, upd_ne c2, upd_ne c]
  rw [e]
  exact h a d _ ((k.new hd).new (by rw [upd_ne (Ne.symm ne)]; exact ha))
theorem r_mkV {K : PySem.W.Frag} {C : Addr} {fld : Str} {ta : TA} {σ : L2.St} {H : Hp} {Q : VK} (h : ta σ H fun vs H1 => MkG K C fld Q vs H1) : tMkV C (spInit K C fld) ta σ H Q := h
theorem pe_mkE {X : Cx} {x fld : Str} {C : Addr} {j : Nat} {p pos : Pos} {e : Expr} {te : TE} (Er : ErrOk X.prog X.w X.K X.mg X.base x C fld) (hr : Room j X.A) (he : PE X e te)
    (hk : 2 ≤ j := by decide) (hg : Gl X x := by rfl) (hdb : (x == ("__debug__" : Str)) = false := by decide)
    (hs : starEach [e] X.env = (false, eval e X.env) :: starEach [] X.env := by rfl) : PE X (.Call (.Name x p) [e] [] pos) (tMkV C (spInit X.K C fld) (tCons te tNil)) := by
  obtain ⟨f, fd, ps, I, b, F⟩ := Er.ex
  exact pe_mkv (p := p) (pos := pos) Er.o I F (hr.mono hk) b pass0 hg Er.g (pa_cons he pa_nil hs) hdb hs (by rfl)
/-- e.f -/
theorem r_xfld {K : PySem.W.Frag} {te : TE} {f : Str} {σ : L2.St} {H : Hp} {Q : VK} (h : te σ H fun x H1 => ∃ (a C d : Addr) (fs : List (Str × V)) (v : V), x = .ref a ∧ H1 a = some (exo a C (some d)) ∧ H1 d = some (exd d fs) ∧ ExRd K C ∧ OexC K C ∧ NoAttr K C f ∧ fs.lookup f = some v ∧ Q v H1) : tXfld K te f σ H Q := h
theorem r_xf {K : PySem.W.Frag} {f : Str} {H : Hp} {R : V → Prop} {a C d : Addr} {v : V} (h1 : H a = some (exo a C (some d))) (h2 : H d = some (exd d [(f, v)])) (hr : ExRd K C) (ho : OexC K C) (hn : PySem.W.findIn K (.ref C) f = some none) (q : R v) :
    ∃ (a' C d : Addr) (fs : List (Str × V)) (v : V), V.ref a = .ref a' ∧ H a' = some (exo a' C (some d)) ∧ H d = some (exd d fs) ∧ ExRd K C ∧ OexC K C ∧ NoAttr K C f ∧ fs.lookup f = some v ∧ R v :=
  ⟨a, C, d, _, v, rfl, h1, h2, hr, ho, hn, by simp [List.lookup], q⟩
/-- isinstance(e, c) -/
theorem r_isiE {K : PySem.W.Frag} {H : Hp} {Q : VK} {a C : Addr} {c : V} {u : Value} {b : Bool} (hc : ClsV c u) (hx : ExAt H a C) (S : ExIs K C) (R : ExRd K C) (sb : PySem.W.subIn K (.ref C) (.type "BaseException") = some true) (e : PySem.W.kitOne K (.ref C) u = some b) (q : Q (.bl b) H) :
    rIsiE K [.ref a, c] H Q := ⟨a, C, c, u, b, rfl, hc, hx, S, R, sb, e, q⟩
/-- a plain one: X(text) -/
structure PlainOk (K : PySem.W.Frag) (mg : Str → Option Value) (x : Str) (C : Addr) : Prop where
  g : mg x = some (.ref C)
  x : PySem.W.excIn K C He.veBase "ValueError.__new__" = true
  k : PySem.W.keepIn K (.ref C) = true
def AllocX (C : Addr) (v : V) (Q : VK) (H : Hp) : Prop := ∀ a t, H a = none → H t = none → a ≠ t → Q (.ref a) (upd (upd H t (.tup [v])) a (exo1 a C t))
def tMkX (C : Addr) (te : TE) : TE := fun σ H Q => te σ H fun v H1 => AllocX C v Q H1
theorem r_mkX {C : Addr} {te : TE} {σ : L2.St} {H : Hp} {Q : VK} (h : te σ H fun v H1 => AllocX C v Q H1) : tMkX C te σ H Q := h
theorem pe_mkX {X : Cx} {x : Str} {C : Addr} {p pos : Pos} {e : Expr} {te : TE} (Px : PlainOk X.K X.mg x C) (he : PE X e te) (hg : Gl X x := by rfl)
    (hdb : (x == ("__debug__" : Str)) = false := by decide) (hs : starEach [e] X.env = (false, eval e X.env) :: starEach [] X.env := by rfl) : PE X (.Call (.Name x p) [e] [] pos) (tMkX C te) :=
  pe_exc1t PySem.F.excBase_ValueError Px.x Px.g Px.k hg he hs hdb
def ExT (H : Hp) (a C : Addr) (v : V) : Prop := ∃ t, H a = some (exo1 a C t) ∧ H t = some (.tup [v])
theorem ExT.at_ {H : Hp} {a C : Addr} {v : V} (h : ExT H a C v) : ExAt H a C := by
  obtain ⟨t, h1, _⟩ := h
  exact .inr ⟨t, h1⟩
theorem ExT.ext {H H' : Hp} {a C : Addr} {v : V} (h : ExT H a C v) (e : Ext H H') : ExT H' a C v := by
  obtain ⟨d, h1, h2⟩ := h
  exact ⟨d, e _ _ h1, e _ _ h2⟩
theorem AllocX.mk {C : Addr} {v : V} {Q : VK} {H0 H : Hp} {M : List Addr} {L : List (Addr × HO)} (k : KH H0 M L H) (h : ∀ a t H', KH H0 M ((a, exo1 a C t) :: (t, .tup [v]) :: L) H' → Q (.ref a) H') : AllocX C v Q H := fun a t ha ht ne =>
  h a t _ ((k.new ht).new (by rw [upd_ne ne]; exact ha))
/-- x != y: data, or one empty dict with itself -/
def rNeT (K : PySem.W.Frag) : R2 := fun x y H Q => rNeD K x y H Q ∨ ∃ a, x = .ref a ∧ y = .ref a ∧ H a = some (.dK []) ∧ Q (.bl false) H
theorem op_neT {X : Cx} (hu : X.A.units + 64 < cLine) : OpR X (compareOp .NotEq) (rNeT X.K) := by
  intro pins s σ H x y v u Q I rx ry h
  rcases h with h | ⟨a, rfl, rfl, ha, q⟩
  · exact op_neD hu pins s σ H x y v u Q I rx ry h
  · obtain rfl : v = Value.ref a := rx
    obtain rfl : u = Value.ref a := ry
    obtain ⟨_, hm, vs, rv, hd⟩ := (show ObjOk X.prog X.w H s.heap a (.dK []) from I.hok a _ ha)
    cases rv
    exact PySem.W.keq_ne hm hm hd hd (by omega) (fun _ => .nil) ⟨.bl false, H, I, rfl, q⟩
end Wc

set_option Elab.async false
set_option linter.all false
set_option maxRecDepth 100000
set_option maxHeartbeats 4000000
/-! flat data -/
namespace Wc
open PySem PySem.Spec PyProof.Rows L2
def fD : V → PyData
  | .bl b => .bool b
  | .int i => .int i
  | .str s => .str s
  | _ => .none
def FlatOk (v : V) : Prop := v = .non ∨ (∃ b, v = .bl b) ∨ (∃ i, v = .int i) ∨ ∃ s, v = .str s ∧ PyData.strOk s = true
theorem flat_dp {K : PySem.W.Frag} {H : Hp} {v : V} (h : FlatOk v) : Dp K H v (fD v) := by
  rcases h with rfl | ⟨b, rfl⟩ | ⟨i, rfl⟩ | ⟨s, rfl, _⟩
  · exact .non
  · exact .bl b
  · exact .int i
  · exact .str s
theorem flat_lay {v : V} (h : FlatOk v) : (fD v).canLay0 = true ∧ (fD v).depth = 0 := by
  rcases h with rfl | ⟨b, rfl⟩ | ⟨i, rfl⟩ | ⟨s, rfl, hs⟩
  · exact ⟨rfl, rfl⟩
  · exact ⟨rfl, rfl⟩
  · exact ⟨rfl, rfl⟩
  · exact ⟨by simpa [fD, PyData.canLay0] using hs, rfl⟩
theorem flat_shaped {v : V} (h : FlatOk v) : SeqAt.shaped (fD v) = true := by
  obtain ⟨h1, h2⟩ := flat_lay h
  unfold SeqAt.shaped
  rw [h1, h2] <;> rfl
theorem flats_dp {K : PySem.W.Frag} {H : Hp} : ∀ {xs : List V}, (∀ v, v ∈ xs → FlatOk v) → DpAll K H xs (xs.map fD)
  | [], _ => .nil
  | v :: xs, h => .cons (flat_dp (h v (by simp))) (flats_dp fun u hu => h u (by simp [hu]))
theorem flats_lay : ∀ {xs : List V}, (∀ v, v ∈ xs → FlatOk v) → PyData.canLayAll0 (xs.map fD) = true ∧ PyData.depthAll (xs.map fD) = 0
  | [], _ => ⟨rfl, rfl⟩
  | v :: xs, h => by
    obtain ⟨h1, h2⟩ := flat_lay (h v (by simp))
    obtain ⟨h3, h4⟩ := flats_lay (xs := xs) fun u hu => h u (by simp [hu])
    refine ⟨?_, ?_⟩
    · show ((fD v).canLay0 && PyData.canLayAll0 (xs.map fD)) = true
      rw [h1, h3] <;> rfl
    · show max (fD v).depth (PyData.depthAll (xs.map fD)) = 0
      rw [h2, h4] <;> rfl
theorem lst_shaped {xs : List V} (h : ∀ v, v ∈ xs → FlatOk v) : SeqAt.shaped (.list (xs.map fD)) = true := by
  obtain ⟨h1, h2⟩ := flats_lay h
  show ((PyData.canLay0 (.list (xs.map fD))) && decide (PyData.depth (.list (xs.map fD)) ≤ 64)) = true
  have e1 : PyData.canLay0 (.list (xs.map fD)) = true := by simpa [PyData.canLay0] using h1
  have e2 : PyData.depth (.list (xs.map fD)) = 1 := by
    show PyData.depthAll (xs.map fD) + 1 = 1
    rw [h2]
  rw [e1, e2] <;> rfl
theorem tup_shaped {xs : List V} (h : ∀ v, v ∈ xs → FlatOk v) : SeqAt.shaped (.tuple (xs.map fD)) = true := by
  obtain ⟨h1, h2⟩ := flats_lay h
  show ((PyData.canLay0 (.tuple (xs.map fD))) && decide (PyData.depth (.tuple (xs.map fD)) ≤ 64)) = true
  have e1 : PyData.canLay0 (.tuple (xs.map fD)) = true := by simpa [PyData.canLay0] using h1
  have e2 : PyData.depth (.tuple (xs.map fD)) = 1 := by
    show PyData.depthAll (xs.map fD) + 1 = 1
    rw [h2]
  rw [e1, e2] <;> rfl
theorem shaped_refl {d : PyData} (h : SeqAt.shaped d = true) : PyData.eqv d d = true := SeqAt.eqv_refl d (SeqAt.canLay_of_shaped h)
theorem flat_bl (b : Bool) : FlatOk (.bl b) := .inr (.inl ⟨b, rfl⟩)
theorem flat_int (i : Int) : FlatOk (.int i) := .inr (.inr (.inl ⟨i, rfl⟩))
/-- data that != finds alike -/
theorem ne_same {K : PySem.W.Frag} {H : Hp} {x y : V} {d : PyData} {Q : VK} (h1 : Dp K H x d) (h2 : Dp K H y d) (hs : SeqAt.shaped d = true) (q : Q (.bl false) H) : rNeD K x y H Q := ⟨d, d, h1, h2, hs, hs, by rw [shaped_refl hs]; exact q⟩
end Wc

set_option Elab.async false
set_option linter.all false
set_option maxRecDepth 100000
set_option maxHeartbeats 4000000
/-! the head's look with the tables of code objects of some defs (those that make lambdas) -/
namespace Wc
open PySem PySem.Spec PyProof.Rows L2
def obsY (n : Nat) (fa : List He.Fa) (fn : List He.DefD) (tf : List He.Defn) (ex : PySem.W.Frag → Bool) (g : Addr → Option Obj) : AlC :=
  (He.obsD fa fn (He.frT g (asC g n)), ex (He.frT g (asC g n)) && He.tabsB g tf (He.frT g (asC g n)))
structure SaysY (fa : List He.Fa) (fn : List He.DefD) (tf : List He.Defn) (ex : PySem.W.Frag → Bool) (h : Heap) (K : PySem.W.Frag) : Prop where
  d : He.SaysD fa fn K
  more : ex K = true
  hd : ∀ p ∈ tf, PySem.W.codeHdIn K (He.cT K p).1 (He.cT K p).2 = true
  out : ∀ p ∈ tf, K.lookup (He.cT K p).2 = none
  empty : ∀ p ∈ tf, h.get? (He.cT K p).2 = some { cls := .none, data := .fields #[] }
theorem saysY_of {n : Nat} {fa : List He.Fa} {fn : List He.DefD} {tf : List He.Defn} {ex : PySem.W.Frag → Bool} {h : Heap} (e : obsY n fa fn tf ex h.get? = valC fn) : SaysY fa fn tf ex h (He.frT h.get? (asC h.get? n)) := by
  have e1 : He.obsD fa fn (He.frT h.get? (asC h.get? n)) = He.valD fn := congrArg (fun z : AlC => z.1) e
  have e2 : (ex (He.frT h.get? (asC h.get? n)) && He.tabsB h.get? tf (He.frT h.get? (asC h.get? n))) = true := congrArg (fun z : AlC => z.2) e
  obtain ⟨h1, h2⟩ := He.ba e2
  have key : ∀ p ∈ tf, PySem.W.codeHdIn (He.frT h.get? (asC h.get? n)) (He.cT (He.frT h.get? (asC h.get? n)) p).1 (He.cT (He.frT h.get? (asC h.get? n)) p).2 = true ∧ ∃ o, h.get? (He.cT (He.frT h.get? (asC h.get? n)) p).2 = some o ∧ He.emptyTab o = true := fun p hp => by
    obtain ⟨h3, h4⟩ := He.ba (List.all_eq_true.mp h2 p hp)
    refine ⟨h3, ?_⟩
    cases q : h.get? (He.cT (He.frT h.get? (asC h.get? n)) p).2 with
    | none =>
      rw [q] at h4
      cases h4
    | some o =>
      rw [q] at h4
      exact ⟨o, rfl, h4⟩
  exact ⟨e1, h1, fun p hp => (key p hp).1, fun p hp => by
    obtain ⟨_, o, q, z⟩ := key p hp
    exact He.frT_none q z, fun p hp => by
    obtain ⟨_, o, q, z⟩ := key p hp
    rw [q, He.emptyTab_eq z]⟩
def hookY (n : Nat) (fa : List He.Fa) (fn : List He.DefD) (tf : List He.Defn) (ex : PySem.W.Frag → Bool) : PySem.W.Hook where
  α := AlC
  obs := fun s => obsY n fa fn tf ex s.heap.get?
  val := fun _ => valC fn
  says := fun _ h => ∃ K : PySem.W.Frag, K.In h ∧ SaysY fa fn tf ex h K
  of := fun _ _ e => ⟨_, He.frT_in, saysY_of e⟩
  keeps := fun _ _ _ ⟨K, hK, c⟩ k => ⟨K, PySem.W.Frag.In.keeps hK k, ⟨c.d, c.more, c.hd, c.out, fun p hp => k _ _ (c.empty p hp)⟩⟩
theorem obsY_eq {n : Nat} {fa : List He.Fa} {fn : List He.DefD} {tf : List He.Defn} {ex : PySem.W.Frag → Bool} {g : Addr → Option Obj} {s : Shared} (h : ∀ a, g a = s.heap.get? a) : obsY n fa fn tf ex g = (hookY n fa fn tf ex).obs s := by
  have e : g = s.heap.get? := funext h
  rw [e] <;> rfl
theorem SaysY.fact {fa : List He.Fa} {fn : List He.DefD} {tf : List He.Defn} {ex : PySem.W.Frag → Bool} {h : Heap} {K : PySem.W.Frag} (c : SaysY fa fn tf ex h K) {f : He.Fa} (hf : f ∈ fa) : f.ok K = true := by
  obtain ⟨i, hi, e⟩ := List.mem_iff_getElem.mp hf
  exact c.d.fact i (f := f) (by rw [List.getElem?_eq_getElem hi, e])
theorem SaysY.def_ {fa : List He.Fa} {fn : List He.DefD} {tf : List He.Defn} {ex : PySem.W.Frag → Bool} {h : Heap} {K : PySem.W.Frag} (c : SaysY fa fn tf ex h K) {d : He.DefD} (hd : d ∈ fn) : ∃ fd, FunD K d.name d.qual d.params d.body d.scope (d.dvs K) (d.kws K) (He.fAd K d.at_) fd := by
  obtain ⟨i, hi, e⟩ := List.mem_iff_getElem.mp hd
  exact c.d.def_ i (d := d) (by rw [List.getElem?_eq_getElem hi, e])
end Wc

set_option Elab.async false
set_option linter.all false
set_option maxRecDepth 100000
set_option maxHeartbeats 4000000
/-! comprehensions over any walk; fields, methods, dicts; the runtime's classes on the heap -/
namespace Wc
open PySem PySem.Spec PyProof.Rows L2
theorem pAppend {α β : Type} {F : α → β → Prop} : ∀ {a : List α} {b : List β} {c : List α} {d : List β}, Paired F a b → Paired F c d → Paired F (a ++ c) (b ++ d)
  | _, _, _, _, .nil, h => h
  | _, _, _, _, .cons x y, h => .cons x (pAppend y h)
/-! ### comprehensions -/
def LcJ (J : It) (g : TG) (tt : TT) (te : TE) (vs : List Nat) (σ : L2.St) (Q : VK) (H1 : Hp) : Prop := ∀ D, H1 D = none → ∃ W : Nat → Nat → Hp → Prop, (∃ m, W 0 m (upd H1 D (.lst []))) ∧ ∀ i m H, W i m H →
  (J.stop i H ∧ Q (.ref D) H) ∨ (J.go i H ∧ ∃ Nx : Hp → Prop, (∀ H', Nx H' → ∃ m', m' < m ∧ W (i + 1) m' H') ∧ ∀ x H', J.yld i H x H' → g x (wipe σ vs) H' fun σ2 H2 => wipe σ2 vs = wipe σ vs ∧ tt σ2 H2 fun b H3 =>
    if b = true then te σ2 H3 fun y H4 => ∃ acc, H4 D = some (.lst acc) ∧ acc.length < sizeLine ∧ Nx (upd H4 D (.lst (acc ++ [y]))) else Nx H3)
theorem lcJ {J : It} {n : Nat} {G : Hp → Prop} {Y : Nat → Hp → V → Hp → Prop} {g : TG} {tt : TT} {te : TE} {vs : List Nat} {σ : L2.St} {Q : VK} {H : Hp} (w : Walk J n G Y) (f : Nat → Option V) (hn : n ≤ 100000) (hG : ∀ H', Ext H H' → G H')
    (hs : ∀ (i : Nat) (x : V) (H1 H2 : Hp) (R : VK) (N : Hp → Prop), i < n → Ext H H1 → Y i H1 x H2 → (∀ v H4, f i = some v → Ext H1 H4 → R v H4) → (∀ H4, f i = none → Ext H1 H4 → N H4) →
      g x (wipe σ vs) H2 fun σ2 H3 => wipe σ2 vs = wipe σ vs ∧ tt σ2 H3 fun b H4 => if b = true then te σ2 H4 R else N H4)
    (q : ∀ p H', H p = none → Ext H H' → H' p = some (.lst ((List.range n).filterMap f)) → Q (.ref p) H') : LcJ J g tt te vs σ Q H := fun D hD =>
  lc_it w (fun i H' => Ext H H' ∧ H' D = some (.lst ((List.range i).filterMap f))) ⟨.new hD, upd_same⟩ (fun i H' _ p => hG H' p.1)
    (fun i x H1 H2 hi ⟨e, hd⟩ y => hs i x H1 H2 _ _ hi e y (fun v H4 hv e4 => by
        refine ⟨_, e4 _ _ hd, ?_, fun a o z => ?_, ?_⟩
        · refine sz_lt ?_
          have h1 := List.length_filterMap_le f (List.range i)
          rw [List.length_range] at h1
          omega
        · rw [upd_ne (ne_of_none z hD)]
          exact e4 _ _ (e _ _ z)
        · rw [upd_same, List.range_succ, List.filterMap_append]
          simp [hv]) fun H4 hv e4 => by
        refine ⟨e.trans e4, ?_⟩
        rw [List.range_succ, List.filterMap_append]
        simp [hv]
        exact e4 _ _ hd) fun H' ⟨e, hd⟩ => q D H' hD e hd
theorem range_get {α : Type} (l : List α) : (List.range l.length).map (fun i => l[i]?) = l.map some := by
  apply List.ext_getElem?
  intro i
  by_cases h : i < l.length
  · simp [h]
  · simp [h]
theorem range_fm {α β : Type} (l : List α) (g : α → Option β) : (List.range l.length).filterMap (fun i => l[i]?.bind g) = l.filterMap g := by
  have e : (List.range l.length).filterMap (fun i => l[i]?.bind g) = ((List.range l.length).map (fun i => l[i]?)).filterMap (fun o => o.bind g) := by
    rw [List.filterMap_map] <;> rfl
  rw [e, range_get, List.filterMap_map] <;> rfl
section
variable {K : PySem.W.Frag} {D : Ends} {σ : L2.St} {H : Hp} {Q : VK} {g : TG} {tt : TT} {te td tl ta : TE} {vs : List Nat}
theorem r_lcS (h : td σ H fun v H1 => ∃ x, v = .str x ∧ LcJ (Its x) g tt te vs σ Q H1) : tLc (iStr td) g tt te vs σ H Q := h
theorem r_lcS2 {x : Str} {R : Str → Prop} (h : R x) : ∃ y, V.str x = .str y ∧ R y := ⟨x, rfl, h⟩
theorem r_lcL (h : tl σ H fun x H1 => ∃ a, x = .ref a ∧ (∃ xs, SqL K H1 a xs) ∧ LcJ (Itl K a) g tt te vs σ Q H1) : tLc (iList K tl) g tt te vs σ H Q := h
theorem r_lcT (h : tl σ H fun x H1 => ∃ a, x = .ref a ∧ (∃ xs, SqT K H1 a xs) ∧ LcJ (Itt K a) g tt te vs σ Q H1) : tLc (iTup K tl) g tt te vs σ H Q := h
theorem r_lcI (h : td σ H fun x H1 => ∃ d o kvs, x = .ref d ∧ H1 d = some (.frz o (.dK kvs)) ∧ LcJ (Iti d o kvs) g tt te vs σ Q H1) : tLc (iItems td) g tt te vs σ H Q := h
theorem r_yes {R : Bool → Hp → Prop} (h : R true H) : tYes σ H R := h
theorem r_chain {r r' : R2} {tc : TE} {tb : TE} (h : ta σ H fun x H1 => tb σ H1 fun y H2 => r x y H2 fun z H3 => ∃ k, z = .bl k ∧ (if k = true then tc σ H3 fun w' H4 => r' y w' H4 Q else Q (.bl false) H3)) : tChain r r' ta tb tc σ H Q := h
/-! ### fields -/
def FldAt (K : PySem.W.Frag) (f : Str) (x : V) (H : Hp) (Q : VK) : Prop := ∃ a C dx fs v, x = .ref a ∧ H a = some (.ins C dx fs) ∧ Cls K C ∧ NoAttr K C f ∧ fs.lookup f = some v ∧ Q v H
theorem r_fld {f : Str} (h : ta σ H fun x H1 => FldAt K f x H1 Q) : tFld K ta f σ H Q := h
theorem FldAt.mk {f : Str} {a C dx : Addr} {fs : List (Str × V)} {v : V} (h : H a = some (.ins C dx fs)) (c : Cls K C) (n : NoAttr K C f) (e : fs.lookup f = some v) (q : Q v H) : FldAt K f (.ref a) H Q := ⟨a, C, dx, fs, v, rfl, h, c, n, e, q⟩
def SFldAt (K : PySem.W.Frag) (f : Str) (y x : V) (H : Hp) (R : Hp → Prop) : Prop := ∃ a C dx fs, x = .ref a ∧ H a = some (.ins C dx fs) ∧ Cls K C ∧ NoAttr K C f ∧ fs.length < 1000 ∧ R (upd H a (.ins C dx (putF f y fs)))
theorem r_sfld {f : Str} {tv : TE} (h : tv σ H fun y H1 => ta σ H1 fun x H2 => SFldAt K f y x H2 (D.nx σ)) : sFld K ta tv f D σ H := h
theorem SFldAt.mk {f : Str} {a C dx : Addr} {y : V} {fs : List (Str × V)} {R : Hp → Prop} {H0 : Hp} {M : List Addr} {L L' : List (Addr × HO)} (k : KH H0 M L H) (l : UpL L a (.ins C dx fs) (.ins C dx (putF f y fs)) L') (c : Cls K C) (n : NoAttr K C f) (hz : fs.length < 1000) (hm : a ∈ M ∨ H0 a = none)
    (h : H a = some (.ins C dx fs)) (q : ∀ H', KH H0 M L' H' → R H') : SFldAt K f y (.ref a) H R := ⟨a, C, dx, fs, rfl, h, c, n, hz, q _ (k.up l (Fr.updE (by simp)) upd_same hm)⟩
/-! ### methods, instances -/
theorem r_meth {C : Addr} {m : Str} {sp : Sp} {dvs : List V} {E : XK} {t : TA} (h : ta σ H fun x H1 => ∃ a dx fs, x = .ref a ∧ H1 a = some (.ins C dx fs) ∧ fs.lookup m = none ∧ t σ H1 fun vs H2 => sp (x :: (vs ++ dvs)) H2 Q E) : tMeth C m sp dvs E ta t σ H Q := h
theorem r_methA {C a dx : Addr} {m : Str} {fs : List (Str × V)} {R : Prop} (h : H a = some (.ins C dx fs)) (l : fs.lookup m = none) (q : R) : ∃ a' dx fs, V.ref a = .ref a' ∧ H a' = some (.ins C dx fs) ∧ fs.lookup m = none ∧ R := ⟨a, dx, fs, rfl, h, l, q⟩
theorem r_make {C : Addr} {sp : Sp} {dvs : List V} {E : XK} {t : TA} (h : t σ H fun vs H1 => ∀ x dx, H1 x = none → H1 dx = none → dx ≠ x → sp (.ref x :: (vs ++ dvs)) (upd (upd H1 dx (.own x)) x (.ins C dx [])) (fun v H2 => v = .non ∧ Q (.ref x) H2) E) : tMake C sp dvs E t σ H Q := h
/-! ### dicts -/
theorem r_dget {ty : TE} (h : td σ H fun x H1 => ty σ H1 fun y H2 => ∃ a v, x = .ref a ∧ DGet H2 a y (some v) ∧ Q v H2) : tDGet td ty σ H Q := h
theorem r_din {ty : TE} (h : ty σ H fun y H1 => td σ H1 fun x H2 => ∃ a o, x = .ref a ∧ DGet H2 a y o ∧ Q (.bl o.isSome) H2) : tDIn ty td σ H Q := h
theorem r_dput {ty tv : TE} (h : tv σ H fun v H1 => td σ H1 fun x H2 => ty σ H2 fun y H3 => ∃ a H4, x = .ref a ∧ DPut H3 a y v H4 ∧ D.nx σ H4) : sDPut td ty tv D σ H := h
theorem dget_mk {a : Addr} {x : Str} {kvs : List (Key × V)} {v : V} (h : Rd H a (.dK kvs)) (e : valV kvs (.inr x) = some v) {R : V → Prop} (q : R v) : ∃ a' v, V.ref a = .ref a' ∧ DGet H a' (.str x) (some v) ∧ R v := ⟨a, v, rfl, .inl ⟨kvs, .inr x, h, rfl, e.symm⟩, q⟩
theorem dget_mk' {a : Addr} {y : V} {x : Str} {kvs : List (Key × V)} {v : V} (hy : y = .str x) (h : Rd H a (.dK kvs)) (e : valV kvs (.inr x) = some v) {R : V → Prop} (q : R v) : ∃ a' v, V.ref a = .ref a' ∧ DGet H a' y (some v) ∧ R v := by
  subst hy
  exact dget_mk h e q
theorem pe_fldK {X : Cx} (K : PySem.W.Frag) {e : Expr} {f : Str} {pos : Pos} (he : PE X e ta) (hb : attributeBase e f X.env (eval e X.env) = eval e X.env) (hK : X.K = K := by rfl) : PE X (.Attribute e f pos) (tFld K ta f) := by
  subst hK
  exact pe_fld he hb
theorem r_lockE {t : TE} {d : Addr} {u : HO} (h : H d = some u) (m : Mut (some u)) (q : ∀ od, t σ (upd H d (.frz od u)) fun v H' => H' d = some (.frz od u) ∧ Q v (upd H' d u)) : tLockE t σ H Q := ⟨d, u, h, m, q⟩
theorem din_mkR {a : Addr} {x : Str} {kvs : List (Key × V)} (h : Rd H a (.dK kvs)) {R : Option V → Prop} (q : R (valV kvs (.inr x))) : ∃ a' o, V.ref a = .ref a' ∧ DGet H a' (.str x) o ∧ R o := ⟨a, _, rfl, .inl ⟨kvs, .inr x, h, rfl, rfl⟩, q⟩
theorem din_mk {a : Addr} {x : Str} {kvs : List (Key × V)} (h : Rd H a (.dK kvs)) (q : Q (.bl (valV kvs (.inr x)).isSome) H) : ∃ a' o, V.ref a = .ref a' ∧ DGet H a' (.str x) o ∧ Q (.bl o.isSome) H := ⟨a, _, rfl, .inl ⟨kvs, .inr x, h, rfl, rfl⟩, q⟩
end
theorem rd_ext {H H' : Hp} {a : Addr} {o : HO} (h : Rd H a o) (e : Ext H H') : Rd H' a o := h.elim (fun h => .inl (e _ _ h)) fun ⟨p, h⟩ => .inr ⟨p, e _ _ h⟩
/-! ### what never changes -/
def Imm : HO → Bool
  | .tup _ => true
  | .ins _ _ _ => true
  | _ => false
def Mo (H H' : Hp) : Prop := ∀ a o, Imm o = true → H a = some o → H' a = some o
theorem Ext.mo {H H' : Hp} (e : Ext H H') : Mo H H' := fun a o _ h => e a o h
theorem Mo.trans {H H1 H2 : Hp} (a : Mo H H1) (b : Mo H1 H2) : Mo H H2 := fun x o i h => b x o i (a x o i h)
theorem Mo.upd {H : Hp} {p : Addr} {u o : HO} (h : H p = some u) (n : Imm u = false) : Mo H (L2.upd H p o) := fun a v i e => by
  rw [upd_ne (fun z => by rw [z, h] at e; cases e; rw [n] at i; cases i)]
  exact e
theorem Mo.fr {A : List Addr} {H H' : Hp} (f : Fr A H H') (n : ∀ a, a ∈ A → ∃ u, H a = some u ∧ Imm u = false) : Mo H H' := fun a o i h => f a o (fun m => by
  obtain ⟨u, hu, nu⟩ := n a m
  rw [hu] at h
  cases h
  rw [nu] at i
  cases i) h
theorem Mo.fr1 {p : Addr} {H H' : Hp} {u : HO} (f : Fr [p] H H') (h : H p = some u) (n : Imm u = false) : Mo H H' := Mo.fr f fun a m => by
  have e : a = p := by simpa using m
  rw [e]
  exact ⟨u, h, n⟩
theorem paired_get {α β : Type} {F : α → β → Prop} : ∀ {xs : List α} {ys : List β} {i : Nat} {y : β}, Paired F xs ys → ys[i]? = some y → ∃ x, xs[i]? = some x ∧ F x y
  | _, _, _, _, .nil, e => by simp at e
  | _, _, 0, _, .cons h _, e => by
    simp at e
    subst e
    exact ⟨_, rfl, h⟩
  | _, _, i + 1, y, .cons _ t, e => by
    obtain ⟨x, h1, h2⟩ := paired_get (i := i) (y := y) t (by simpa using e)
    exact ⟨x, by simpa using h1, h2⟩
/-! ### classes -/
structure Cl where
  name : Str
  par : Option Str
  own : List V
  all : List V
  since : Nat
def optV : Option Str → V
  | none => .non
  | some s => .str s
def findC (T : List Cl) (x : Str) : Option Cl := T.find? fun c => decide (c.name = x)
/-- a dict by the classes' names -/
def ByN (R : Cl → V → Prop) (T : List Cl) (kvs : List (Key × V)) : Prop := Paired (fun c (kv : Key × V) => kv.1 = .inr c.name ∧ R c kv.2) T kvs
theorem ByN.mono {R R' : Cl → V → Prop} {T : List Cl} {kvs : List (Key × V)} (h : ByN R T kvs) (f : ∀ c v, R c v → R' c v) : ByN R' T kvs := Paired.mapP h fun _ _ z => ⟨z.1, f _ _ z.2⟩
theorem ByN.some {R : Cl → V → Prop} {T : List Cl} {kvs : List (Key × V)} {x : Str} {c : Cl} (h : ByN R T kvs) (e : findC T x = some c) : ∃ v, valV kvs (.inr x) = some v ∧ R c v := by
  unfold ByN at h
  induction h with
  | nil => cases e
  | @cons a b as bs h t ih =>
    unfold findC at e
    rw [List.find?_cons] at e
    unfold valV
    rw [List.find?_cons]
    by_cases q : a.name = x
    · rw [decide_eq_true q] at e
      cases e
      have : decide (b.1 = Sum.inr x) = true := decide_eq_true (by rw [h.1, q])
      rw [this]
      exact ⟨_, rfl, h.2⟩
    · rw [decide_eq_false q] at e
      have : decide (b.1 = Sum.inr x) = false := decide_eq_false (by rw [h.1]; intro z; exact q (Sum.inr.inj z))
      rw [this]
      exact ih e
theorem ByN.none {R : Cl → V → Prop} {T : List Cl} {kvs : List (Key × V)} {x : Str} (h : ByN R T kvs) (e : findC T x = none) : valV kvs (.inr x) = none := by
  unfold ByN at h
  induction h with
  | nil => rfl
  | @cons a b as bs h t ih =>
    unfold findC at e
    rw [List.find?_cons] at e
    unfold valV
    rw [List.find?_cons]
    by_cases q : a.name = x
    · rw [decide_eq_true q] at e
      cases e
    · rw [decide_eq_false q] at e
      have : decide (b.1 = Sum.inr x) = false := decide_eq_false (by rw [h.1]; intro z; exact q (Sum.inr.inj z))
      rw [this]
      exact ih e
theorem ByN.isSome {R : Cl → V → Prop} {T : List Cl} {kvs : List (Key × V)} (h : ByN R T kvs) (x : Str) : (valV kvs (.inr x)).isSome = (findC T x).isSome := by
  cases e : findC T x with
  | none => rw [h.none e] <;> rfl
  | some c =>
    obtain ⟨v, hv, _⟩ := h.some e
    rw [hv] <;> rfl
/-- put a new class behind -/
theorem ByN.put {R : Cl → V → Prop} {T : List Cl} {kvs : List (Key × V)} {c : Cl} {v : V} (h : ByN R T kvs) (e : findC T c.name = Option.none) (hr : R c v) : ByN R (T ++ [c]) (putK kvs (.inr c.name) v) := by
  have n := h.none e
  unfold putK
  rw [if_neg]
  · exact pAppend h (.cons ⟨rfl, hr⟩ .nil)
  · intro z
    obtain ⟨kv, hm, hk⟩ := List.any_eq_true.mp z
    unfold valV at n
    rw [Option.map_eq_none_iff] at n
    exact List.find?_eq_none.mp n kv hm hk
theorem ByN.length {R : Cl → V → Prop} {T : List Cl} {kvs : List (Key × V)} (h : ByN R T kvs) : kvs.length = T.length := (Paired.length h).symm
theorem ByN.keys {R : Cl → V → Prop} {T : List Cl} {kvs : List (Key × V)} (h : ByN R T kvs) : kvs.map (·.1) = (T.map (·.name)).map Sum.inr := by
  unfold ByN at h
  induction h with
  | nil => rfl
  | cons h t ih => rw [List.map_cons, List.map_cons, List.map_cons, ih, h.1]
/-- a class's object: its parent, its fields (all), its world -/
def KindAt (CK : Addr) (H : Hp) (c : Cl) (v : V) : Prop := ∃ k dx ft, v = .ref k ∧ H k = some (.ins CK dx [("parent", optV c.par), ("fields", .ref ft), ("since", .int c.since)]) ∧ H ft = some (.tup c.all)
theorem KindAt.mo {CK : Addr} {H H' : Hp} {c : Cl} {v : V} (h : KindAt CK H c v) (e : Mo H H') : KindAt CK H' c v := by
  obtain ⟨k, dx, ft, rfl, h1, h2⟩ := h
  exact ⟨k, dx, ft, rfl, e _ _ rfl h1, e _ _ rfl h2⟩
theorem KindAt.ext {CK : Addr} {H H' : Hp} {c : Cl} {v : V} (h : KindAt CK H c v) (e : Ext H H') : KindAt CK H' c v := by
  obtain ⟨k, dx, ft, rfl, h1, h2⟩ := h
  exact ⟨k, dx, ft, rfl, e _ _ h1, e _ _ h2⟩
/-- the runtime at r, its dict of classes at kd, its list of tables at tl: classes T, n the newest world -/
structure RtAt (CK CR : Addr) (H : Hp) (r kd tl : Addr) (T : List Cl) (n : Nat) : Prop where
  rt : ∃ dx fs, H r = some (.ins CR dx (("kinds", .ref kd) :: ("tables", .ref tl) :: fs)) ∧ fs.lookup ("newest" : Str) = none ∧ fs.lookup ("table" : Str) = none ∧ fs.lookup ("add_world" : Str) = none
  kd : ∃ kvs, Rd H kd (.dK kvs) ∧ ByN (KindAt CK H) T kvs
  tl : ∃ xs, H tl = some (.lst xs) ∧ xs.length = n + 1
theorem RtAt.ext {CK CR : Addr} {H H' : Hp} {r kd tl : Addr} {T : List Cl} {n : Nat} (h : RtAt CK CR H r kd tl T n) (e : Ext H H') : RtAt CK CR H' r kd tl T n := by
  obtain ⟨⟨dx, fs, h1, h2⟩, ⟨kvs, h3, h4⟩, xs, h5, h6⟩ := h
  exact ⟨⟨dx, fs, e _ _ h1, h2⟩, ⟨kvs, rd_ext h3 e, h4.mono fun _ _ z => z.ext e⟩, xs, e _ _ h5, h6⟩
/-- a class and those above it -/
inductive Line (T : List Cl) : Option Str → List Str → Prop where
  | nil : Line T none []
  | cons {x : Str} {c : Cl} {l : List Str} (h : findC T x = some c) (t : Line T c.par l) : Line T (some x) (x :: l)
theorem Line.det {T : List Cl} {o : Option Str} {l l' : List Str} (a : Line T o l) (b : Line T o l') : l = l' := by
  induction a generalizing l' with
  | nil => cases b; rfl
  | cons h t ih =>
    cases b with
    | cons h2 t2 =>
      rw [h] at h2
      cases h2
      rw [ih t2]
end Wc

set_option Elab.async false
set_option linter.all false
set_option maxRecDepth 100000
set_option maxHeartbeats 4000000
/-! methods, makers, raising an own exception with its field -/
namespace Wc
open PySem PySem.Spec PyProof.Rows L2
structure MtOk (P : Program) (w : World) (K : PySem.W.Frag) (mg : Str → Option Value) (base : Heap) (CX : CXT) (k : Nat) (C : Addr) (m : Str) (ps : List Str) (sp : Sp) : Prop where
  c : Cls K C
  ex : ∃ (f : Addr) (fd : FuncData), Meth K C m f ∧ Binds K fd ps [] ∧ FnOk P w K mg base CX k f fd ps sp
structure MkOk (P : Program) (w : World) (K : PySem.W.Frag) (mg : Str → Option Value) (base : Heap) (CX : CXT) (k : Nat) (x : Str) (C : Addr) (ps : List Str) (sp : Sp) : Prop where
  g : mg x = some (.ref C)
  ex : ∃ (f : Addr) (fd : FuncData), Mk K C f ∧ Binds K fd ps [] ∧ FnOk P w K mg base CX k f fd ps sp
section
variable {X : Cx} {CX : CXT} {k j : Nat} {C : Addr} {m x : Str} {ps : List Str} {sp : Sp} {o e : Expr} {es : List Expr} {ta te : TE} {t : TA} {p apos pos : Pos}
theorem pe_methC0 {pl : Sem Bool} (Mt : MtOk X.prog X.w X.K X.mg X.base CX k C m ps sp) (hr : Room j X.A) (he : PE X o ta) (hk : k ≤ j := by decide) (hx : Passes CX X E0 := by first | exact pass0 | exact passL)
    (ht : eval (.Call (.Attribute o m apos) [] [] pos) X.env = (do
      let ov ← eval o X.env
      standAt apos.atName
      let (f, first) ← holding [ov] (getMethod ov m pl)
      callWith pos f first (backTo pos (starEach [] X.env)) (backToKw pos (keywordEach [] X.env))) := by rfl) :
    PE X (.Call (.Attribute o m apos) [] [] pos) (tMeth C m sp [] E0 ta tNil) := by
  obtain ⟨f, fd, hm, hb, F⟩ := Mt.ex
  exact pe_meth0 he Mt.c hm F (hr.mono hk) hb .nil hx ht
theorem pe_methC {pl : Sem Bool} (Mt : MtOk X.prog X.w X.K X.mg X.base CX k C m ps sp) (hr : Room j X.A) (he : PE X o ta) (ha : PA X (e :: es) t) (hk : k ≤ j := by decide) (hx : Passes CX X E0 := by first | exact pass0 | exact passL)
    (hst : starEach (e :: es) X.env = (false, eval e X.env) :: starEach es X.env := by rfl) (hpl : (backTo pos (starEach es X.env)).any (·.1) = false := by rfl)
    (ht : eval (.Call (.Attribute o m apos) (e :: es) [] pos) X.env = (do
      let ov ← eval o X.env
      standAt apos.atName
      let (f, first) ← holding [ov] (getMethod ov m pl)
      callWith pos f first (backTo pos (starEach (e :: es) X.env)) (backToKw pos (keywordEach [] X.env))) := by rfl) :
    PE X (.Call (.Attribute o m apos) (e :: es) [] pos) (tMeth C m sp [] E0 ta t) := by
  obtain ⟨f, fd, hm, hb, F⟩ := Mt.ex
  exact pe_meth he Mt.c hm F (hr.mono hk) hb .nil hx ha hst hpl ht
theorem pe_makeC0 (M : MkOk X.prog X.w X.K X.mg X.base CX k x C ps sp) (hr : Room j X.A) (hk : k + 1 ≤ j := by decide) (hx : Passes CX X E0 := by first | exact pass0 | exact passL) (hg : Gl X x := by rfl)
    (hdb : (x == ("__debug__" : Str)) = false := by decide) : PE X (.Call (.Name x p) [] [] pos) (tMake C sp [] E0 tNil) := by
  obtain ⟨f, fd, hm, hb, F⟩ := M.ex
  exact pe_make0 hm F (hr.mono hk) hg M.g hb .nil hx hdb
theorem pe_makeC (M : MkOk X.prog X.w X.K X.mg X.base CX k x C ps sp) (hr : Room j X.A) (ha : PA X (e :: es) t) (hk : k + 1 ≤ j := by decide) (hx : Passes CX X E0 := by first | exact pass0 | exact passL) (hg : Gl X x := by rfl)
    (hdb : (x == ("__debug__" : Str)) = false := by decide) (he : starEach (e :: es) X.env = (false, eval e X.env) :: starEach es X.env := by rfl) (hpl : (backTo pos (starEach es X.env)).any (·.1) = false := by rfl) :
    PE X (.Call (.Name x p) (e :: es) [] pos) (tMake C sp [] E0 t) := by
  obtain ⟨f, fd, hm, hb, F⟩ := M.ex
  exact pe_make hm F (hr.mono hk) hg M.g hb .nil hx ha hdb he hpl
/-- raise C(e) -/
def RsG (K : PySem.W.Frag) (C : Addr) (fld : Str) (v : V) (H1 : Hp) (Q : XK) : Prop := [v].length ≤ 1000 ∧ ∀ a, H1 a = none → spInit K C fld (.ref a :: ([v] ++ [])) (upd H1 a (exo a C none))
  (fun v H2 => v = .non ∧ ∃ (d : Addr) (fs : List (Str × V)), H2 a = some (exo a C (some d)) ∧ H2 d = some (exd d fs) ∧ H1 d = none ∧ Q (.ref C) (some d) (upd (del H2 a) d (.xd fs))) (fun _ _ _ => False)
theorem RsG.mk {K : PySem.W.Frag} {C : Addr} {fld : Str} {v : V} {H1 : Hp} {Q : XK} (o : OexC K C) (no : PySem.W.findIn K (.ref C) fld = some none) (q : ∀ d H', Ext H1 H' → H1 d = none → H' d = some (.xd [(fld, v)]) → Q (.ref C) (some d) H') : RsG K C fld v H1 Q := by
  refine ⟨by simp, fun a ha => ⟨a, v, rfl, upd_same, o, no, fun d hd ne => ⟨rfl, d, [(fld, v)], upd_same, ?_, ?_, ?_⟩⟩⟩
  · rw [upd_ne ne, upd_same]
  · rw [upd_ne ne] at hd
    exact hd
  · rw [upd_ne ne] at hd
    refine q d _ (fun b u hb => ?_) hd upd_same
    rw [upd_ne (ne_of_none hb hd), del_ne (ne_of_none hb ha), upd_ne (ne_of_none hb ha), upd_ne (ne_of_none hb hd), upd_ne (ne_of_none hb ha)]
    exact hb
theorem ps_raiseE {W : WX} {fld : Str} (hc : X.calm = true) (tk : Takes X W) (Er : ErrOk X.prog X.w X.K X.mg X.base x C fld) (hr : Room j X.A) (he : PE X e te)
    (hk : 2 ≤ j := by decide) (hg : Gl X x := by rfl) (hdb : (x == ("__debug__" : Str)) = false := by decide)
    (hs : starEach [e] X.env = (false, eval e X.env) :: starEach [] X.env := by rfl) {p2 : Pos} :
    PS X (.Raise (some (.Call (.Name x p) [e] [] pos)) none p2) (fun _ σ H => te σ H fun v H1 => RsG X.K C fld v H1 fun cls d H' => W cls d σ H') := by
  obtain ⟨f, fd, ps, I, b, F⟩ := Er.ex
  exact ps_raise (pos := p2) hc tk (pmk_oex (p := p) (pos := pos) Er.o I.at_ I.ty F (hr.mono hk) b .nil pass0 hg Er.g (pa_cons he pa_nil hs) hdb hs (by rfl))
theorem r_raise {W : Value → Option Addr → Hp → Prop} {K : PySem.W.Frag} {fld : Str} {σ : L2.St} {H : Hp} (h : te σ H fun v H1 => RsG K C fld v H1 W) : te σ H fun v H1 => RsG K C fld v H1 W := h
/-- f(e, ..), f may raise what this def lets out -/
theorem pe_callDX {E : XK} (Df : DfOk X.prog X.w X.K X.mg X.base CX k x ps sp) (hr : Room j X.A) (hx : Passes CX X E) (ha : PA X (e :: es) t)
    (hk : k ≤ j := by decide) (hg : Gl X x := by rfl) (hdb : (x == ("__debug__" : Str)) = false := by decide)
    (he : starEach (e :: es) X.env = (false, eval e X.env) :: starEach es X.env := by rfl) (hpl : (backTo pos (starEach es X.env)).any (·.1) = false := by rfl) :
    PE X (.Call (.Name x p) (e :: es) [] pos) (tCall sp [] E t) := by
  obtain ⟨f, fd, hm, hkp, hb, F⟩ := Df.ex
  exact pe_call F (hr.mono hk) hg hm hkp hb .nil hx ha hdb he hpl
end
end Wc

set_option Elab.async false
set_option linter.all false
set_option maxRecDepth 100000
set_option maxHeartbeats 4000000
/-! names; things of any kind -/
namespace Wc
open PySem PySem.Spec PyProof.Rows L2
def LET : Str := "abcdefghijklmnopqrstuvwxyz"
def letB (z : Str) : Bool := !(Builtin.Str.occurrences LET z 0 LET.length 1).isEmpty
def nameS (s : Str) : Bool := decide (1 ≤ (s.length : Int)) && (decide ((s.length : Int) ≤ 8) && (s.cps.toList.map fun c => letB ⟨#[c]⟩).all id)
def nameV : V → Bool
  | .str s => nameS s
  | _ => false
def isS : V → Bool
  | .str _ => true
  | _ => false
/-- a thing of any kind: whether it is a text; whether a tuple, and of what -/
structure Th (K : PySem.W.Frag) (H : Hp) (x : V) (tp : Option (List V)) : Prop where
  ty : ∃ t, TyX K H x t ∧ PySem.W.kitOne K t (.type "str") = some (isS x) ∧ PySem.W.kitOne K t (.type "tuple") = some tp.isSome
  tup : ∀ xs, tp = some xs → ∃ a, x = .ref a ∧ H a = some (.tup xs)
  len : ∀ s, x = .str s → s.length ≤ 1000
  fl : flatV x = true ∨ ∃ a, x = .ref a
section
variable {K : PySem.W.Frag} {H : Hp}
theorem Th.str {s : Str} (h : s.length ≤ 1000) : Th K H (.str s) none := ⟨⟨_, .base (.str s), kit_ty (show kitB "str" "str" = some true by decide +kernel), kit_ty (show kitB "str" "tuple" = some false by decide +kernel)⟩, fun _ z => (by cases z), fun z e => (by cases e; exact h), .inl rfl⟩
theorem Th.non : Th K H .non none := ⟨⟨_, .base .non, kit_ty (show kitB "NoneType" "str" = some false by decide +kernel), kit_ty (show kitB "NoneType" "tuple" = some false by decide +kernel)⟩, fun _ z => (by cases z), fun z e => (by cases e), .inl rfl⟩
theorem Th.int {i : Int} : Th K H (.int i) none := ⟨⟨_, .base (.int i), kit_ty (show kitB "int" "str" = some false by decide +kernel), kit_ty (show kitB "int" "tuple" = some false by decide +kernel)⟩, fun _ z => (by cases z), fun z e => (by cases e), .inl rfl⟩
theorem Th.bl {b : Bool} : Th K H (.bl b) none := ⟨⟨_, .base (.bl b), kit_ty (show kitB "bool" "str" = some false by decide +kernel), kit_ty (show kitB "bool" "tuple" = some false by decide +kernel)⟩, fun _ z => (by cases z), fun z e => (by cases e), .inl rfl⟩
theorem Th.tupl {a : Addr} {xs : List V} (h : H a = some (.tup xs)) : Th K H (.ref a) (some xs) := ⟨⟨_, .base (.tup h), kit_ty (show kitB "tuple" "str" = some false by decide +kernel), kit_ty (show kitB "tuple" "tuple" = some true by decide +kernel)⟩, fun ys z => by cases z; exact ⟨a, rfl, h⟩, fun z e => (by cases e), .inr ⟨_, rfl⟩⟩
theorem Th.lst {a : Addr} {xs : List V} (h : H a = some (.lst xs)) : Th K H (.ref a) none := ⟨⟨_, .base (.lst h), kit_ty (show kitB "list" "str" = some false by decide +kernel), kit_ty (show kitB "list" "tuple" = some false by decide +kernel)⟩, fun _ z => (by cases z), fun z e => (by cases e), .inr ⟨_, rfl⟩⟩
theorem Th.dct {a : Addr} {kvs : List (Key × V)} (h : H a = some (.dK kvs)) : Th K H (.ref a) none := ⟨⟨_, .base (.dK h), kit_ty (show kitB "dict" "str" = some false by decide +kernel), kit_ty (show kitB "dict" "tuple" = some false by decide +kernel)⟩, fun _ z => (by cases z), fun z e => (by cases e), .inr ⟨_, rfl⟩⟩
theorem Th.isS {x : V} {tp : Option (List V)} (t : Th K H x tp) (h : Wc.isS x = true) : ∃ s, x = .str s ∧ s.length ≤ 1000 := by
  cases x <;> first | (cases h; done) | exact ⟨_, rfl, t.len _ rfl⟩
end
theorem nameV_of {x : V} (h : isS x = false) : nameV x = false := by
  cases x <;> first | rfl | cases h
theorem r_isi {K : PySem.W.Frag} {H : Hp} {Q : VK} {x c : V} {t u : Value} {b : Bool} (hc : ClsV c u) (ht : TyX K H x t) (e : PySem.W.kitOne K t u = some b) (q : Q (.bl b) H) : rIsi K [x, c] H Q := ⟨x, c, t, u, b, rfl, hc, ht, e, q⟩
theorem strs_fm (z : Str) {g : _ → V} : (List.range z.cps.size).filterMap (fun i => z.cps[i]?.map g) = z.cps.toList.map g := by
  have e := range_fm z.cps.toList (fun c => some (g c))
  rw [List.filterMap_eq_map'] at e
  rw [← e] 
  simp [Option.map_eq_bind]
  rfl
theorem un1 {A : Around} {k : Nat} (r : Room k A) : A.units + 1 < cLine := by
  have := r.un
  omega
theorem un64 {A : Around} {k : Nat} (r : Room k A) : A.units + 64 < cLine := by
  have := r.un
  omega
def clsV (T : List Cl) : V → Bool
  | .str s => nameS s && (findC T s).isSome
  | _ => false
theorem clsV_of {T : List Cl} {x : V} (h : nameV x = false) : clsV T x = false := by
  cases x <;> first | rfl | (show (nameS _ && _) = false; have h : nameS _ = false := h; rw [h]; rfl)
/-- while, by so many turns at most -/
def WhG (c : TT) (tb : TS) (D : Ends) (σ : L2.St) (H : Hp) : Prop := ∃ W : Nat → L2.St → Hp → Prop, (∃ m, W m σ H) ∧ ∀ m σ H, W m σ H →
  c σ H fun b H1 => if b = true then ∃ N : L2.St → Hp → Prop, (∀ σ' H', N σ' H' → ∃ m', m' < m ∧ W m' σ' H') ∧ tb { D with nx := N, ct := N, bk := D.nx } σ H1 else D.nx σ H1
theorem r_while {c : TT} {tb : TS} {D : Ends} {σ : L2.St} {H : Hp} (h : WhG c tb D σ H) : tWhile c tb D σ H := h
theorem WhG.mk {c : TT} {tb : TS} {D : Ends} {σ : L2.St} {H : Hp} (Pv : Nat → L2.St → Hp → Prop) (m : Nat) (h0 : Pv m σ H)
    (hs : ∀ m σ H, Pv m σ H → c σ H fun b H1 => if b = true then ∃ N : L2.St → Hp → Prop, (∀ σ' H', N σ' H' → ∃ m', m' < m ∧ Pv m' σ' H') ∧ tb { D with nx := N, ct := N, bk := D.nx } σ H1 else D.nx σ H1) : WhG c tb D σ H := ⟨Pv, ⟨m, h0⟩, hs⟩
theorem whN {Pv : Nat → L2.St → Hp → Prop} {tb : TS} {D : Ends} {σ : L2.St} {H : Hp} {n : Nat} (h : tb { D with nx := Pv n, ct := Pv n, bk := D.nx } σ H) :
    ∃ N : L2.St → Hp → Prop, (∀ σ' H', N σ' H' → ∃ m', m' < n + 1 ∧ Pv m' σ' H') ∧ tb { D with nx := N, ct := N, bk := D.nx } σ H := ⟨Pv n, fun _ _ z => ⟨n, Nat.lt_succ_self n, z⟩, h⟩
theorem optV_non (o : Option Str) : decide (optV o = .non) = o.isNone := by
  cases o <;> rfl
theorem r_disp {trs : List (TE × TE)} {σ : L2.St} {H : Hp} {Q : VK} {H0 : Hp} {M : List Addr} {L : List (Addr × HO)} (k : KH H0 M L H) (h : ∀ p H', H0 p = none → KH H0 M ((p, .dK []) :: L) H' → tPairs trs σ H' fun ps H2 => H2 p = some (.dK []) ∧ ∃ kvs : List (Key × V), ps = kvs.map (fun kv => (kV kv.1, kv.2)) ∧ kvs.length ≤ 15 ∧ Q (.ref p) (upd H2 p (.dK (mergeK [] kvs)))) : tDisp trs σ H Q :=
  fun p hp => h p _ (k.fresh hp) (k.new hp)
theorem r_pnil {σ : L2.St} {H : Hp} {Q : List (V × V) → Hp → Prop} (h : Q [] H) : tPairs [] σ H Q := h
theorem r_pcons {tk tv : TE} {r : List (TE × TE)} {σ : L2.St} {H : Hp} {Q : List (V × V) → Hp → Prop} (h : tk σ H fun x H1 => tv σ H1 fun y H2 => tPairs r σ H2 fun ps H3 => Q ((x, y) :: ps) H3) : tPairs ((tk, tv) :: r) σ H Q := h
theorem r_dispE {p : Addr} {ps : List (V × V)} {H : Hp} {R : List (Key × V) → Prop} (kvs : List (Key × V)) (h : H p = some (.dK [])) (e : ps = kvs.map (fun kv => (kV kv.1, kv.2))) (hl : kvs.length ≤ 15) (q : R kvs) :
    H p = some (.dK []) ∧ ∃ kvs : List (Key × V), ps = kvs.map (fun kv => (kV kv.1, kv.2)) ∧ kvs.length ≤ 15 ∧ R kvs := ⟨h, kvs, e, hl, q⟩
/-- the runtime, to be changed -/
structure RtW (CK CR : Addr) (H : Hp) (r kd tl : Addr) (T : List Cl) (n : Nat) : Prop where
  at_ : RtAt CK CR H r kd tl T n
  kd : ∃ kvs, H kd = some (.dK kvs)
/-- so it ends: C(v) is raised, its field fld -/
def ExTo (E : XK) (H : Hp) (C : Addr) (fld : Str) (v : V) : Prop := ∀ d H', Ext H H' → H d = none → H' d = some (.xd [(fld, v)]) → E (.ref C) (some d) H'
theorem ExTo.ext {E : XK} {H H1 : Hp} {C : Addr} {fld : Str} {v : V} (h : ExTo E H C fld v) (e : Ext H H1) : ExTo E H1 C fld v := fun d H' e2 hd hx => h d H' (e.trans e2) (e.free hd) hx
theorem cps_at {z : Str} {c : _} {i : Nat} (h : z.cps[i]? = some c) : z.cps.toList[i]? = some c := by simpa using h
theorem all_map_id (l : List V) (bs : List Bool) (h : l = bs.map V.bl) : l = bs.map V.bl := h
end Wc

set_option Elab.async false
set_option linter.all false
set_option maxRecDepth 100000
set_option maxHeartbeats 4000000
/-! try with many clauses, some of which name the exception -/
namespace Wc
open PySem PySem.Spec PyProof.Rows L2
abbrev SuT : Type := Addr → Value → Option Addr → TS
/-- the ends of a named clause: the name is gone behind it -/
def gone (D : Ends) (i : Nat) : Ends := { nx := fun z h => D.nx (z.set i none) h, rt := D.rt, bk := fun z h => D.bk (z.set i none) h, ct := fun z h => D.ct (z.set i none) h }
/-- one clause takes it -/
def clauseT (D : Ends) (oi : Option Nat) (ts : SuT) (cls : Value) (d : Option Addr) (z : L2.St) (h : Hp) : Prop := match oi with
  | none => ∀ a, h a = none → ts a cls d D z h
  | some i => ∀ a, h a = none → ts a cls d (gone D i) (z.set i (some (.ref a))) h
def wAll (K : PySem.W.Frag) (Wo : WX) (D : Ends) : List (Value × Option Nat × SuT) → WX
  | [] => Wo
  | q :: r => fun cls d z h => ∃ b, PySem.W.exmOne K cls q.1 = some b ∧ (b = true → clauseT D q.2.1 q.2.2 cls d z h) ∧ (b = false → wAll K Wo D r cls d z h)
/-- a suite that reads ts, whatever exception object stands there -/
abbrev SuOk (X : Cx) (l : List Stmt) (ts : SuT) : Prop := ∀ (a : Addr) (oe : Obj) (cls : Value) (d : Option Addr) (pn : List (Addr × Obj)), Zc cls d oe → (∃ vs, oe.data = .fields vs) → PSs (X.suite a ((a, oe) :: pn)) l (ts a cls d)
inductive ClOk (X : Cx) : List ExceptHandler → List (Value × Option Nat × SuT) → Prop
  | nil : ClOk X [] []
  | plain {x : Str} {c : Value} {ts : SuT} {b : Stmt} {su : List Stmt} {p1 p2 : Pos} {hds : List ExceptHandler} {l : List (Value × Option Nat × SuT)} (n : Names X x c) (s : SuOk X (b :: su) ts) (r : ClOk X hds l) :
      ClOk X (.ExceptHandler (some (.Name x p1)) none (b :: su) p2 :: hds) ((c, none, ts) :: l)
  | named {x y : Str} {i : Nat} {c : Value} {ts : SuT} {b : Stmt} {su : List Stmt} {p1 p2 : Pos} {hds : List ExceptHandler} {l : List (Value × Option Nat × SuT)} (hi : X.N[i]? = some y) (hl : X.env.kindOf y = some .local) (n : Names X x c) (s : SuOk X (b :: su) ts) (r : ClOk X hds l) :
      ClOk X (.ExceptHandler (some (.Name x p1)) (some y) (b :: su) p2 :: hds) ((c, some i, ts) :: l)
section
variable {X : Cx}
/-- the flow behind a suite -/
theorem sp_same {ok : X.Ok} {pins : List (Addr × Obj)} {D : Ends} {a : Addr} {pn : List (Addr × Obj)} {f : Flow} {s : Shared} (h : SP (X.suite a pn) [] D f s) (k : ∀ {z : L2.St} {H : Hp}, Inv (X.suite a pn) [] z H s → Inv X pins z H s) : SP X pins D f s := by
  cases f with
  | next => obtain ⟨z, H, I, q⟩ := h; exact ⟨z, H, k I, q⟩
  | brk => obtain ⟨z, H, I, q⟩ := h; exact ⟨z, H, k I, q⟩
  | cont => obtain ⟨z, H, I, q⟩ := h; exact ⟨z, H, k I, q⟩
  | ret u => obtain ⟨v, z, H, I, r, q⟩ := h; exact ⟨v, z, H, k I, r, q⟩
variable {body : List Stmt} {h0 : ExceptHandler} {hds : List ExceptHandler} {l : List (Value × Option Nat × SuT)} {pos : Pos} {tb : WX → TS} {Wo : WX}
theorem ps_tryA (hs : X.stack = X.env :: X.outer) (hf : X.env.frame = some X.env.locals) (nd : X.N.Nodup) (tk : Takes X Wo)
    (hb : ∀ (W : WX) (pn : List (Addr × Obj)) (xe : Value → Shared → Prop), Takes (X.tr pn xe) W → PassesOwn (model X.prog X.w) X.A X.env xe → PSs (X.tr pn xe) body (tb W))
    (cl : ClOk X (h0 :: hds) l) : PS X (.Try body (h0 :: hds) [] [] pos) (fun D z h => tb (wAll X.K Wo D l) D z h) := by
  refine ⟨fun pins s0 z0 H0 D I0 start => ?_⟩
  have okX := I0.ok
  have frames : X.A.frames = some (X.env :: X.outer) := okX.frames.trans (by rw [hs])
  refine wpAny_Try_except (wpAny_mono ((hb (wAll X.K Wo D l) (X.pn ++ pins) (fun e s1 => wpAny (model X.prog X.w) X.A (noteFrame e X.env) (fun _ s2 => wpAny (model X.prog X.w) X.A (setFlight e none)
    (fun _ s3 => wpAny (model X.prog X.w) X.A (handleBy e X.env (h0 :: hds)) (SP X pins D) X.xe s3) X.xe s2) X.xe s1) (fun u s1 caught => ?_) PassesOwn.looking).run [] s0 z0 H0 D (I0.toTry _) start) (fun f s1 sp => ?_) fun _ _ z => z)
  · obtain ⟨a, B, sI, pi, z, H, cls, d, rfl, JT, nb, up, sky, na, os, ag, wish⟩ := caught
    have J := JT.ofTry okX
    rw [hs] at sky
    show wpAny (model X.prog X.w) X.A (noteFrame (.ref a) X.env) _ _ _
    refine Sky.land Zc.steady frames hf sky fun g fl upg => ?_
    have upT := up.trans upg
    have JL : Inv X pins z H { s1 with heap := g } := J.landed nb fl.1 upT os ag
    obtain ⟨og, vg, eg, zg, dg⟩ := fl.there
    have off : a ∉ frs (X.env :: X.outer) := fun m => by
      obtain ⟨_, o2, e2, no2⟩ := fl.2.2.1.mem m
      rw [eg] at e2
      cases e2
      exact no2 _ dg
    have offL : a ≠ X.env.locals := fun e => off (List.mem_filterMap.mpr ⟨X.env, by simp, by rw [hf, e]⟩)
    have offF : a ∉ X.fs := fun m => by
      obtain ⟨env, me, q⟩ := List.mem_filterMap.mp m
      exact off (List.mem_filterMap.mpr ⟨env, by simp [me], q⟩)
    have looks : ∀ {c : Value} {b : Bool}, PySem.W.exmOne X.K cls c = some b → _ := fun {c b} e => PySem.W.exm_one (M := model X.prog X.w) JL.kIn (fun A Q E s k q => wpAny_typeOf_ref (k _ _ eg) (by rw [zg.1]; exact q) : PySem.W.Looks (model X.prog X.w) g (typeOf (.ref a)) cls) e
    have SL := JL.suite eg dg na offL offF
    have test : ∀ {x : Str} {c : Value} {np : Pos} {Q : Value → Shared → Prop} {E : Value → Shared → Prop}, Names X x c → Q c { s1 with heap := g } → wpAny (model X.prog X.w) (X.A.mark (some (.ref a))) (eval (.Name x np) X.env) Q E { s1 with heap := g } := fun {x c np Q E} nm q => by
      obtain ⟨g1, g2, m1 | ⟨m1, m2, m3⟩⟩ := nm
      · exact ld_glob (X := X.suite a ((a, og) :: (X.pn ++ pins))) SL g1 m1 q g2
      · exact ld_blt (X := X.suite a ((a, og) :: (X.pn ++ pins))) SL g1 m1 m2 q m3 g2
    have go : ∀ {hd : List ExceptHandler} {cs : List (Value × Option Nat × SuT)}, ClOk X hd cs → wAll X.K Wo D cs cls d z H → wpAny (model X.prog X.w) X.A (handleBy (.ref a) X.env hd) (SP X pins D) X.xe { s1 with heap := g } := by
      intro hd cs ck
      induction ck with
      | nil =>
        intro out
        refine wpAny_handleBy_nil ?_
        obtain ⟨_, _, _, ob, vs, tb0, otb, tz, eo, _, dv, hv, _⟩ := id fl
        unfold PySem.passOn
        refine wpAny_bind (wpAny_field eo dv hv ?_)
        rw [if_neg (show ¬ ((Value.ref tb0 == Value.none) = true) by simp)]
        have up2 : wpAny (model X.prog X.w) X.A (setFlight (.ref a) X.env.frame) (fun _ sz => wpAny (model X.prog X.w) X.A (throw (.ref a) : Sem Flow) (SP X pins D) X.xe sz) X.xe { s1 with heap := g } := by
          rw [hf]
          exact HandSPX.setFlight_upZ fl fun k hk upk => wpAny_throw (tk _ _ ⟨a, B, sI, pins, z, H, cls, d, rfl, J, nb, upT.trans upk, .inr (.inr (by rw [hs]; exact hk)), na, os, ag, out⟩)
        first
          | exact wpAny_bind (wpAny_pure (wpAny_bind up2))
          | exact wpAny_bind up2
      | @plain x c ts b su p1 p2 hds' l' nm so _ ih =>
        rintro ⟨bb, e1, yes, no⟩
        refine wpAny_handleBy_cons (codeAny_handlers_test (test nm ((looks e1).here ?_))) (fun q => by cases q)
        cases bb with
        | false => exact ih (no rfl)
        | true =>
          refine codeAny_handlers_suite (HandSPX.lands_againZ fl fun k fk upk => ?_)
          have JK : Inv X pins z H { s1 with heap := k } := J.landed nb fk.1 (upT.trans upk) os ag
          obtain ⟨ok', vk, ek, zk, dk⟩ := fk.there
          exact wpAny_mono ((so a ok' cls d (X.pn ++ pins) zk ⟨_, dk⟩).run [] _ _ H D (JK.suite ek dk na offL offF) (yes rfl a na)) (fun f s2 q => sp_same (ok := okX) q fun I2 => I2.unsuite okX) fun _ _ w => w.elim
      | @named x y i c ts b su p1 p2 hds' l' hi hl nm so _ ih =>
        rintro ⟨bb, e1, yes, no⟩
        refine wpAny_handleBy_cons (codeAny_handlers_test (test nm ((looks e1).here ?_))) (fun q => by cases q)
        cases bb with
        | false => exact ih (no rfl)
        | true =>
          refine codeAny_handlers_suite_as (HandSPX.lands_againZ fl fun k fk upk => ?_)
          have JK : Inv X pins z H { s1 with heap := k } := J.landed nb fk.1 (upT.trans upk) os ag
          obtain ⟨ok', vk, ek, zk, dk⟩ := fk.there
          refine store_ok (X := X.suite a ((a, ok') :: (X.pn ++ pins))) (v := .ref a) (JK.suite ek dk na offL offF) nd hi (.inl hl) rfl (fun s2 S2 => ?_) (.inr hl)
          refine wpAny_mono ((so a ok' cls d (X.pn ++ pins) zk ⟨_, dk⟩).run [] s2 _ H (gone D i) S2 (yes rfl a na)) (fun f s3 q => ?_) fun _ _ w => w.elim
          have fin : ∀ {z3 : L2.St} {H3 : Hp} {Q : Shared → Prop}, Inv (X.suite a ((a, ok') :: (X.pn ++ pins))) [] z3 H3 s3 → (∀ s4, Inv X pins (z3.set i none) H3 s4 → Q s4) →
              wpAny (model X.prog X.w) X.A (do bindName X.env y .none; unbindBehindTheSuite X.env y p2) (fun _ s4 => Q s4) X.xe s3 := fun I3 hq => gone_ok (I3.unsuite okX) nd hi hl hq
          cases f with
          | next => obtain ⟨z3, H3, I3, q3⟩ := q; exact fin I3 fun _ J4 => ⟨_, _, J4, q3⟩
          | brk => obtain ⟨z3, H3, I3, q3⟩ := q; exact fin I3 fun _ J4 => ⟨_, _, J4, q3⟩
          | cont => obtain ⟨z3, H3, I3, q3⟩ := q; exact fin I3 fun _ J4 => ⟨_, _, J4, q3⟩
          | ret u => obtain ⟨v3, z3, H3, I3, r3, q3⟩ := q; exact fin I3 fun _ J4 => ⟨_, _, _, J4, r3, q3⟩
    exact go cl wish
  · cases f with
    | next => obtain ⟨z, H, J, q⟩ := sp; exact wpAny_execs_nil ⟨z, H, J.ofTry okX, q⟩
    | brk => obtain ⟨z, H, J, q⟩ := sp; exact ⟨z, H, J.ofTry okX, q⟩
    | cont => obtain ⟨z, H, J, q⟩ := sp; exact ⟨z, H, J.ofTry okX, q⟩
    | ret u => obtain ⟨v, z, H, J, r, q⟩ := sp; exact ⟨v, z, H, J.ofTry okX, r, q⟩
end
/-- a def with defaults, called without them -/
structure DfOkD (P : Program) (w : World) (K : PySem.W.Frag) (mg : Str → Option Value) (base : Heap) (CX : CXT) (k : Nat) (x : Str) (ps : List Str) (dvs : List V) (sp : Sp) : Prop where
  ex : ∃ (f : Addr) (fd : FuncData) (ds : List Value), mg x = some (.ref f) ∧ PySem.W.keepIn K (.ref f) = true ∧ Vals dvs ds ∧ Binds K fd ps ds ∧ FnOk P w K mg base CX k f fd ps sp
theorem pe_callDf {X : Cx} {CX : CXT} {k j : Nat} {x : Str} {ps : List Str} {dvs : List V} {sp : Sp} {p pos : Pos} {e : Expr} {es : List Expr} {t : TA} (Df : DfOkD X.prog X.w X.K X.mg X.base CX k x ps dvs sp) (hr : Room j X.A) (ha : PA X (e :: es) t)
    (hk : k ≤ j := by decide) (hx : Passes CX X E0 := by first | exact pass0 | exact passL) (hg : Gl X x := by rfl) (hdb : (x == ("__debug__" : Str)) = false := by decide)
    (he : starEach (e :: es) X.env = (false, eval e X.env) :: starEach es X.env := by rfl) (hpl : (backTo pos (starEach es X.env)).any (·.1) = false := by rfl) :
    PE X (.Call (.Name x p) (e :: es) [] pos) (tCall sp dvs E0 t) := by
  obtain ⟨f, fd, ds, hm, hkp, hv, hb, F⟩ := Df.ex
  exact pe_call F (hr.mono hk) hg hm hkp hb hv hx ha hdb he hpl
/-- a for over any walk -/
def ForJ (J : It) (g : TG) (tb : TS) (D : Ends) (σ : L2.St) (H : Hp) : Prop := ∃ W : Nat → Nat → L2.St → Hp → Prop, (∃ m, W 0 m σ H) ∧ ∀ i m σ H, W i m σ H →
  (J.stop i H ∧ D.nx σ H) ∨ (J.go i H ∧ ∃ N : L2.St → Hp → Prop, (∀ σ' H', N σ' H' → ∃ m', m' < m ∧ W (i + 1) m' σ' H') ∧ ∀ x H', J.yld i H x H' → g x σ H' fun σ2 H2 => tb { D with nx := N, ct := N, bk := D.nx } σ2 H2)
theorem ForJ.mk {J : It} {n : Nat} {G : Hp → Prop} {Y : Nat → Hp → V → Hp → Prop} {g : TG} {tb : TS} {D : Ends} {σ : L2.St} {H : Hp} (w : Walk J n G Y) (Pv : Nat → L2.St → Hp → Prop) (h0 : Pv 0 σ H) (hG : ∀ i σ H, i ≤ n → Pv i σ H → G H)
    (hs : ∀ i x σ H H', i < n → Pv i σ H → Y i H x H' → g x σ H' fun σ2 H2 => tb { D with nx := Pv (i + 1), ct := Pv (i + 1), bk := D.nx } σ2 H2) (hd : ∀ σ H, Pv n σ H → D.nx σ H) : ForJ J g tb D σ H := for_it w Pv h0 hG hs hd
theorem r_forK {td : TE} {g : TG} {tb : TS} {D : Ends} {σ : L2.St} {H : Hp} (h : td σ H fun x H1 => ∃ d o, x = .ref d ∧ ((∃ kvs, H1 d = some (.frz o (.dK kvs)) ∧ ForJ (Itk d o kvs) g tb D σ H1) ∨ ∃ kvs, H1 d = some (.frz o (.dT kvs)) ∧ ForJ (Itkt d o kvs) g tb D σ H1)) : tFor (iKeys td) g tb D σ H := h
theorem r_lock {t : TS} {D : Ends} {σ : L2.St} {H : Hp} {d : Addr} {u : HO} (h : H d = some u) (m : Mut (some u)) (q : ∀ od, t ⟨fun σ' H' => H' d = some (.frz od u) ∧ D.nx σ' (upd H' d u), fun v H' => H' d = some (.frz od u) ∧ D.rt v (upd H' d u), fun σ' H' => H' d = some (.frz od u) ∧ D.bk σ' (upd H' d u), fun σ' H' => H' d = some (.frz od u) ∧ D.ct σ' (upd H' d u)⟩ σ (upd H d (.frz od u))) : tLock t D σ H := ⟨d, u, h, m, q⟩
theorem r_clear {l : Addr} {xs : List V} {H : Hp} {Q : VK} (h : H l = some (.lst xs)) (q : UpdO l (.lst []) (Q .non) H) : rClear (.ref l) [] H Q := ⟨l, xs, rfl, rfl, h, q⟩
theorem ne_data {K : PySem.W.Frag} {H : Hp} {x y : V} {d : PyData} {Q : VK} (h1 : Dp K H x d) (h2 : Dp K H y d) (hs : SeqAt.shaped d = true) (q : Q (.bl false) H) : rNeD K x y H Q := ne_same h1 h2 hs q
theorem strs_dp {K : PySem.W.Frag} {H : Hp} : ∀ l : List Str, DpAll K H (l.map V.str) (l.map PyData.str)
  | [] => .nil
  | x :: l => .cons (.str x) (strs_dp l)
theorem strs_lay : ∀ {l : List Str}, (∀ x, x ∈ l → PyData.strOk x = true) → PyData.canLayAll0 (l.map PyData.str) = true ∧ PyData.depthAll (l.map PyData.str) = 0
  | [], _ => ⟨rfl, rfl⟩
  | x :: l, h => by
    obtain ⟨h1, h2⟩ := strs_lay (l := l) fun u hu => h u (by simp [hu])
    refine ⟨?_, ?_⟩
    · show (PyData.canLay0 (.str x) && PyData.canLayAll0 (l.map PyData.str)) = true
      rw [h1, show PyData.canLay0 (.str x) = true by simpa [PyData.canLay0] using h x (by simp)] <;> rfl
    · show max (PyData.depth (.str x)) (PyData.depthAll (l.map PyData.str)) = 0
      rw [h2] <;> rfl
theorem strs_shaped {l : List Str} (h : ∀ x, x ∈ l → PyData.strOk x = true) : SeqAt.shaped (.list (l.map PyData.str)) = true := by
  obtain ⟨h1, h2⟩ := strs_lay h
  show (PyData.canLay0 (.list (l.map PyData.str)) && decide (PyData.depth (.list (l.map PyData.str)) ≤ 64)) = true
  rw [show PyData.canLay0 (.list (l.map PyData.str)) = true by simpa [PyData.canLay0] using h1, show PyData.depth (.list (l.map PyData.str)) = 1 by show PyData.depthAll (l.map PyData.str) + 1 = 1; rw [h2]]
  rfl
/-- what stands besides some lists and dicts -/
theorem RtW.fr {CK CR : Addr} {A : List Addr} {H H' : Hp} {r kd tl : Addr} {T : List Cl} {n : Nat} (R : RtW CK CR H r kd tl T n) (f : Fr A H H') (m : Mo H H') (h1 : kd ∉ A) (h2 : tl ∉ A) : RtW CK CR H' r kd tl T n := by
  obtain ⟨⟨⟨dx, fs, a1, a2⟩, ⟨kvs, b1, b2⟩, xs, c1, c2⟩, kv0, d0⟩ := R
  refine ⟨⟨⟨dx, fs, m _ _ rfl a1, a2⟩, ⟨kvs, ?_, b2.mono fun _ _ z => z.mo m⟩, xs, f _ _ h2 c1, c2⟩, kv0, f _ _ h1 d0⟩
  rcases b1 with b | ⟨o, b⟩
  · exact .inl (f _ _ h1 b)
  · exact .inr ⟨o, f _ _ h1 b⟩
theorem r_revL {K : PySem.W.Frag} {te : TE} {σ : L2.St} {H : Hp} {Q : VK} (h : te σ H fun x H1 => ∃ a xs, x = .ref a ∧ SqL K H1 a xs ∧ AllocO (.lst xs.reverse) Q H1) : tRevL K te σ H Q := h
end Wc

set_option Elab.async false
set_option linter.all false
set_option maxRecDepth 100000
set_option maxHeartbeats 4000000
/-! the tree of classes, in plain Lean -/
namespace Wc
open PySem PySem.Spec PyProof.Rows L2
def okNames : List Str := ["any", "int", "a", "b", "cat", "dog", "edge", "eightabc", "g"]
theorem okNames_ok : ∀ z, z ∈ okNames → nameS z = true ∧ z.length ≤ 8 := by decide +kernel
structure WF (T : List Cl) (n : Nat) : Prop where
  nd : (T.map (·.name)).Nodup
  nm : ∀ c, c ∈ T → c.name ∈ okNames
  tl : T.length = n + 2
  ok : ∀ c, c ∈ T → (c.par = none ∧ c.all = c.own) ∨ ∃ p c', c.par = some p ∧ findC T p = some c' ∧ c.all = c'.all ++ c.own
  ln : ∀ c, c ∈ T → ∃ l, Line T (some c.name) l ∧ l.length ≤ T.length
  since : ∀ c, c ∈ T → c.since ≤ n
  al : ∀ c, c ∈ T → c.all.length ≤ 3 * T.length
  int : ∃ c, findC T "int" = some c
  any : ∃ c, findC T "any" = some c
theorem find_mem {T : List Cl} {x : Str} {c : Cl} (h : findC T x = some c) : c ∈ T ∧ c.name = x :=
  ⟨List.mem_of_find?_eq_some h, by simpa using List.find?_some h⟩
theorem find_of {T : List Cl} {c : Cl} (nd : (T.map (·.name)).Nodup) (h : c ∈ T) : findC T c.name = some c := by
  induction T with
  | nil => cases h
  | cons d T ih =>
    rw [List.map_cons, List.nodup_cons] at nd
    unfold findC
    rw [List.find?_cons]
    rcases List.mem_cons.mp h with e | h
    · rw [e, decide_eq_true rfl]
    · have ne : d.name ≠ c.name := fun z => nd.1 (by rw [z]; exact List.mem_map_of_mem h)
      rw [decide_eq_false ne]
      exact ih nd.2 h
theorem find_app {T : List Cl} {x : Str} {c d : Cl} (h : findC T x = some c) : findC (T ++ [d]) x = some c := by
  unfold findC
  rw [List.find?_append, show T.find? (fun c => decide (c.name = x)) = some c from h]
  rfl
theorem find_new {T : List Cl} {d : Cl} (h : findC T d.name = none) : findC (T ++ [d]) d.name = some d := by
  unfold findC
  rw [List.find?_append, show T.find? (fun c => decide (c.name = d.name)) = none from h]
  simp
theorem Line.app {T : List Cl} {o : Option Str} {l : List Str} {d : Cl} (h : Line T o l) : Line (T ++ [d]) o l := by
  induction h with
  | nil => exact .nil
  | cons h t ih => exact .cons (find_app h) ih
theorem WF.find {T : List Cl} {n : Nat} (w : WF T n) {c : Cl} (h : c ∈ T) : findC T c.name = some c := find_of w.nd h
theorem WF.add {T : List Cl} {n : Nat} (w : WF T n) {z p : Str} {c : Cl} {xs : List V} (hz : findC T z = none) (ho : z ∈ okNames) (hp : findC T p = some c) (hx : xs.length ≤ 3) :
    WF (T ++ [⟨z, some p, xs, c.all ++ xs, n + 1⟩]) (n + 1) := by
  have cT := (find_mem hp).1
  have old : ∀ d, d ∈ T ++ [(⟨z, some p, xs, c.all ++ xs, n + 1⟩ : Cl)] → d ∈ T ∨ d = ⟨z, some p, xs, c.all ++ xs, n + 1⟩ := fun d h => by simpa using h
  have zn : z ∉ T.map (·.name) := fun m => by
    obtain ⟨d, hd, e⟩ := List.mem_map.mp m
    have := w.find hd
    rw [e, hz] at this
    cases this
  refine ⟨?_, fun d h => ?_, by rw [List.length_append, w.tl]; rfl, fun d h => ?_, fun d h => ?_, fun d h => ?_, fun d h => ?_, ?_, ?_⟩
  · rw [List.map_append, List.nodup_append]
    refine ⟨w.nd, by simp, fun a ha b hb e => ?_⟩
    simp at hb
    rw [e, hb] at ha
    exact zn ha
  · rcases old d h with h | rfl
    · exact w.nm d h
    · exact ho
  · rcases old d h with h | rfl
    · rcases w.ok d h with h | ⟨q, c', h1, h2, h3⟩
      · exact .inl h
      · exact .inr ⟨q, c', h1, find_app h2, h3⟩
    · exact .inr ⟨p, c, rfl, find_app hp, rfl⟩
  · rcases old d h with h | rfl
    · obtain ⟨l, h1, h2⟩ := w.ln d h
      exact ⟨l, h1.app, by rw [List.length_append]; omega⟩
    · obtain ⟨l, h1, h2⟩ := w.ln c cT
      rw [(find_mem hp).2] at h1
      exact ⟨z :: l, .cons (find_new (d := ⟨z, some p, xs, c.all ++ xs, n + 1⟩) hz) h1.app, by rw [List.length_append, List.length_cons]; show l.length + 1 ≤ T.length + 1; omega⟩
  · rcases old d h with h | rfl
    · have := w.since d h
      omega
    · exact Nat.le_refl _
  · rcases old d h with h | rfl
    · have := w.al d h
      rw [List.length_append]
      omega
    · have := w.al c cT
      show (c.all ++ xs).length ≤ _
      rw [List.length_append, List.length_append]
      show c.all.length + xs.length ≤ 3 * (T.length + 1)
      omega
  · obtain ⟨d, h⟩ := w.int
    exact ⟨d, find_app h⟩
  · obtain ⟨d, h⟩ := w.any
    exact ⟨d, find_app h⟩
/-- the fields of some classes, one after the other -/
def ownsOf (T : List Cl) (l : List Str) : List V := l.flatMap fun x => match findC T x with
  | some c => c.own
  | none => []
theorem owns_all {T : List Cl} {n : Nat} (w : WF T n) {o : Option Str} {l : List Str} (h : Line T o l) : ∀ x c, o = some x → findC T x = some c → ownsOf T l.reverse = c.all := by
  induction h with
  | nil => intro x c e; cases e
  | @cons x c l h t ih =>
    intro y d e hd
    cases e
    rw [h] at hd
    cases hd
    have e : ownsOf T (x :: l).reverse = ownsOf T l.reverse ++ c.own := by
      rw [List.reverse_cons]
      unfold ownsOf
      rw [List.flatMap_append]
      show _ ++ ((match findC T x with | some c => c.own | none => []) ++ []) = _
      rw [h, List.append_nil]
    rw [e]
    rcases w.ok c (find_mem h).1 with ⟨h1, h2⟩ | ⟨p, c', h1, h2, h3⟩
    · rw [h1] at t
      cases t
      rw [h2]
      rfl
    · rw [ih p c' h1 h2, h3]
def knownL' (T : List Cl) (n : Nat) : List Str := (T.filter fun c => decide ((c.since : Int) ≤ (n : Int))).map (·.name)
theorem known_all {T : List Cl} {n : Nat} (w : WF T n) : knownL' T n = T.map (·.name) := by
  unfold knownL'
  rw [List.filter_eq_self.mpr]
  intro c h
  have := w.since c h
  exact decide_eq_true (by omega)
theorem WF.start : WF [⟨"any", none, [], [], 0⟩, ⟨"int", some "any", [], [], 0⟩] 0 := by
  have f1 : findC [⟨"any", none, [], [], 0⟩, ⟨"int", some "any", [], [], 0⟩] "any" = some ⟨"any", none, [], [], 0⟩ := rfl
  have f2 : findC [⟨"any", none, [], [], 0⟩, ⟨"int", some "any", [], [], 0⟩] "int" = some ⟨"int", some "any", [], [], 0⟩ := rfl
  have two : ∀ {P : Cl → Prop}, P ⟨"any", none, [], [], 0⟩ → P ⟨"int", some "any", [], [], 0⟩ → ∀ c, c ∈ ([⟨"any", none, [], [], 0⟩, ⟨"int", some "any", [], [], 0⟩] : List Cl) → P c := fun {P} h1 h2 c h => by
    simp at h
    rcases h with rfl | rfl
    · exact h1
    · exact h2
  refine ⟨by decide +kernel, two (by decide +kernel) (by decide +kernel), rfl, two (.inl ⟨rfl, rfl⟩) (.inr ⟨"any", _, rfl, f1, rfl⟩), two ⟨["any"], .cons f1 .nil, by decide⟩ ⟨["int", "any"], .cons f2 (.cons f1 .nil), by decide⟩, two (Nat.le_refl _) (Nat.le_refl _), two (Nat.zero_le _) (Nat.zero_le _), ⟨_, f2⟩, ⟨_, f1⟩⟩
/-! ### sorted lists of texts -/
theorem rising_pw : ∀ (l : List Str) (p : Str), risingS p l = true → (p :: l).Pairwise (fun a b => a.cps.toList ≤ b.cps.toList)
  | [], p, _ => by simp
  | x :: r, p, h => by
    have h : (!ltCps x.cps.toList p.cps.toList && risingS x r) = true := h
    rw [Bool.and_eq_true] at h
    have ih := rising_pw r x h.2
    have hx : p.cps.toList ≤ x.cps.toList := by
      have h1 := h.1
      rw [ltCps_eq] at h1
      simpa using h1
    refine List.pairwise_cons.mpr ⟨fun y hy => ?_, ih⟩
    rcases List.mem_cons.mp hy with e | hy
    · rw [e]
      exact hx
    · exact List.le_trans hx ((List.pairwise_cons.mp ih).1 y hy)
theorem sorted_pw {l : List Str} (h : sortedS l = true) : l.Pairwise (fun a b => a.cps.toList ≤ b.cps.toList) := by
  cases l with
  | nil => exact .nil
  | cons x r => exact rising_pw r x h
theorem sorted_one {l m : List Str} (p : l.Perm m) (h1 : sortedS l = true) (h2 : sortedS m = true) : l = m := by
  refine List.Perm.eq_of_pairwise (le := fun a b => a.cps.toList ≤ b.cps.toList) (fun a b _ _ h1 h2 => ?_) (sorted_pw h1) (sorted_pw h2) p
  have e := List.le_antisymm h1 h2
  cases a
  cases b
  congr
  exact Array.toList_inj.mp e
end Wc

set_option Elab.async false
set_option linter.all false
set_option maxRecDepth 100000
set_option maxHeartbeats 4000000
/-! == of two tuples of the same parts; frames that leave tables of code objects out -/
namespace Wc
open PySem PySem.Spec PyProof.Rows L2
/-- the same value -/
def DSm : Eqv := fun x y _ => (x = y ∧ flatV x = true) ∨ ∃ a, x = .ref a ∧ y = .ref a
theorem mon_same : Mon DSm := fun _ _ _ _ _ d => d
theorem eqG_same {X : Cx} : EqG X 0 DSm := by
  intro A pins s σ H x y u v sb I rx ry d
  rcases d with ⟨rfl, f⟩ | ⟨a, rfl, rfl⟩
  · refine eqG_flat A pins s σ H x x u v sb I rx ry ⟨f, f, ?_⟩
    cases x <;> first | rfl | (cases f; done) | simp [eqV]
  · obtain rfl : u = Value.ref a := rx
    obtain rfl : v = Value.ref a := ry
    exact SeqAt.EqAt.same (A := A) (s := s) (.ref a) X.prog X.w X.xe _ ⟨rfl, H, I, fun _ _ h => h⟩
def rEqB (K : PySem.W.Frag) : R2 := fun x y H Q => rEq x y H Q ∨ rEqG (DTup K DSm) x y H Q
theorem op_eqB {X : Cx} {j : Nat} (hr : Room j X.A) (hj : 1 ≤ j := by decide) : OpR X (compareOp .Eq) (rEqB X.K) := by
  intro pins s σ H x y v u Q I rx ry h
  rcases h with h | h
  · exact op_eq pins s σ H x y v u Q I rx ry h
  · exact op_eqG (rcG_tup mon_same eqG_same) (hr.mono hj) pins s σ H x y v u Q I rx ry h
theorem eqB_int {K : PySem.W.Frag} {i j : Int} {H : Hp} {Q : VK} (h : i = j) (q : Q (.bl true) H) : rEqB K (.int i) (.int j) H Q := by
  refine .inl ⟨rfl, ?_⟩
  rw [h, decide_eq_true rfl]
  exact q
theorem eqB_tup {K : PySem.W.Frag} {a b : Addr} {t : Str} {v : V} {H : Hp} {Q : VK} (h1 : H a = some (.tup [.str t, v])) (h2 : H b = some (.tup [.str t, v])) (hv : DSm v v H) (q : ∀ H', Wc.Ext H H' → Q (.bl true) H') : rEqB K (.ref a) (.ref b) H Q :=
  .inr ⟨⟨a, b, _, _, rfl, rfl, SqT.of h1, SqT.of h2, .cons (.inl ⟨rfl, rfl⟩) (.cons hv .nil)⟩, q⟩
/-- all but A and the tables stays -/
def FrN (A : List Addr) (H H' : Hp) : Prop := ∀ a o, a ∉ A → (∀ ps, o ≠ .tbl ps) → H a = some o → H' a = some o
theorem Fr.n {A : List Addr} {H H' : Hp} (f : Fr A H H') : FrN A H H' := fun a o n _ h => f a o n h
theorem FrN.trans {A : List Addr} {H H1 H2 : Hp} (f : FrN A H H1) (g : FrN A H1 H2) : FrN A H H2 := fun a o n t h => g a o n t (f a o n t h)
theorem FrN.mono {A B : List Addr} {H H' : Hp} (f : FrN A H H') (h : ∀ a, a ∈ A → a ∈ B) : FrN B H H' := fun a o n t z => f a o (fun m => n (h a m)) t z
theorem FrN.of {H H' : Hp} (e : LamX.ExtN H H') : FrN [] H H' := fun a o _ t h => e a o h t
theorem FrN.mo {A : List Addr} {H H' : Hp} (f : FrN A H H') (n : ∀ a, a ∈ A → ∃ u, H a = some u ∧ Imm u = false) : Mo H H' := fun a o i h => f a o (fun m => by
  obtain ⟨u, hu, nu⟩ := n a m
  rw [hu] at h
  cases h
  rw [nu] at i
  cases i) (fun ps z => by rw [z] at i; cases i) h
theorem RtW.frn {CK CR : Addr} {A : List Addr} {H H' : Hp} {r kd tl : Addr} {T : List Cl} {n : Nat} (R : RtW CK CR H r kd tl T n) (f : FrN A H H') (m : Mo H H') (h1 : kd ∉ A) (h2 : tl ∉ A) : RtW CK CR H' r kd tl T n := by
  obtain ⟨⟨⟨dx, fs, a1, a2⟩, ⟨kvs, b1, b2⟩, xs, c1, c2⟩, kv0, d0⟩ := R
  refine ⟨⟨⟨dx, fs, m _ _ rfl a1, a2⟩, ⟨kvs, ?_, b2.mono fun _ _ z => z.mo m⟩, xs, f _ _ h2 (fun _ z => nomatch z) c1, c2⟩, kv0, f _ _ h1 (fun _ z => nomatch z) d0⟩
  rcases b1 with b | ⟨o, b⟩
  · exact .inl (f _ _ h1 (fun _ z => nomatch z) b)
  · exact .inr ⟨o, f _ _ h1 (fun _ z => nomatch z) b⟩
/-- tables stay where lists, dicts change -/
theorem tabs_fr {T : List (Addr × Str)} {A : List Addr} {H H' : Hp} (t : LamX.Tabs T H) (f : Fr A H H') (n : ∀ a, a ∈ A → ∃ u, H a = some u ∧ (∀ ps, u ≠ .tbl ps) ∧ ∀ φ, u ≠ .ext φ) : LamX.Tabs T H' := fun p hp => by
  obtain ⟨ps, h1, h2, h3⟩ := t p hp
  refine ⟨ps, f _ _ (fun m => ?_) h1, h2, fun pos cv hc => ?_⟩
  · obtain ⟨u, hu, nu, _⟩ := n _ m
    rw [hu] at h1
    exact nu ps (Option.some.inj h1)
  · obtain ⟨c, e1, e2⟩ := h3 pos cv hc
    refine ⟨c, e1, f _ _ (fun m => ?_) e2⟩
    obtain ⟨u, hu, _, nu⟩ := n _ m
    rw [hu] at e2
    exact nu _ (Option.some.inj e2)
end Wc

set_option Elab.async false
set_option linter.all false
set_option maxRecDepth 100000
set_option maxHeartbeats 0
namespace K01
open PySem PySem.Spec PyProof.Rows L2 Wc
def top (i : Nat) : Stmt := PySem.Challenge.pw_worldcalls_k01_classes_added.main.body.getD i (.Pass ⟨0, 0, 0, 0⟩)
abbrev s__wall : Stmt := top 0
theorem sc__wall : FnScope ["k"] ["k"] (defScope s__wall) := ⟨rfl, rfl, rfl, by decide +kernel, rfl, by decide +kernel, by decide +kernel⟩
def d__wall : He.DefD := ⟨("_wall", none), "_wall", "_wall", defArgs s__wall, defBody s__wall, defScope s__wall, [], []⟩
abbrev s_NoWorld_init : Stmt := inClass (top 3) 0
theorem sc_NoWorld_init : FnScope ["self", "world"] ["self", "world"] (defScope s_NoWorld_init) := ⟨rfl, rfl, rfl, by decide +kernel, rfl, by decide +kernel, by decide +kernel⟩
def d_NoWorld_init : He.DefD := ⟨("NoWorld", some "__init__"), "__init__", "NoWorld.__init__", defArgs s_NoWorld_init, defBody s_NoWorld_init, defScope s_NoWorld_init, [], []⟩
abbrev s_NoClass_init : Stmt := inClass (top 4) 0
theorem sc_NoClass_init : FnScope ["self", "name"] ["self", "name"] (defScope s_NoClass_init) := ⟨rfl, rfl, rfl, by decide +kernel, rfl, by decide +kernel, by decide +kernel⟩
def d_NoClass_init : He.DefD := ⟨("NoClass", some "__init__"), "__init__", "NoClass.__init__", defArgs s_NoClass_init, defBody s_NoClass_init, defScope s_NoClass_init, [], []⟩
abbrev s_Taken_init : Stmt := inClass (top 5) 0
theorem sc_Taken_init : FnScope ["self", "name"] ["self", "name"] (defScope s_Taken_init) := ⟨rfl, rfl, rfl, by decide +kernel, rfl, by decide +kernel, by decide +kernel⟩
def d_Taken_init : He.DefD := ⟨("Taken", some "__init__"), "__init__", "Taken.__init__", defArgs s_Taken_init, defBody s_Taken_init, defScope s_Taken_init, [], []⟩
abbrev s_NoField_init : Stmt := inClass (top 6) 0
theorem sc_NoField_init : FnScope ["self", "field"] ["self", "field"] (defScope s_NoField_init) := ⟨rfl, rfl, rfl, by decide +kernel, rfl, by decide +kernel, by decide +kernel⟩
def d_NoField_init : He.DefD := ⟨("NoField", some "__init__"), "__init__", "NoField.__init__", defArgs s_NoField_init, defBody s_NoField_init, defScope s_NoField_init, [], []⟩
abbrev s_is_integer : Stmt := top 9
theorem sc_is_integer : FnScope ["thing"] ["thing"] (defScope s_is_integer) := ⟨rfl, rfl, rfl, by decide +kernel, rfl, by decide +kernel, by decide +kernel⟩
def d_is_integer : He.DefD := ⟨("is_integer", none), "is_integer", "is_integer", defArgs s_is_integer, defBody s_is_integer, defScope s_is_integer, [], []⟩
abbrev s_is_between : Stmt := top 10
theorem sc_is_between : FnScope ["thing", "low", "high"] ["thing", "low", "high"] (defScope s_is_between) := ⟨rfl, rfl, rfl, by decide +kernel, rfl, by decide +kernel, by decide +kernel⟩
def d_is_between : He.DefD := ⟨("is_between", none), "is_between", "is_between", defArgs s_is_between, defBody s_is_between, defScope s_is_between, [], []⟩
abbrev s_is_name : Stmt := top 11
theorem sc_is_name : FnScope ["thing", "letter"] ["thing"] (defScope s_is_name) := ⟨rfl, rfl, rfl, by decide +kernel, rfl, by decide +kernel, by decide +kernel⟩
def d_is_name : He.DefD := ⟨("is_name", none), "is_name", "is_name", defArgs s_is_name, defBody s_is_name, defScope s_is_name, [], []⟩
abbrev s_Kind_init : Stmt := inClass (top 13) 0
theorem sc_Kind_init : FnScope ["self", "parent", "fields", "since"] ["self", "parent", "fields", "since"] (defScope s_Kind_init) := ⟨rfl, rfl, rfl, by decide +kernel, rfl, by decide +kernel, by decide +kernel⟩
def d_Kind_init : He.DefD := ⟨("Kind", some "__init__"), "__init__", "Kind.__init__", defArgs s_Kind_init, defBody s_Kind_init, defScope s_Kind_init, [], []⟩
abbrev s_Runtime_init : Stmt := inClass (top 14) 0
theorem sc_Runtime_init : FnScope ["self"] ["self"] (defScope s_Runtime_init) := ⟨rfl, rfl, rfl, by decide +kernel, rfl, by decide +kernel, by decide +kernel⟩
def d_Runtime_init : He.DefD := ⟨("Runtime", some "__init__"), "__init__", "Runtime.__init__", defArgs s_Runtime_init, defBody s_Runtime_init, defScope s_Runtime_init, [], []⟩
abbrev s_Runtime_newest : Stmt := inClass (top 14) 1
theorem sc_Runtime_newest : FnScope ["self"] ["self"] (defScope s_Runtime_newest) := ⟨rfl, rfl, rfl, by decide +kernel, rfl, by decide +kernel, by decide +kernel⟩
def d_Runtime_newest : He.DefD := ⟨("Runtime", some "newest"), "newest", "Runtime.newest", defArgs s_Runtime_newest, defBody s_Runtime_newest, defScope s_Runtime_newest, [], []⟩
abbrev s_Runtime_table : Stmt := inClass (top 14) 2
theorem sc_Runtime_table : FnScope ["self", "world"] ["self", "world"] (defScope s_Runtime_table) := ⟨rfl, rfl, rfl, by decide +kernel, rfl, by decide +kernel, by decide +kernel⟩
def d_Runtime_table : He.DefD := ⟨("Runtime", some "table"), "table", "Runtime.table", defArgs s_Runtime_table, defBody s_Runtime_table, defScope s_Runtime_table, [], []⟩
abbrev s_Runtime_add_world : Stmt := inClass (top 14) 3
theorem sc_Runtime_add_world : FnScope ["self", "table"] ["self", "table"] (defScope s_Runtime_add_world) := ⟨rfl, rfl, rfl, by decide +kernel, rfl, by decide +kernel, by decide +kernel⟩
def d_Runtime_add_world : He.DefD := ⟨("Runtime", some "add_world"), "add_world", "Runtime.add_world", defArgs s_Runtime_add_world, defBody s_Runtime_add_world, defScope s_Runtime_add_world, [], []⟩
abbrev s_Runtime_copied : Stmt := inClass (top 14) 4
theorem sc_Runtime_copied : FnScope ["self"] ["self"] (defScope s_Runtime_copied) := ⟨rfl, rfl, rfl, by decide +kernel, rfl, by decide +kernel, by decide +kernel⟩
def d_Runtime_copied : He.DefD := ⟨("Runtime", some "copied"), "copied", "Runtime.copied", defArgs s_Runtime_copied, defBody s_Runtime_copied, defScope s_Runtime_copied, [], []⟩
abbrev s_now : Stmt := top 15
theorem sc_now : FnScope ["runtime"] ["runtime"] (defScope s_now) := ⟨rfl, rfl, rfl, by decide +kernel, rfl, by decide +kernel, by decide +kernel⟩
def d_now : He.DefD := ⟨("now", none), "now", "now", defArgs s_now, defBody s_now, defScope s_now, [], []⟩
abbrev s_world_of : Stmt := top 16
theorem sc_world_of : FnScope ["runtime", "world"] ["runtime", "world"] (defScope s_world_of) := ⟨rfl, rfl, rfl, by decide +kernel, rfl, by decide +kernel, by decide +kernel⟩
def d_world_of : He.DefD := ⟨("world_of", none), "world_of", "world_of", defArgs s_world_of, defBody s_world_of, defScope s_world_of, [], []⟩
abbrev s_is_class : Stmt := top 19
theorem sc_is_class : FnScope ["runtime", "name"] ["runtime", "name"] (defScope s_is_class) := ⟨rfl, rfl, rfl, by decide +kernel, rfl, by decide +kernel, by decide +kernel⟩
def d_is_class : He.DefD := ⟨("is_class", none), "is_class", "is_class", defArgs s_is_class, defBody s_is_class, defScope s_is_class, [], []⟩
abbrev s_check_class : Stmt := top 20
theorem sc_check_class : FnScope ["runtime", "name"] ["runtime", "name"] (defScope s_check_class) := ⟨rfl, rfl, rfl, by decide +kernel, rfl, by decide +kernel, by decide +kernel⟩
def d_check_class : He.DefD := ⟨("check_class", none), "check_class", "check_class", defArgs s_check_class, defBody s_check_class, defScope s_check_class, [], []⟩
abbrev s_line_of : Stmt := top 21
theorem sc_line_of : FnScope ["runtime", "name", "found"] ["runtime", "name"] (defScope s_line_of) := ⟨rfl, rfl, rfl, by decide +kernel, rfl, by decide +kernel, by decide +kernel⟩
def d_line_of : He.DefD := ⟨("line_of", none), "line_of", "line_of", defArgs s_line_of, defBody s_line_of, defScope s_line_of, [], []⟩
abbrev s_known : Stmt := top 22
theorem sc_known : FnScope ["runtime", "world", "name", "kind"] ["runtime", "world"] (defScope s_known) := ⟨rfl, rfl, rfl, by decide +kernel, rfl, by decide +kernel, by decide +kernel⟩
def d_known : He.DefD := ⟨("known", none), "known", "known", defArgs s_known, defBody s_known, defScope s_known, [], []⟩
abbrev s_below : Stmt := top 23
theorem sc_below : FnScope ["runtime", "one", "other"] ["runtime", "one", "other"] (defScope s_below) := ⟨rfl, rfl, rfl, by decide +kernel, rfl, by decide +kernel, by decide +kernel⟩
def d_below : He.DefD := ⟨("below", none), "below", "below", defArgs s_below, defBody s_below, defScope s_below, [], []⟩
abbrev s_own_fields : Stmt := top 24
theorem sc_own_fields : FnScope ["runtime", "parent", "fields", "names", "item", "name", "bound"] ["runtime", "parent", "fields"] (defScope s_own_fields) := ⟨rfl, rfl, rfl, by decide +kernel, rfl, by decide +kernel, by decide +kernel⟩
def d_own_fields : He.DefD := ⟨("own_fields", none), "own_fields", "own_fields", defArgs s_own_fields, defBody s_own_fields, defScope s_own_fields, [], []⟩
abbrev s_add_class : Stmt := top 25
theorem sc_add_class : FnScope ["runtime", "name", "parent", "fields", "every", "world"] ["runtime", "name", "parent", "fields"] (defScope s_add_class) := ⟨rfl, rfl, rfl, by decide +kernel, rfl, by decide +kernel, by decide +kernel⟩
def d_add_class : He.DefD := ⟨("add_class", none), "add_class", "add_class", defArgs s_add_class, defBody s_add_class, defScope s_add_class, [], []⟩
abbrev s_classes : Stmt := top 26
theorem sc_classes : FnScope ["runtime", "world"] ["runtime", "world"] (defScope s_classes) := ⟨rfl, rfl, rfl, by decide +kernel, rfl, by decide +kernel, by decide +kernel⟩
def d_classes : He.DefD := ⟨("classes", none), "classes", "classes", defArgs s_classes, defBody s_classes, defScope s_classes, [], [("world", .non)]⟩
abbrev s_parent : Stmt := top 27
theorem sc_parent : FnScope ["runtime", "name"] ["runtime", "name"] (defScope s_parent) := ⟨rfl, rfl, rfl, by decide +kernel, rfl, by decide +kernel, by decide +kernel⟩
def d_parent : He.DefD := ⟨("parent", none), "parent", "parent", defArgs s_parent, defBody s_parent, defScope s_parent, [], []⟩
abbrev s_fields : Stmt := top 28
theorem sc_fields : FnScope ["runtime", "name"] ["runtime", "name"] (defScope s_fields) := ⟨rfl, rfl, rfl, by decide +kernel, rfl, by decide +kernel, by decide +kernel⟩
def d_fields : He.DefD := ⟨("fields", none), "fields", "fields", defArgs s_fields, defBody s_fields, defScope s_fields, [], []⟩
abbrev s_is_below : Stmt := top 29
theorem sc_is_below : FnScope ["runtime", "one", "other"] ["runtime", "one", "other"] (defScope s_is_below) := ⟨rfl, rfl, rfl, by decide +kernel, rfl, by decide +kernel, by decide +kernel⟩
def d_is_below : He.DefD := ⟨("is_below", none), "is_below", "is_below", defArgs s_is_below, defBody s_is_below, defScope s_is_below, [], []⟩
abbrev s_l_cell_at : Stmt := top 31
theorem sc_l_cell_at : FnScope ["_law_script", "_law_k"] ["_law_script", "_law_k"] (defScope s_l_cell_at) := ⟨rfl, rfl, rfl, by decide +kernel, rfl, by decide +kernel, by decide +kernel⟩
def d_l_cell_at : He.DefD := ⟨("_law_cell_at", none), "_law_cell_at", "_law_cell_at", defArgs s_l_cell_at, defBody s_l_cell_at, defScope s_l_cell_at, [], []⟩
abbrev s_l_well : Stmt := top 32
theorem sc_l_well : FnScope ["_law_cell"] ["_law_cell"] (defScope s_l_well) := ⟨rfl, rfl, rfl, by decide +kernel, rfl, by decide +kernel, by decide +kernel⟩
def d_l_well : He.DefD := ⟨("_law_well", none), "_law_well", "_law_well", defArgs s_l_well, defBody s_l_well, defScope s_l_well, [], []⟩
abbrev s_l_draw : Stmt := top 33
theorem sc_l_draw : FnScope ["_law_well_here", "_law_many", "_law_digit", "_law_prime", "_law_number"] ["_law_well_here", "_law_many"] (defScope s_l_draw) := ⟨rfl, rfl, rfl, by decide +kernel, rfl, by decide +kernel, by decide +kernel⟩
def d_l_draw : He.DefD := ⟨("_law_draw", none), "_law_draw", "_law_draw", defArgs s_l_draw, defBody s_l_draw, defScope s_l_draw, [], []⟩
abbrev s_l_one : Stmt := top 34
theorem sc_l_one : FnScope ["_law_well_here", "_law_some"] ["_law_well_here", "_law_some"] (defScope s_l_one) := ⟨rfl, rfl, rfl, by decide +kernel, rfl, by decide +kernel, by decide +kernel⟩
def d_l_one : He.DefD := ⟨("_law_one", none), "_law_one", "_law_one", defArgs s_l_one, defBody s_l_one, defScope s_l_one, [], []⟩
abbrev s_l_said : Stmt := top 35
theorem sc_l_said : FnScope ["_law_ask", "e"] ["_law_ask"] (defScope s_l_said) := ⟨rfl, rfl, rfl, by decide +kernel, rfl, by decide +kernel, by decide +kernel⟩
def d_l_said : He.DefD := ⟨("_law_said", none), "_law_said", "_law_said", defArgs s_l_said, defBody s_l_said, defScope s_l_said, [], []⟩
abbrev s_l_line : Stmt := top 36
theorem sc_l_line : FnScope ["_law_tree", "_law_name", "_law_found"] ["_law_tree", "_law_name"] (defScope s_l_line) := ⟨rfl, rfl, rfl, by decide +kernel, rfl, by decide +kernel, by decide +kernel⟩
def d_l_line : He.DefD := ⟨("_law_line", none), "_law_line", "_law_line", defArgs s_l_line, defBody s_l_line, defScope s_l_line, [], []⟩
abbrev s_l_all_fields : Stmt := top 37
theorem sc_l_all_fields : FnScope ["_law_tree", "_law_name", "_law_found", "_law_one_here"] ["_law_tree", "_law_name"] (defScope s_l_all_fields) := ⟨rfl, rfl, rfl, by decide +kernel, rfl, by decide +kernel, by decide +kernel⟩
def d_l_all_fields : He.DefD := ⟨("_law_all_fields", none), "_law_all_fields", "_law_all_fields", defArgs s_l_all_fields, defBody s_l_all_fields, defScope s_l_all_fields, [], []⟩
abbrev s_l_fields : Stmt := top 38
theorem sc_l_fields : FnScope ["_law_well_here", "_law_tree", "_law_above", "_law_name", "_law_names", "_law_some", "_law_due", "_law_k", "_law_word", "_law_limit", "_law_item", "_law_odd", "_law_is_valid_item", "_law_handed", "_law_way"] ["_law_well_here", "_law_tree", "_law_above", "_law_name"] (defScope s_l_fields) := ⟨rfl, rfl, rfl, by decide +kernel, rfl, by decide +kernel, by decide +kernel⟩
def d_l_fields : He.DefD := ⟨("_law_fields", none), "_law_fields", "_law_fields", defArgs s_l_fields, defBody s_l_fields, defScope s_l_fields, [], []⟩
abbrev s_l_step : Stmt := top 39
theorem sc_l_step : FnScope ["_law_well_here", "_law_runtime", "_law_tree", "_law_moment", "_law_name", "_law_above", "_law_handed", "_law_due", "_law_told"] ["_law_well_here", "_law_runtime", "_law_tree", "_law_moment"] (defScope s_l_step) := ⟨rfl, rfl, rfl, by decide +kernel, rfl, by decide +kernel, by decide +kernel⟩
def d_l_step : He.DefD := ⟨("_law_step", none), "_law_step", "_law_step", defArgs s_l_step, defBody s_l_step, defScope s_l_step, [], []⟩
abbrev s_l_right : Stmt := top 40
theorem sc_l_right : FnScope ["_law_runtime", "_law_tree", "_law_name", "_law_other"] ["_law_runtime", "_law_tree"] (defScope s_l_right) := ⟨rfl, rfl, rfl, by decide +kernel, rfl, by decide +kernel, by decide +kernel⟩
def d_l_right : He.DefD := ⟨("_law_right", none), "_law_right", "_law_right", defArgs s_l_right, defBody s_l_right, defScope s_l_right, [], []⟩
abbrev s_law : Stmt := top 41
theorem sc_law : FnScope ["_law_script", "_law_cell", "_law_well_here", "_law_runtime", "_law_tree", "_law_moment", "_law_k"] ["_law_script"] (defScope s_law) := ⟨rfl, rfl, rfl, by decide +kernel, rfl, by decide +kernel, by decide +kernel⟩
def d_law : He.DefD := ⟨("law", none), "law", "law", defArgs s_law, defBody s_law, defScope s_law, [], []⟩
def fn : List He.DefD := [d__wall, d_NoWorld_init, d_NoClass_init, d_Taken_init, d_NoField_init, d_is_integer, d_is_between, d_is_name, d_Kind_init, d_Runtime_init, d_Runtime_newest, d_Runtime_table, d_Runtime_add_world, d_Runtime_copied, d_now, d_world_of, d_is_class, d_check_class, d_line_of, d_known, d_below, d_own_fields, d_add_class, d_classes, d_parent, d_fields, d_is_below, d_l_cell_at, d_l_well, d_l_draw, d_l_one, d_l_said, d_l_line, d_l_all_fields, d_l_fields, d_l_step, d_l_right, d_law]
-- globals: _wall WorldError NoWorld NoClass Taken NoField is_integer is_between is_name Kind Runtime now world_of is_class check_class line_of known below own_fields add_class classes parent fields is_below _law_cell_at _law_well _law_draw _law_one _law_said _law_line _law_all_fields _law_fields _law_step _law_right law
-- law at 41, row worldcalls_k01_classes_added

def own : List (Str × Str) := [("NoWorld", "world"), ("NoClass", "name"), ("Taken", "name"), ("NoField", "field")]
def plain : List Str := []
def kinds : List Str := own.map (·.1) ++ plain
def kindsB (K : PySem.W.Frag) (l : List Str) : Bool := l.all fun x => l.all fun y => decide (PySem.W.exmOne K (.ref (He.ga K x)) (.ref (He.ga K y)) = some (decide (x = y)))
def upB (K : PySem.W.Frag) (l : List Str) : Bool := l.all fun x => decide (PySem.W.subIn K (.ref (He.ga K x)) (.type "BaseException") = some true) && (exIsB K (He.ga K x) && (exRdB K (He.ga K x) && decide (PySem.W.exmOne K (.ref (He.ga K x)) (.ref (He.ga K "WorldError")) = some true)))
def ownB (K : PySem.W.Frag) : Bool := own.all fun p => exB K (He.ga K p.1) && (exInB K (He.ga K p.1) (He.ma K (He.ga K p.1) "__init__") && decide (PySem.W.findIn K (.ref (He.ga K p.1)) p.2 = some none))
def ex (K : PySem.W.Frag) : Bool := baseB K (He.ga K "WorldError") && (kindsB K kinds && (upB K kinds && ownB K))
def gloL : List Str := (["_wall", "WorldError", "NoWorld", "NoClass", "Taken", "NoField", "is_integer", "is_between", "is_name", "Kind", "Runtime", "now", "world_of", "is_class", "check_class", "line_of", "known", "below", "own_fields", "add_class", "classes", "parent", "fields", "is_below", "_law_cell_at", "_law_well", "_law_draw", "_law_one", "_law_said", "_law_line"] : List Str) ++ ((["_law_all_fields", "_law_fields", "_law_step", "_law_right", "law"] : List Str))
def freeL : List Str := ["ValueError", "all", "bool", "int", "isinstance", "len", "list", "range", "sorted", "str", "tuple"]
def intL : List (Str × Int) := [("MOST_FIELDS", 3)]
def strL : List (Str × Str) := [("LETTERS", "abcdefghijklmnopqrstuvwxyz")]
def clsL : List Str := ["Kind", "Runtime"]
def noatL : List (Str × Str) := [("Kind", "fields"), ("Kind", "parent"), ("Kind", "since"), ("Runtime", "entries"), ("Runtime", "kinds"), ("Runtime", "made"), ("Runtime", "shapes"), ("Runtime", "solutions"), ("Runtime", "tables"), ("Runtime", "tasks")]
def methL : List (Str × Str) := [("Runtime", "newest"), ("Runtime", "table"), ("Runtime", "add_world"), ("Runtime", "copied")]
def fa : List He.Fa := gloL.map He.Fa.glo ++ (freeL.map He.Fa.free ++ (plain.map He.Fa.exc ++ (intL.map (fun p => He.Fa.int p.1 p.2) ++ (strL.map (fun p => He.Fa.str p.1 p.2) ++ (clsL.map He.Fa.cls ++ (clsL.map He.Fa.mkr ++ (noatL.map (fun p => He.Fa.noat p.1 p.2) ++ methL.map (fun p => He.Fa.meth p.1 p.2))))))))
def tf : List He.Defn := [("_law_step", none)]
def loose : List Str := (["_wall", "WorldError", "NoWorld", "NoClass", "Taken", "NoField", "is_integer", "is_between", "is_name", "Kind", "Runtime", "now", "world_of", "is_class", "check_class", "line_of", "known", "below", "own_fields", "add_class", "classes", "parent", "fields", "is_below", "_law_cell_at", "_law_well", "_law_draw", "_law_one", "_law_said", "_law_line"] : List Str) ++ ((["_law_all_fields", "_law_fields", "_law_step", "_law_right", "MOST_FIELDS", "LETTERS"] : List Str))
abbrev R : PySem.W.OpenRow := PySem.W.OpenLaw.row PySem.Challenge.rw_worldcalls_k01_classes_added
abbrev hk : PySem.W.Hook := hookY 5 fa fn tf ex
def ob (s : PySem.W.SharedT) : AlC := obsY 5 fa fn tf ex (HandSHeadRun.getT s)
theorem ob_eq (s : PySem.W.SharedT) : ob s = hk.obs s.abs := obsY_eq (HandSHeadRun.getT_eq s)
theorem run (w : World) : HandSHeadRun.RunEq R (PySem.W.view R.prog [41]) hk ob 20000 loose w := by
  intro os
  kernel_rfl
end K01

set_option Elab.async false
set_option linter.all false
set_option maxRecDepth 100000
set_option maxHeartbeats 4000000
namespace K01
open PySem L2 Wc
local macro_rules | `(tactic| walk_at "lk") => `(tactic| first | with_reducible exact Look.here | (with_reducible apply Look.there; walk_at "lk"))
local macro_rules | `(tactic| walk_at "ul") => `(tactic| first | with_reducible exact UpL.here | (with_reducible apply UpL.there; walk_at "ul"))
local macro_rules | `(tactic| walk_at "ga") => `(tactic| first | exact GetAt.here | (apply GetAt.there; walk_at "ga"))
local macro_rules | `(tactic| walk_at "sa") => `(tactic| first | exact SetAt.here | (apply SetAt.there; walk_at "sa"))
local macro_rules | `(tactic| walk_at "hp") => `(tactic| first | assumption | (refine' KH.find ?k ?h; (case k => assumption); (case h => walk_at "lk")))
local macro_rules | `(tactic| walk_at "sql") => `(tactic| first | assumption | (refine' SqL.of ?h; (case h => walk_at "hp")) | (refine' Fr.sql (KH.fr ?k) ?n ?h; (case k => assumption); (case h => assumption); (case n => (simp; done))))
local macro_rules | `(tactic| walk_at "sqt") => `(tactic| first | assumption | (refine' SqT.of ?h; (case h => walk_at "hp")))
local macro_rules | `(tactic| walk_at "side") => `(tactic| first | exact (show (0 : Int) < _ by decide) | exact (show (0 : Int) < _ by omega) | exact ⟨by decide, by decide, by decide⟩ | exact ⟨by decide, by decide, by omega⟩ | exact ⟨by decide, by decide⟩ | exact ⟨by omega, by omega⟩ | exact Or.inl ⟨by omega, by omega⟩ | exact Or.inr ⟨by omega, by omega⟩)
local macro_rules | `(tactic| walk_at "siz") => `(tactic| first | (refine sz_of ?_; first | decide | omega | (simp; done) | (simp; omega)) | (refine sz_lt ?_; first | decide | omega | (simp; done) | (simp; omega)))
local macro_rules | `(tactic| walk_at "own") => `(tactic| first | (exact Or.inr (by assumption)) | (refine Or.inl ?_; simp; done))
local macro_rules | `(tactic| walk_at "al") => `(tactic| (refine' AllocO.mk ?k ?_; (case k => assumption); intro _ _ _ _))
local macro_rules | `(tactic| walk_at "up") => `(tactic| (refine' UpdO.mk ?k ?h ?m ?_; (case k => assumption); (case h => walk_at "ul"); (case m => walk_at "own"); intro _ _))
local macro_rules | `(tactic| walk_at "st") => `(tactic| first
  | ((with_reducible refine' r_var ?h ?_); (case h => walk_at "ga"))
  | (with_reducible refine' r_seq ?_) | (with_reducible refine' r_next ?_) | (with_reducible refine' r_asg ?_) | (with_reducible refine' r_drop ?_) | (with_reducible refine' r_ret ?_) | (with_reducible refine' r_retN ?_)
  | (with_reducible refine' r_ifs ?_) | (with_reducible refine' r_cont ?_) | (with_reducible refine' r_break ?_) | (with_reducible refine' r_c ?_) | (with_reducible refine' r_op ?_) | (with_reducible refine' r_un ?_)
  | (with_reducible refine' r_test ?_) | (with_reducible refine' r_tB ?_) | (with_reducible refine' r_not ?_) | (with_reducible refine' r_and ?_) | (with_reducible refine' r_or ?_) | (with_reducible refine' r_notV ?_)
  | (with_reducible refine' r_andV ?_) | (with_reducible refine' r_orV ?_) | (with_reducible refine' r_ifE ?_) | (with_reducible refine' r_bl ?_) | (with_reducible refine' r_nil ?_) | (with_reducible refine' r_cons ?_)
  | (with_reducible refine' r_tup ?_) | (with_reducible refine' r_lst ?_) | (with_reducible refine' r_cb ?_) | (with_reducible refine' r_call ?_) | ((with_reducible refine' r_name ?h ?_); (case h => walk_at "sa")) | (with_reducible refine' r_gnil ?_)
  | (with_reducible refine' r_gcons ?_) | (with_reducible refine' r_gsub ?_) | (with_reducible refine' r_par ?_) | (with_reducible refine' r_par2 ?_) | (with_reducible refine' r_I0 ?_) | (with_reducible refine' r_U ?_)
  | ((with_reducible refine' r_eq ?h ?_); (case h => rfl)) | ((with_reducible refine' r_ne ?h ?_); (case h => rfl))
  | ((with_reducible refine' r_ixL ?h ?a ?_); (case h => walk_at "sql"); (case a => rfl))
  | ((with_reducible refine' r_ixT ?h ?a ?_); (case h => walk_at "sqt"); (case a => rfl))
  | ((with_reducible refine' r_setL ?h ?a ?_); (case h => walk_at "hp"); (case a => rfl))
  | ((with_reducible refine' r_I ?c ?_); (case c => walk_at "side"))
  | (with_reducible refine' r_sl ?_) | (with_reducible refine' r_part ?_) | (with_reducible refine' r_nopart ?_) | (with_reducible refine' r_ii ?_)
  | ((with_reducible refine' r_slL ?h ?_); (case h => walk_at "sql"))
  | (with_reducible refine' r_bm ?_) | (with_reducible refine' r_bm0 ?_) | (with_reducible refine' r_int1 ?_) | (with_reducible refine' r_int1b ?_)
  | ((with_reducible refine' r_aug ?h ?_); (case h => walk_at "ga"))
  | ((with_reducible refine' r_cat ?a ?b ?z ?_); (case a => walk_at "hp"); (case b => walk_at "hp"); (case z => walk_at "siz"))
  | ((with_reducible refine' r_append ?a ?z ?_); (case a => walk_at "hp"); (case z => walk_at "siz"))
  | ((with_reducible refine' And.intro ?z ?_); (case z => first | walk_at "siz" | exact Or.inl ⟨rfl, _, by walk_at "sql"⟩))
  | ((with_reducible refine' r_gtup ?h ?l ?_); (case h => walk_at "sqt"); (case l => rfl))
  | (with_reducible refine' r_forL ?_) | (with_reducible refine' r_forE ?_) | (with_reducible refine' r_forR ?_) | ((with_reducible refine' r_forL2 ?h ?_); (case h => walk_at "sql")) | ((with_reducible refine' r_forE2 ?h ?_); (case h => walk_at "sql"))
  | (with_reducible refine' r_lcR ?_) | ((with_reducible refine' r_iteT ?h ?_); (case h => rfl)) | ((with_reducible refine' r_iteF ?h ?_); (case h => rfl))
  | (with_reducible refine' r_dnew ?_) | (with_reducible refine' r_vei ?_) | (with_reducible refine' r_ost ?_) | (with_reducible refine' r_mkV ?_) | (with_reducible refine' r_mkX ?_) | (with_reducible refine' r_xfld ?_)
  | ((with_reducible refine' MkG.mk ?o ?n ?k ?_); (case o => exact ErrOk.o (by assumption)); (case n => exact ErrOk.no (by assumption)); (case k => assumption); intro _ _ _ _)
  | ((with_reducible refine' AllocX.mk ?k ?_); (case k => assumption); intro _ _ _ _)
  | (with_reducible refine' r_chain ?_) | (with_reducible refine' r_lcS ?_) | (with_reducible refine' r_lcS2 ?_) | (with_reducible refine' r_lcL ?_) | (with_reducible refine' r_lcT ?_) | (with_reducible refine' r_lcI ?_) | (with_reducible refine' r_yes ?_)
  | (with_reducible refine' r_fld ?_) | (with_reducible refine' r_sfld ?_) | (with_reducible refine' r_meth ?_) | (with_reducible refine' r_make ?_) | (with_reducible refine' r_dget ?_) | (with_reducible refine' r_din ?_) | (with_reducible refine' r_dput ?_)
  | ((with_reducible refine' r_disp ?k ?_); (case k => assumption); intro _ _ _ _) | (with_reducible refine' r_pnil ?_) | (with_reducible refine' r_pcons ?_)
  | (walk_at "al") | (walk_at "up"))
local macro_rules | `(tactic| walk_at "go") => `(tactic| repeat walk_at "st")

structure Bt (mg : Str → Option Value) : Prop where
  f_len : mg "len" = none
  f_int : mg "int" = none
  f_isinstance : mg "isinstance" = none
  f_str : mg "str" = none
  f_bool : mg "bool" = none
  f_list : mg "list" = none
  f_tuple : mg "tuple" = none
  f_all : mg "all" = none
  f_sorted : mg "sorted" = none
  f_range : mg "range" = none
  LETTERS : ∃ t, mg "LETTERS" = some (.str LET t)
  MOST : ∃ t, mg "MOST_FIELDS" = some (.int 3 t)
/-- the program's two plain classes -/
structure Cs (K : PySem.W.Frag) (CK CR : Addr) : Prop where
  k : Cls K CK
  r : Cls K CR
  k_parent : NoAttr K CK "parent"
  k_fields : NoAttr K CK "fields"
  k_since : NoAttr K CK "since"
  r_kinds : NoAttr K CR "kinds"
  r_tables : NoAttr K CR "tables"
section
variable {P : Program} {w : World} {K : PySem.W.Frag} {mg : Str → Option Value} {base : Heap} {f : Addr} {fd : FuncData} {CK CR NC : Addr}
abbrev FnP (K : PySem.W.Frag) (x : Str) (st : Stmt) (f : Addr) (fd : FuncData) : Prop := FunD K x x (defArgs st) (defBody st) (defScope st) [] [] f fd
abbrev MeP (K : PySem.W.Frag) (x q : Str) (st : Stmt) (f : Addr) (fd : FuncData) : Prop := FunD K x q (defArgs st) (defBody st) (defScope st) [] [] f fd
def spIsName (K : PySem.W.Frag) : Sp := fun vs H Q _ => ∃ x tp, vs = [x] ∧ Th K H x tp ∧ ∀ H', Wc.Ext H H' → Q (.bl (nameV x)) H'
abbrev NN_is_name : List Str := ["thing", "letter"]
theorem ok_is_name (F : FnP K "is_name" s_is_name f fd) (T : Bt mg) : FnOk P w K mg base CX0 1 f fd ["thing"] (spIsName K) := by
  obtain ⟨tL, hL⟩ := T.LETTERS
  refine F.ok sc_is_name (fun vs H Q E h => ?_) (fun cdv A outer s H vs Q E hr h => ?_)
  · obtain ⟨x, tp, rfl, _⟩ := h
    rfl
  · refine ⟨_, PSs.nox (pss_one (ps_ret (pe_and (pe_callB call_isi (by rfl) T.f_isinstance PyProof.Rows.boot_isinstance (pa_cons (pv 0) (pa_cons (pe_bltn (v := .ty "str") (by rfl) T.f_str PyProof.Rows.boot_str rfl) pa_nil))) (pe_and (pe_chain op_le op_le pe_int (pe_callB call_len_str (by rfl) T.f_len PySem.boot_len (pa_cons (pv 0) pa_nil)) pe_int) (pe_one (pe_callB (cr_all rfl) (by rfl) T.f_all PyProof.Rows.boot_all (pa_cons (pe_lc (own := [("letter", 1)]) rfl sc_is_name.nd (pi_str (pv 0)) (blkOk_by (N := NN_is_name) (sc := defScope s_is_name) (by decide +kernel)) (fun _ _ _ _ _ => (pg_name (i := 1) sc_is_name.nd rfl (by first | exact Or.inl rfl | exact Or.inr rfl))) (fun _ _ _ _ _ => pts_nil) (fun _ _ _ _ _ => (pe_cmpR op_in_str (pv 1) (pe_glob (v := .str LET) (by rfl) hL ⟨_, rfl⟩) (by rfl)))) pa_nil))))))), ?_⟩
    obtain ⟨x, tp, rfl, th, k⟩ := h
    rw [show L2.start ["thing", "letter"] [x] = ([some (x), none] : List (Option V)) from rfl]
    have kh := KH.start (H := H)
    walk_at "go"
    obtain ⟨ty, h1, h2, h3⟩ := th.ty
    refine r_isi (.ty _) h1 h2 ?_
    walk_at "go"
    cases hs : Wc.isS x with
    | false =>
      walk_at "go"
      have e := nameV_of hs
      rw [e] at k
      exact k _ (Wc.Ext.refl _)
    | true =>
      obtain ⟨z, rfl, hz⟩ := th.isS hs
      walk_at "go"
      refine ⟨z, rfl, sz_of (by omega), ?_⟩
      walk_at "go"
      cases h1 : decide ((1 : Int) ≤ (z.length : Int)) with
      | false =>
        walk_at "go"
        have e : nameV (.str z) = false := by show nameS z = false; unfold nameS; rw [h1]; rfl
        rw [e] at k
        exact k _ (Wc.Ext.refl _)
      | true =>
        walk_at "go"
        cases h2 : decide ((z.length : Int) ≤ 8) with
        | false =>
          walk_at "go"
          have e : nameV (.str z) = false := by show nameS z = false; unfold nameS; rw [h1, h2]; rfl
          rw [e] at k
          exact k _ (Wc.Ext.refl _)
        | true =>
          walk_at "go"
          refine lcJ walk_str (fun i => z.cps[i]?.map fun c => V.bl (letB ⟨#[c]⟩)) (show z.length ≤ 100000 by omega) (fun _ _ => trivial) ?_ ?_
          · rintro i x H1 H2 R N hi e1 ⟨rfl, c, hc, rfl⟩ hR hN
            walk_at "go"
            refine ⟨rfl, ?_⟩
            walk_at "go"
            refine ⟨_, _, rfl, rfl, ?_⟩
            refine hR _ _ ?_ (Wc.Ext.refl _)
            rw [hc] <;> rfl
          · intro p H' hp e1 hl
            walk_at "go"
            rw [strs_fm z] at hl
            refine ⟨p, z.cps.toList.map fun c => letB ⟨#[c]⟩, rfl, SqL.of (by rw [hl, List.map_map]; rfl), ?_⟩
            have e : nameV (.str z) = (z.cps.toList.map fun c => letB ⟨#[c]⟩).all id := by show nameS z = _; unfold nameS; rw [h1, h2]; rfl
            rw [e] at k
            exact k _ e1
def spIsClass (K : PySem.W.Frag) (CK CR : Addr) : Sp := fun vs H Q _ => ∃ r kd tl T n x tp, vs = [.ref r, x] ∧ RtAt CK CR H r kd tl T n ∧ Th K H x tp ∧ ∀ H', Wc.Ext H H' → Q (.bl (clsV T x)) H'
theorem ok_is_class (F : FnP K "is_class" s_is_class f fd) (T : Bt mg) (C : Cs K CK CR) (D_is_name : DfOk P w K mg base CX0 1 "is_name" ["thing"] (spIsName K)) : FnOk P w K mg base CX0 2 f fd ["runtime", "name"] (spIsClass K CK CR) := by
  refine F.ok sc_is_class (fun vs H Q E h => ?_) (fun cdv A outer s H vs Q E hr h => ?_)
  · obtain ⟨r, kd, tl, T, n, x, tp, rfl, _⟩ := h
    rfl
  · refine ⟨_, PSs.nox (pss_one (ps_ret (pe_and (pe_callD D_is_name hr (pa_cons (pv 1) pa_nil)) (pe_one (pe_cmp (pc_din (un1 hr) (pv 1) (pe_fld (pv 0) rfl))))))), ?_⟩
    obtain ⟨r, kd, tl, T, n, x, tp, rfl, R, th, k⟩ := h
    rw [show L2.start ["runtime", "name"] [V.ref r, x] = ([some (V.ref r), some (x)] : List (Option V)) from rfl]
    have kh := KH.start (H := H)
    walk_at "go"
    refine ⟨x, tp, rfl, th, fun H1 e1 => ?_⟩
    walk_at "go"
    cases hn : nameV x with
    | false =>
      walk_at "go"
      rw [clsV_of hn] at k
      exact k _ e1
    | true =>
      obtain ⟨z, rfl, hz⟩ := th.isS (by cases x <;> first | rfl | cases hn)
      obtain ⟨⟨dx, fs, h1, _⟩, ⟨kvs, h2, bn⟩, _⟩ := R
      walk_at "go"
      refine FldAt.mk (e1 _ _ h1) C.r C.r_kinds rfl ?_
      refine din_mk (rd_ext h2 e1) ?_
      rw [bn.isSome]
      have e : clsV T (.str z) = (findC T z).isSome := by
        show (nameS z && _) = _
        have hn : nameS z = true := hn
        rw [hn] <;> rfl
      rw [e] at k
      exact k _ e1
/-- x is a class, or NoClass(x) -/
def spCheck (K : PySem.W.Frag) (CK CR NC : Addr) : Sp := fun vs H Q E => ∃ r kd tl T n x tp, vs = [.ref r, x] ∧ RtAt CK CR H r kd tl T n ∧ Th K H x tp ∧ (clsV T x = true → ∀ H', Wc.Ext H H' → Q .non H') ∧
  (clsV T x = false → ∀ d H', Wc.Ext H H' → H d = none → H' d = some (.xd [("name", x)]) → E (.ref NC) (some d) H')
theorem ok_check_class (F : FnP K "check_class" s_check_class f fd) (T : Bt mg) (C : Cs K CK CR) (E_NoClass : ErrOk P w K mg base "NoClass" NC "name") (D_is_class : DfOk P w K mg base CX0 2 "is_class" ["runtime", "name"] (spIsClass K CK CR)) :
    FnOk P w K mg base (L2.CX P w) 3 f fd ["runtime", "name"] (spCheck K CK CR NC) := by
  refine F.ok sc_check_class (fun vs H Q E h => ?_) (fun cdv A outer s H vs Q E hr h => ?_)
  · obtain ⟨r, kd, tl, T, n, x, tp, rfl, _⟩ := h
    rfl
  · refine ⟨_, (pss_one (ps_if (pt_not (pt_val (pe_callD D_is_class hr (pa_cons (pv 0) (pa_cons (pv 1) pa_nil))))) (pss_one (ps_raiseE rfl (takes_of rfl rfl rfl rfl) E_NoClass hr (pv 1))) pss_nil)), ?_⟩
    obtain ⟨r, kd, tl, T, n, x, tp, rfl, R, th, k1, k2⟩ := h
    rw [show L2.start ["runtime", "name"] [V.ref r, x] = ([some (V.ref r), some (x)] : List (Option V)) from rfl]
    have kh := KH.start (H := H)
    walk_at "go"
    refine ⟨r, kd, tl, T, n, x, tp, rfl, R, th, fun H1 e1 => ?_⟩
    walk_at "go"
    cases hc : clsV T x with
    | true =>
      walk_at "go"
      exact k1 hc _ e1
    | false =>
      walk_at "go"
      refine RsG.mk E_NoClass.o E_NoClass.no fun d H2 e2 hd hx => k2 hc d H2 (e1.trans e2) (e1.free hd) hx
def spLineOf (CK CR : Addr) : Sp := fun vs H Q _ => ∃ r kd tl T n o l, vs = [.ref r, optV o] ∧ RtAt CK CR H r kd tl T n ∧ Line T o l ∧ l.length ≤ 1000 ∧ ∀ p H', H p = none → Wc.Ext H H' → H' p = some (.lst (l.map V.str)) → Q (.ref p) H'
theorem ok_line_of (F : FnP K "line_of" s_line_of f fd) (T : Bt mg) (C : Cs K CK CR) : FnOk P w K mg base CX0 1 f fd ["runtime", "name"] (spLineOf CK CR) := by
  refine F.ok sc_line_of (fun vs H Q E h => ?_) (fun cdv A outer s H vs Q E hr h => ?_)
  · obtain ⟨r, kd, tl, T, n, o, l, rfl, _⟩ := h
    rfl
  · refine ⟨_, PSs.nox (pss_cons (ps_set (i := 2) sc_line_of.nd rfl (by first | exact Or.inl rfl | exact Or.inr rfl) (pe_lst pa_nil))
      (pss_cons (ps_while PassesOwn.never (pt_cmpR op_notN (pv 1) pe_non (nomark _)) (pss_cons (ps_expr (pe_bm PySem.F.plainAttrs_list PySem.F.slot_list_append PySem.F.type_list_append mt_append (pv 2) (pa_cons (pv 1) pa_nil)))
      (pss_one (ps_set (i := 1) sc_line_of.nd rfl (by first | exact Or.inl rfl | exact Or.inr rfl) (pe_fld (pe_dget (un1 hr) (pe_fld (pv 0) rfl) (pv 1) (fun _ _ => rfl)) rfl)))))
      (pss_one (ps_ret (pv 2))))), ?_⟩
    obtain ⟨r, kd, tl, T, n, o, l, rfl, R, ln, hz, k⟩ := h
    rw [show L2.start ["runtime", "name", "found"] [V.ref r, optV o] = ([some (V.ref r), some (optV o), none] : List (Option V)) from rfl]
    have kh := KH.start (H := H)
    walk_at "go"
    rename_i p H1 np k1
    refine r_while ?_
    refine WhG.mk (fun m σ H2 => ∃ o2 done rest, σ = [some (.ref r), some (optV o2), some (.ref p)] ∧ Line T o2 rest ∧ done ++ rest = l ∧ m = rest.length ∧ KH H [] [(p, .lst (done.map V.str))] H2) l.length ⟨o, [], l, rfl, ln, rfl, rfl, k1⟩ ?_
    rintro m σ H2 ⟨o2, done, rest, rfl, ln2, hd, rfl, k2⟩
    obtain ⟨⟨dx, fs, h1, _⟩, ⟨kvs, h2, bn⟩, _⟩ := R
    walk_at "go"
    refine ⟨rfl, ?_⟩
    walk_at "go"
    cases ln2 with
    | nil =>
      walk_at "go"
      rw [List.append_nil] at hd
      subst hd
      exact k p H2 np k2.extE (k2.find .here)
    | @cons x c rest h t =>
      have hl : done.length + (rest.length + 1) ≤ 1000 := by
        have e := congrArg List.length hd
        rw [List.length_append, List.length_cons] at e
        omega
      refine r_iteT rfl (whN ?_)
      walk_at "go"
      rename_i H3 k3
      have e3 := k3.extE
      obtain ⟨v, hv, q, dx2, ft, rfl, hq, hft⟩ := bn.some h
      refine FldAt.mk (e3 _ _ h1) C.r C.r_kinds rfl ?_
      walk_at "go"
      refine dget_mk' (y := optV (some x)) rfl (rd_ext h2 e3) hv ?_
      refine FldAt.mk (e3 _ _ hq) C.k C.k_parent rfl ?_
      walk_at "go"
      exact ⟨c.par, done ++ [x], rest, rfl, t, by rw [← hd, List.append_assoc]; rfl, rfl, by rw [List.map_append]; exact k3⟩
/-- the classes that a world knows -/
def knownL (T : List Cl) (n : Nat) : List Str := (T.filter fun c => decide ((c.since : Int) ≤ (n : Int))).map (·.name)
def spKnown (CK CR : Addr) : Sp := fun vs H Q _ => ∃ r kd tl T n m kvs, vs = [.ref r, .int (m : Nat)] ∧ RtAt CK CR H r kd tl T n ∧ H kd = some (.dK kvs) ∧ T.length < 64 ∧
  ∀ ys p H', ys.Perm (knownL T m) → PyProof.Rows.sortedS ys = true → H p = none → Wc.Ext H H' → H' p = some (.lst (ys.map V.str)) → Q (.ref p) H'
abbrev NN_known : List Str := ["runtime", "world", "name", "kind"]
theorem ok_known (F : FnP K "known" s_known f fd) (T : Bt mg) (C : Cs K CK CR) : FnOk P w K mg base CX0 1 f fd ["runtime", "world"] (spKnown CK CR) := by
  refine F.ok sc_known (fun vs H Q E h => ?_) (fun cdv A outer s H vs Q E hr h => ?_)
  · obtain ⟨r, kd, tl, T, n, m, kvs, rfl, _⟩ := h
    rfl
  · refine ⟨_, PSs.nox (pss_one (ps_ret (pe_lock (pe_callB cr_sortedS (by rfl) T.f_sorted PyProof.Rows.boot_sorted (pa_cons (pe_lc (own := [("name", 2), ("kind", 3)]) (g := (gTup K 2 (gCons (gName 2) (gCons (gName 3) gNil)))) rfl sc_known.nd (pi_items (pe_fld (pv 0) rfl)) (blkOk_by (N := NN_known) (sc := defScope s_known) (by decide +kernel)) (fun _ _ _ _ _ => (pg_tup rfl (pgs_cons (pg_name (i := 2) sc_known.nd rfl (by first | exact Or.inl rfl | exact Or.inr rfl)) (pgs_cons (pg_name (i := 3) sc_known.nd rfl (by first | exact Or.inl rfl | exact Or.inr rfl)) pgs_nil)))) (fun _ _ _ _ _ => (pts_one (pt_cmpR op_le (pe_fldK K (pv 3) rfl) (pv 1) (nomark _)))) (fun _ _ _ _ _ => (pv 2))) pa_nil))))), ?_⟩
    obtain ⟨r, kd, tl, T, n, m, kvs, rfl, R, hkd, hz, k⟩ := h
    rw [show L2.start ["runtime", "world", "name", "kind"] [V.ref r, V.int m] = ([some (V.ref r), some (V.int m), none, none] : List (Option V)) from rfl]
    have kh := KH.start (H := H)
    refine r_ret ?_
    refine r_lockE hkd trivial fun od => ?_
    obtain ⟨⟨dx, fs, h1, _⟩, ⟨kvs2, h2, bn⟩, _⟩ := R
    obtain rfl : kvs2 = kvs := by
      rcases h2 with h2 | ⟨_, h2⟩ <;> rw [hkd] at h2 <;> cases h2
      rfl
    have mo : Mo H (upd H kd (.frz od (.dK kvs2))) := Mo.upd hkd rfl
    have bn2 := bn.mono fun _ _ z => z.mo mo
    walk_at "go"
    refine FldAt.mk (mo _ _ rfl h1) C.r C.r_kinds rfl ?_
    refine ⟨kd, od, kvs2, rfl, upd_same, ?_⟩
    have hlen := bn.length
    refine lcJ walk_items (fun i => T[i]?.bind fun c => if decide ((c.since : Int) ≤ (m : Int)) = true then some (V.str c.name) else none) (by omega) (fun H' e => e _ _ upd_same) ?_ ?_
    · rintro i x H1 H2 R N hi e1 ⟨t, x1, x2, rfl, ht, rfl, hx, hy⟩ hR hN
      have hT2 : (upd H1 t (.tup [x1, x2])) t = some (.tup [x1, x2]) := upd_same
      have e2 : Wc.Ext H1 (upd H1 t (.tup [x1, x2])) := .new ht
      obtain ⟨kv, hkv, rfl⟩ := Option.map_eq_some_iff.mp hx
      have hy : kvs2[i]?.map Prod.snd = some x2 := hy
      rw [hkv] at hy
      cases hy
      obtain ⟨c, hc, hn, q, dx2, ft, hv, hq, _⟩ := paired_get bn2 hkv
      rw [hn, hv]
      rw [hn, hv] at hT2
      rw [hn, hv] at e2
      walk_at "go"
      refine ⟨rfl, ?_⟩
      walk_at "go"
      refine FldAt.mk (e2 _ _ (e1 _ _ hq)) C.k C.k_since rfl ?_
      walk_at "go"
      by_cases hs : decide ((c.since : Int) ≤ (m : Int)) = true
      · rw [if_pos hs]
        walk_at "go"
        exact hR _ _ (by show (T[i]?.bind _) = _; rw [hc]; show (if _ then _ else _) = _; rw [if_pos hs]; rfl) e2
      · rw [if_neg hs]
        exact hN _ (by show (T[i]?.bind _) = _; rw [hc]; show (if _ then _ else _) = _; rw [if_neg hs]) e2
    · intro p H' hp e hl
      have hl2 : (List.range kvs2.length).filterMap (fun i => T[i]?.bind fun c => if decide ((c.since : Int) ≤ (m : Int)) = true then some (V.str c.name) else none) = (knownL T m).map V.str := by
        rw [hlen, range_fm]
        unfold knownL
        clear hl k hz bn bn2 hlen e
        induction T with
        | nil => rfl
        | cons c T ih =>
          rw [List.filterMap_cons, List.filter_cons]
          by_cases hs : decide ((c.since : Int) ≤ (m : Int)) = true
          · rw [if_pos hs, if_pos hs]
            exact congrArg (V.str c.name :: ·) ih
          · rw [if_neg hs, if_neg hs]
            exact ih
      rw [hl2] at hl
      walk_at "go"
      have hz2 : (knownL T m).length < 64 := Nat.lt_of_le_of_lt (by unfold knownL; rw [List.length_map]; exact List.length_filter_le _ _) hz
      refine ⟨p, knownL T m, rfl, SqL.of hl, hz2, fun ys q hp2 hs hq => ⟨?_, ?_⟩⟩
      · rw [upd_ne (ne_of_none (e _ _ upd_same) hq)]
        exact e _ _ upd_same
      · have nk : kd ≠ q := ne_of_none (e _ _ upd_same) hq
        have hq0 : H q = none := by
          cases z : H q with
          | none => rfl
          | some o =>
            have z2 := e q o (by rw [upd_ne (Ne.symm nk)]; exact z)
            rw [hq] at z2
            cases z2
        refine k ys q _ hp2 hs hq0 (fun a o h => ?_) (by rw [upd_ne (Ne.symm nk), upd_same])
        by_cases ha : a = kd
        · rw [ha, upd_same]
          rw [ha] at h
          rw [← h, hkd]
        · have h3 := e a o (by rw [upd_ne ha]; exact h)
          rw [upd_ne ha, upd_ne (ne_of_none h3 hq)]
          exact h3
def spBelow (CK CR : Addr) : Sp := fun vs H Q _ => ∃ r kd tl T n x y l, vs = [.ref r, .str x, .str y] ∧ RtAt CK CR H r kd tl T n ∧ Line T (some x) l ∧ l.length ≤ 1000 ∧ ∀ H', Wc.Ext H H' → Q (.bl (inV (.str y) (l.map V.str))) H'
theorem ok_below (F : FnP K "below" s_below f fd) (T : Bt mg) (D_line_of : DfOk P w K mg base CX0 1 "line_of" ["runtime", "name"] (spLineOf CK CR)) : FnOk P w K mg base CX0 2 f fd ["runtime", "one", "other"] (spBelow CK CR) := by
  refine F.ok sc_below (fun vs H Q E h => ?_) (fun cdv A outer s H vs Q E hr h => ?_)
  · obtain ⟨r, kd, tl, T, n, x, y, l, rfl, _⟩ := h
    rfl
  · refine ⟨_, PSs.nox (pss_one (ps_ret (pe_cmpR op_in_seq (pv 2) (pe_callD D_line_of hr (pa_cons (pv 0) (pa_cons (pv 1) pa_nil))) (by rfl)))), ?_⟩
    obtain ⟨r, kd, tl, T, n, x, y, l, rfl, R, ln, hz, k⟩ := h
    rw [show L2.start ["runtime", "one", "other"] [V.ref r, V.str x, V.str y] = ([some (V.ref r), some (V.str x), some (V.str y)] : List (Option V)) from rfl]
    walk_at "go"
    refine ⟨r, kd, tl, T, n, some x, l, rfl, R, ln, hz, fun p H' hp e hl => ?_⟩
    exact ⟨p, _, rfl, .inl (SqL.of hl), rfl, by rw [List.all_map]; exact List.all_eq_true.mpr fun _ _ => rfl, k _ e⟩
end
end K01

set_option Elab.async false
set_option linter.all false
set_option maxRecDepth 100000
set_option maxHeartbeats 4000000
namespace K01
open PySem L2 Wc
local macro_rules | `(tactic| walk_at "lk") => `(tactic| first | with_reducible exact Look.here | (with_reducible apply Look.there; walk_at "lk"))
local macro_rules | `(tactic| walk_at "ul") => `(tactic| first | with_reducible exact UpL.here | (with_reducible apply UpL.there; walk_at "ul"))
local macro_rules | `(tactic| walk_at "ga") => `(tactic| first | exact GetAt.here | (apply GetAt.there; walk_at "ga"))
local macro_rules | `(tactic| walk_at "sa") => `(tactic| first | exact SetAt.here | (apply SetAt.there; walk_at "sa"))
local macro_rules | `(tactic| walk_at "hp") => `(tactic| first | assumption | (refine' KH.find ?k ?h; (case k => assumption); (case h => walk_at "lk")))
local macro_rules | `(tactic| walk_at "sql") => `(tactic| first | assumption | (refine' SqL.of ?h; (case h => walk_at "hp")) | (refine' Fr.sql (KH.fr ?k) ?n ?h; (case k => assumption); (case h => assumption); (case n => (simp; done))))
local macro_rules | `(tactic| walk_at "sqt") => `(tactic| first | assumption | (refine' SqT.of ?h; (case h => walk_at "hp")))
local macro_rules | `(tactic| walk_at "side") => `(tactic| first | exact (show (0 : Int) < _ by decide) | exact (show (0 : Int) < _ by omega) | exact ⟨by decide, by decide, by decide⟩ | exact ⟨by decide, by decide, by omega⟩ | exact ⟨by decide, by decide⟩ | exact ⟨by omega, by omega⟩ | exact Or.inl ⟨by omega, by omega⟩ | exact Or.inr ⟨by omega, by omega⟩)
local macro_rules | `(tactic| walk_at "siz") => `(tactic| first | (refine sz_of ?_; first | decide | omega | (simp; done) | (simp; omega)) | (refine sz_lt ?_; first | decide | omega | (simp; done) | (simp; omega)))
local macro_rules | `(tactic| walk_at "own") => `(tactic| first | (exact Or.inr (by assumption)) | (refine Or.inl ?_; simp; done))
local macro_rules | `(tactic| walk_at "al") => `(tactic| (refine' AllocO.mk ?k ?_; (case k => assumption); intro _ _ _ _))
local macro_rules | `(tactic| walk_at "up") => `(tactic| (refine' UpdO.mk ?k ?h ?m ?_; (case k => assumption); (case h => walk_at "ul"); (case m => walk_at "own"); intro _ _))
local macro_rules | `(tactic| walk_at "st") => `(tactic| first
  | ((with_reducible refine' r_var ?h ?_); (case h => walk_at "ga"))
  | (with_reducible refine' r_seq ?_) | (with_reducible refine' r_next ?_) | (with_reducible refine' r_asg ?_) | (with_reducible refine' r_drop ?_) | (with_reducible refine' r_ret ?_) | (with_reducible refine' r_retN ?_)
  | (with_reducible refine' r_ifs ?_) | (with_reducible refine' r_cont ?_) | (with_reducible refine' r_break ?_) | (with_reducible refine' r_c ?_) | (with_reducible refine' r_op ?_) | (with_reducible refine' r_un ?_)
  | (with_reducible refine' r_test ?_) | (with_reducible refine' r_tB ?_) | (with_reducible refine' r_not ?_) | (with_reducible refine' r_and ?_) | (with_reducible refine' r_or ?_) | (with_reducible refine' r_notV ?_)
  | (with_reducible refine' r_andV ?_) | (with_reducible refine' r_orV ?_) | (with_reducible refine' r_ifE ?_) | (with_reducible refine' r_bl ?_) | (with_reducible refine' r_nil ?_) | (with_reducible refine' r_cons ?_)
  | (with_reducible refine' r_tup ?_) | (with_reducible refine' r_lst ?_) | (with_reducible refine' r_cb ?_) | (with_reducible refine' r_call ?_) | ((with_reducible refine' r_name ?h ?_); (case h => walk_at "sa")) | (with_reducible refine' r_gnil ?_)
  | (with_reducible refine' r_gcons ?_) | (with_reducible refine' r_gsub ?_) | (with_reducible refine' r_par ?_) | (with_reducible refine' r_par2 ?_) | (with_reducible refine' r_I0 ?_) | (with_reducible refine' r_U ?_)
  | ((with_reducible refine' r_eq ?h ?_); (case h => rfl)) | ((with_reducible refine' r_ne ?h ?_); (case h => rfl))
  | ((with_reducible refine' r_ixL ?h ?a ?_); (case h => walk_at "sql"); (case a => rfl))
  | ((with_reducible refine' r_ixT ?h ?a ?_); (case h => walk_at "sqt"); (case a => rfl))
  | ((with_reducible refine' r_setL ?h ?a ?_); (case h => walk_at "hp"); (case a => rfl))
  | ((with_reducible refine' r_I ?c ?_); (case c => walk_at "side"))
  | (with_reducible refine' r_sl ?_) | (with_reducible refine' r_part ?_) | (with_reducible refine' r_nopart ?_) | (with_reducible refine' r_ii ?_)
  | ((with_reducible refine' r_slL ?h ?_); (case h => walk_at "sql"))
  | (with_reducible refine' r_bm ?_) | (with_reducible refine' r_bm0 ?_) | (with_reducible refine' r_int1 ?_) | (with_reducible refine' r_int1b ?_)
  | ((with_reducible refine' r_aug ?h ?_); (case h => walk_at "ga"))
  | ((with_reducible refine' r_cat ?a ?b ?z ?_); (case a => walk_at "hp"); (case b => walk_at "hp"); (case z => walk_at "siz"))
  | ((with_reducible refine' r_append ?a ?z ?_); (case a => walk_at "hp"); (case z => walk_at "siz"))
  | ((with_reducible refine' And.intro ?z ?_); (case z => first | walk_at "siz" | exact Or.inl ⟨rfl, _, by walk_at "sql"⟩))
  | ((with_reducible refine' r_gtup ?h ?l ?_); (case h => walk_at "sqt"); (case l => rfl))
  | (with_reducible refine' r_forL ?_) | (with_reducible refine' r_forE ?_) | (with_reducible refine' r_forR ?_) | ((with_reducible refine' r_forL2 ?h ?_); (case h => walk_at "sql")) | ((with_reducible refine' r_forE2 ?h ?_); (case h => walk_at "sql"))
  | (with_reducible refine' r_lcR ?_) | ((with_reducible refine' r_iteT ?h ?_); (case h => rfl)) | ((with_reducible refine' r_iteF ?h ?_); (case h => rfl))
  | (with_reducible refine' r_dnew ?_) | (with_reducible refine' r_vei ?_) | (with_reducible refine' r_ost ?_) | (with_reducible refine' r_mkV ?_) | (with_reducible refine' r_mkX ?_) | (with_reducible refine' r_xfld ?_)
  | ((with_reducible refine' MkG.mk ?o ?n ?k ?_); (case o => exact ErrOk.o (by assumption)); (case n => exact ErrOk.no (by assumption)); (case k => assumption); intro _ _ _ _)
  | ((with_reducible refine' AllocX.mk ?k ?_); (case k => assumption); intro _ _ _ _)
  | (with_reducible refine' r_chain ?_) | (with_reducible refine' r_lcS ?_) | (with_reducible refine' r_lcS2 ?_) | (with_reducible refine' r_lcL ?_) | (with_reducible refine' r_lcT ?_) | (with_reducible refine' r_lcI ?_) | (with_reducible refine' r_yes ?_)
  | (with_reducible refine' r_fld ?_) | (with_reducible refine' r_sfld ?_) | (with_reducible refine' r_meth ?_) | (with_reducible refine' r_make ?_) | (with_reducible refine' r_dget ?_) | (with_reducible refine' r_din ?_) | (with_reducible refine' r_dput ?_)
  | ((with_reducible refine' r_disp ?k ?_); (case k => assumption); intro _ _ _ _) | (with_reducible refine' r_pnil ?_) | (with_reducible refine' r_pcons ?_)
  | (walk_at "al") | (walk_at "up"))
local macro_rules | `(tactic| walk_at "go") => `(tactic| repeat walk_at "st")

structure Cs2 (K : PySem.W.Frag) (CR : Addr) : Prop where
  entries : NoAttr K CR "entries"
  tasks : NoAttr K CR "tasks"
  solutions : NoAttr K CR "solutions"
  shapes : NoAttr K CR "shapes"
  made : NoAttr K CR "made"
section
variable {P : Program} {w : World} {K : PySem.W.Frag} {mg : Str → Option Value} {base : Heap} {f : Addr} {fd : FuncData} {CK CR NC : Addr}
abbrev kindFs (pv fv sv : V) : List (Str × V) := [("parent", pv), ("fields", fv), ("since", sv)]
def spKind (CK : Addr) : Sp := fun vs H Q _ => ∃ a dx pv fv sv, vs = [.ref a, pv, fv, sv] ∧ H a = some (.ins CK dx []) ∧ ∀ H', Fr [a] H H' → H' a = some (.ins CK dx (kindFs pv fv sv)) → Q .non H'
theorem ok_kind (F : MeP K "__init__" "Kind.__init__" s_Kind_init f fd) (C : Cs K CK CR) : FnOk P w K mg base CX0 1 f fd ["self", "parent", "fields", "since"] (spKind CK) := by
  refine F.ok sc_Kind_init (fun vs H Q E h => ?_) (fun cdv A outer s H vs Q E hr h => ?_)
  · obtain ⟨a, dx, pv, fv, sv, rfl, _⟩ := h
    rfl
  · refine ⟨_, PSs.nox (pss_cons (ps_fld (pv 0) (pv 1) rfl)
      (pss_cons (ps_fld (pv 0) (pv 2) rfl)
      (pss_one (ps_fld (pv 0) (pv 3) rfl)))), ?_⟩
    obtain ⟨a, dx, p0, f0, s0, rfl, ha, k⟩ := h
    rw [show L2.start ["self", "parent", "fields", "since"] [V.ref a, p0, f0, s0] = ([some (V.ref a), some (p0), some (f0), some (s0)] : List (Option V)) from rfl]
    have kh := KH.start1 ha
    walk_at "go"
    refine SFldAt.mk kh (by walk_at "ul") C.k C.k_parent (by decide) (.inl (by simp)) (kh.find .here) fun H1 k1 => ?_
    walk_at "go"
    refine SFldAt.mk k1 (by walk_at "ul") C.k C.k_fields (by show (1 : Nat) < 1000; decide) (.inl (by simp)) (k1.find .here) fun H2 k2 => ?_
    walk_at "go"
    refine SFldAt.mk k2 (by walk_at "ul") C.k C.k_since (by show (2 : Nat) < 1000; decide) (.inl (by simp)) (k2.find .here) fun H3 k3 => ?_
    walk_at "go"
    exact k H3 k3.fr (k3.find .here)
theorem mkKind {H0 H : Hp} {M : List Addr} {Lk : List (Addr × HO)} {pv fv sv : V} {Q : Addr → Hp → Prop} {E : XK} (k : KH H0 M Lk H) (q : ∀ x dx H', H0 x = none → KH H0 M ((x, .ins CK dx (kindFs pv fv sv)) :: (dx, .own x) :: Lk) H' → Q x H') :
    ∀ x dx, H x = none → H dx = none → dx ≠ x → spKind CK (.ref x :: ([pv, fv, sv] ++ [])) (upd (upd H dx (.own x)) x (.ins CK dx [])) (fun v H2 => v = .non ∧ Q x H2) E := fun x dx hx hd ne => by
  have k1 := (k.new (o := .own x) hd).new (p := x) (o := .ins CK dx []) (by rw [upd_ne (Ne.symm ne)]; exact hx)
  refine ⟨x, dx, pv, fv, sv, rfl, upd_same, fun H' fr h' => ⟨rfl, q x dx H' (k.fresh hx) (k1.up .here fr h' (.inr (k.fresh hx)))⟩⟩
/-- the first classes -/
abbrev T0 : List Cl := [⟨"any", none, [], [], 0⟩, ⟨"int", some "any", [], [], 0⟩]
def spRuntime (CK CR : Addr) : Sp := fun vs H Q _ => ∃ a dx, vs = [.ref a] ∧ H a = some (.ins CR dx []) ∧ ∀ kd tl H', Fr [a] H H' → RtW CK CR H' a kd tl T0 0 → H kd = none → H tl = none → Q .non H'
theorem ok_runtime (F : MeP K "__init__" "Runtime.__init__" s_Runtime_init f fd) (C : Cs K CK CR) (C2 : Cs2 K CR) (K_Kind : MkOk P w K mg base CX0 1 "Kind" CK ["self", "parent", "fields", "since"] (spKind CK)) :
    FnOk P w K mg base CX0 3 f fd ["self"] (spRuntime CK CR) := by
  refine F.ok sc_Runtime_init (fun vs H Q E h => ?_) (fun cdv A outer s H vs Q E hr h => ?_)
  · obtain ⟨a, dx, rfl, _⟩ := h
    rfl
  · refine ⟨_, PSs.nox (pss_cons (ps_fld (pv 0) (pe_disp (pps_cons pe_str (pe_makeC K_Kind hr (pa_cons pe_non (pa_cons (pe_tup pa_nil) (pa_cons pe_int pa_nil)))) (pps_cons pe_str (pe_makeC K_Kind hr (pa_cons pe_str (pa_cons (pe_tup pa_nil) (pa_cons pe_int pa_nil)))) pps_nil)) rfl rfl (fun z => nomatch z) (by decide)) rfl)
      (pss_cons (ps_fld (pv 0) (pe_lst (pa_cons pe_dnewK pa_nil)) rfl)
      (pss_cons (ps_fld (pv 0) (pe_lst pa_nil) rfl)
      (pss_cons (ps_fld (pv 0) (pe_lst pa_nil) rfl)
      (pss_cons (ps_fld (pv 0) pe_dnewK rfl)
      (pss_cons (ps_fld (pv 0) pe_dnewK rfl)
      (pss_one (ps_fld (pv 0) (pe_disp (pps_cons pe_str pe_int (pps_cons pe_str pe_int (pps_cons pe_str pe_int (pps_cons pe_str pe_int pps_nil)))) rfl rfl (fun z => nomatch z) (by decide)) rfl)))))))), ?_⟩
    obtain ⟨a, dx, rfl, ha, k⟩ := h
    rw [show L2.start ["self"] [V.ref a] = ([some (V.ref a)] : List (Option V)) from rfl]
    have kh := KH.start1 ha
    walk_at "go"
    rename_i kd H1 nk k1 tup H2 nt k2
    refine mkKind k2 fun x1 dx1 H3 nx1 k3 => ?_
    walk_at "go"
    rename_i tup2 H4 nt2 k4
    refine mkKind k4 fun x2 dx2 H5 nx2 k5 => ?_
    walk_at "go"
    refine' r_dispE [(.inr "any", .ref x1), (.inr "int", .ref x2)] ?h ?e ?l ?_
    case h => exact k5.find (by walk_at "lk")
    case e => rfl
    case l => simp
    have k6 := KH.up k5 (o' := .dK [(.inr "any", .ref x1), (.inr "int", .ref x2)]) (by walk_at "ul") (Fr.updE (by simp)) upd_same (.inr nk)
    rw [show mergeK [] [(Sum.inr ("any" : Str), V.ref x1), (Sum.inr ("int" : Str), V.ref x2)] = ([(Sum.inr ("any" : Str), V.ref x1), (Sum.inr ("int" : Str), V.ref x2)] : List (Key × V)) from rfl]
    generalize upd H5 kd _ = H6 at k6 ⊢
    walk_at "go"
    refine SFldAt.mk (by assumption) (by walk_at "ul") C.r C.r_kinds (by show (0 : Nat) < 1000; decide) (.inl (by simp)) (by walk_at "hp") fun H10 k10 => ?_
    walk_at "go"
    refine SFldAt.mk (by assumption) (by walk_at "ul") C.r C.r_tables (by show (1 : Nat) < 1000; decide) (.inl (by simp)) (by walk_at "hp") fun H11 k11 => ?_
    walk_at "go"
    refine SFldAt.mk (by assumption) (by walk_at "ul") C.r C2.entries (by show (2 : Nat) < 1000; decide) (.inl (by simp)) (by walk_at "hp") fun H12 k12 => ?_
    walk_at "go"
    refine SFldAt.mk (by assumption) (by walk_at "ul") C.r C2.tasks (by show (3 : Nat) < 1000; decide) (.inl (by simp)) (by walk_at "hp") fun H13 k13 => ?_
    walk_at "go"
    refine SFldAt.mk (by assumption) (by walk_at "ul") C.r C2.solutions (by show (4 : Nat) < 1000; decide) (.inl (by simp)) (by walk_at "hp") fun H14 k14 => ?_
    walk_at "go"
    refine SFldAt.mk (by assumption) (by walk_at "ul") C.r C2.shapes (by show (5 : Nat) < 1000; decide) (.inl (by simp)) (by walk_at "hp") fun H15 k15 => ?_
    walk_at "go"
    rename_i md H17 nmd k17
    refine' r_dispE [(.inr "direct", .int 0), (.inr "split", .int 0), (.inr "looked", .int 0), (.inr "newest", .int 0)] ?h ?e ?l ?_
    case h => exact k17.find (by walk_at "lk")
    case e => rfl
    case l => simp
    have k18 := KH.up k17 (o' := .dK (mergeK [] [(Sum.inr ("direct" : Str), V.int 0), (Sum.inr ("split" : Str), V.int 0), (Sum.inr ("looked" : Str), V.int 0), (Sum.inr ("newest" : Str), V.int 0)])) (by walk_at "ul") (Fr.updE (by simp)) upd_same (.inr nmd)
    generalize upd H17 md _ = H18 at k18 ⊢
    walk_at "go"
    refine SFldAt.mk (by assumption) (by walk_at "ul") C.r C2.made (by show (6 : Nat) < 1000; decide) (.inl (by simp)) (by walk_at "hp") fun H16 k16 => ?_
    walk_at "go"
    have ho := k16.find (p := a) (by walk_at "lk")
    have hx1 := k16.find (p := x1) (by walk_at "lk")
    have hx2 := k16.find (p := x2) (by walk_at "lk")
    refine k kd _ H16 k16.fr ⟨⟨⟨dx, _, ho, rfl, rfl, rfl⟩, ⟨_, .inl (k16.find (p := kd) (by walk_at "lk")), .cons ⟨rfl, _, _, _, rfl, hx1, k16.find (p := tup) (by walk_at "lk")⟩ (.cons ⟨rfl, _, _, _, rfl, hx2, k16.find (p := tup2) (by walk_at "lk")⟩ .nil)⟩, _, k16.find (by walk_at "lk"), rfl⟩, _, k16.find (by walk_at "lk")⟩ nk (by assumption)
def spNewest (CK CR : Addr) : Sp := fun vs H Q _ => ∃ r kd tl T n, vs = [.ref r] ∧ RtAt CK CR H r kd tl T n ∧ Q (.int (n : Nat)) H
theorem ok_newest (F : MeP K "newest" "Runtime.newest" s_Runtime_newest f fd) (T : Bt mg) (C : Cs K CK CR) : FnOk P w K mg base CX0 1 f fd ["self"] (spNewest CK CR) := by
  refine F.ok sc_Runtime_newest (fun vs H Q E h => ?_) (fun cdv A outer s H vs Q E hr h => ?_)
  · obtain ⟨r, kd, tl, T, n, rfl, _⟩ := h
    rfl
  · refine ⟨_, PSs.nox (pss_one (ps_ret (pe_op op_sub (pe_callB call_len_seq (by rfl) T.f_len PySem.boot_len (pa_cons (pe_fld (pv 0) rfl) pa_nil)) pe_int))), ?_⟩
    obtain ⟨r, kd, tl, T, n, rfl, R, k⟩ := h
    rw [show L2.start ["self"] [V.ref r] = ([some (V.ref r)] : List (Option V)) from rfl]
    obtain ⟨⟨dx, fs, h1, _⟩, _, xs, h2, h3⟩ := R
    walk_at "go"
    refine FldAt.mk h1 C.r C.r_tables rfl ?_
    refine ⟨tl, xs, rfl, .inl (SqL.of h2), ?_⟩
    walk_at "go"
    rw [h3, show (((n + 1 : Nat) : Int) - 1) = (n : Int) by omega]
    exact k
def spTable (CK CR : Addr) : Sp := fun vs H Q _ => ∃ r kd tl T n m, vs = [.ref r, .int (m : Nat)] ∧ RtAt CK CR H r kd tl T n ∧ m ≤ n ∧ ∀ v, Q v H
theorem ok_table (F : MeP K "table" "Runtime.table" s_Runtime_table f fd) (T : Bt mg) (C : Cs K CK CR) : FnOk P w K mg base CX0 1 f fd ["self", "world"] (spTable CK CR) := by
  refine F.ok sc_Runtime_table (fun vs H Q E h => ?_) (fun cdv A outer s H vs Q E hr h => ?_)
  · obtain ⟨r, kd, tl, T, n, m, rfl, _⟩ := h
    rfl
  · refine ⟨_, PSs.nox (pss_one (ps_ret (pe_ix ix_list (pe_fld (pv 0) rfl) (pv 1) (fun _ _ => rfl)))), ?_⟩
    obtain ⟨r, kd, tl, T, n, m, rfl, R, hm, k⟩ := h
    rw [show L2.start ["self", "world"] [V.ref r, V.int m] = ([some (V.ref r), some (V.int m)] : List (Option V)) from rfl]
    obtain ⟨⟨dx, fs, h1, _⟩, _, xs, h2, h3⟩ := R
    walk_at "go"
    refine FldAt.mk h1 C.r C.r_tables rfl ?_
    walk_at "go"
    exact r_ixL (SqL.of h2) (atI_nat (List.getElem?_eq_getElem (show m < xs.length by omega))) (k _)
def spAddWorld (CK CR : Addr) : Sp := fun vs H Q _ => ∃ r kd tl T n v, vs = [.ref r, v] ∧ RtAt CK CR H r kd tl T n ∧ n < 50000 ∧ ∀ H', Fr [tl] H H' → RtAt CK CR H' r kd tl T (n + 1) → Q (.int ((n + 1 : Nat) : Int)) H'
theorem rt_fr_tl {H H' : Hp} {r kd tl : Addr} {T : List Cl} {n : Nat} {xs : List V} (R : RtAt CK CR H r kd tl T n) (f : Fr [tl] H H') (h : H' tl = some (.lst xs)) : RtAt CK CR H' r kd tl T (xs.length - 1) ∨ xs = [] := by
  cases xs with
  | nil => exact .inr rfl
  | cons x xs =>
    obtain ⟨⟨dx, fs, h1, hn⟩, ⟨kvs, h2, bn⟩, ys, h3, _⟩ := R
    have mo := Mo.fr1 f h3 rfl
    refine .inl ⟨⟨dx, fs, mo _ _ rfl h1, hn⟩, ⟨kvs, ?_, bn.mono fun _ _ z => z.mo mo⟩, _, h, by simp⟩
    rcases h2 with h2 | ⟨o, h2⟩
    · exact .inl (f _ _ (by simpa using ne_of h2 h3 (by intro z; cases z)) h2)
    · exact .inr ⟨o, f _ _ (by simpa using ne_of h2 h3 (by intro z; cases z)) h2⟩
theorem ok_add_world (F : MeP K "add_world" "Runtime.add_world" s_Runtime_add_world f fd) (T : Bt mg) (C : Cs K CK CR) (M_newest : MtOk P w K mg base CX0 1 CR "newest" ["self"] (spNewest CK CR)) : FnOk P w K mg base CX0 2 f fd ["self", "table"] (spAddWorld CK CR) := by
  refine F.ok sc_Runtime_add_world (fun vs H Q E h => ?_) (fun cdv A outer s H vs Q E hr h => ?_)
  · obtain ⟨r, kd, tl, T, n, v, rfl, _⟩ := h
    rfl
  · refine ⟨_, PSs.nox (pss_cons (ps_expr (pe_bm PySem.F.plainAttrs_list PySem.F.slot_list_append PySem.F.type_list_append mt_append (pe_fld (pv 0) rfl) (pa_cons (pv 1) pa_nil)))
      (pss_one (ps_ret (pe_methC0 M_newest hr (pv 0))))), ?_⟩
    obtain ⟨r, kd, tl, T, n, v, rfl, R, hn, k⟩ := h
    rw [show L2.start ["self", "table"] [V.ref r, v] = ([some (V.ref r), some (v)] : List (Option V)) from rfl]
    have R2 := R
    obtain ⟨⟨dx, fs, h1, hs, _⟩, _, xs, h2, h3⟩ := R2
    have kh := KH.start1 h2
    walk_at "go"
    refine FldAt.mk h1 C.r C.r_tables rfl ?_
    refine ⟨.inl ⟨rfl, _, SqL.of h2⟩, ?_⟩
    walk_at "go"
    rename_i H1 k1
    have hl := k1.find (p := tl) .here
    have R1 : RtAt CK CR H1 r kd tl T (n + 1) := by
      rcases rt_fr_tl R k1.fr hl with z | z
      · rw [List.length_append, h3] at z
        exact z
      · simp at z
    obtain ⟨⟨dx1, fs1, hr1, hs1, _⟩, _⟩ := id R1
    refine ⟨r, dx1, _, rfl, hr1, hs1, ?_⟩
    walk_at "go"
    exact ⟨r, kd, tl, T, n + 1, rfl, R1, k H1 k1.fr R1⟩
def spNow (CK CR : Addr) : Sp := fun vs H Q _ => ∃ r kd tl T n, vs = [.ref r] ∧ RtAt CK CR H r kd tl T n ∧ Q (.int (n : Nat)) H
theorem ok_now (F : FnP K "now" s_now f fd) (M_newest : MtOk P w K mg base CX0 1 CR "newest" ["self"] (spNewest CK CR)) : FnOk P w K mg base CX0 2 f fd ["runtime"] (spNow CK CR) := by
  refine F.ok sc_now (fun vs H Q E h => ?_) (fun cdv A outer s H vs Q E hr h => ?_)
  · obtain ⟨r, kd, tl, T, n, rfl, _⟩ := h
    rfl
  · refine ⟨_, PSs.nox (pss_one (ps_ret (pe_methC0 M_newest hr (pv 0)))), ?_⟩
    obtain ⟨r, kd, tl, T, n, rfl, R, k⟩ := h
    rw [show L2.start ["runtime"] [V.ref r] = ([some (V.ref r)] : List (Option V)) from rfl]
    obtain ⟨⟨dx1, fs1, hr1, hs1, _⟩, _⟩ := id R
    walk_at "go"
    refine ⟨r, dx1, _, rfl, hr1, hs1, ?_⟩
    walk_at "go"
    exact ⟨r, kd, tl, T, n, rfl, R, k⟩
/-- world_of(runtime, None) -/
def spWorldN (CK CR : Addr) : Sp := fun vs H Q _ => ∃ r kd tl T n, vs = [.ref r, .non] ∧ RtAt CK CR H r kd tl T n ∧ Q (.int (n : Nat)) H
theorem ok_worldN (F : FnP K "world_of" s_world_of f fd) (M_newest : MtOk P w K mg base CX0 1 CR "newest" ["self"] (spNewest CK CR)) : FnOk P w K mg base CX0 2 f fd ["runtime", "world"] (spWorldN CK CR) := by
  refine F.ok sc_world_of (fun vs H Q E h => ?_) (fun cdv A outer s H vs Q E hr h => ?_)
  · obtain ⟨r, kd, tl, T, n, rfl, _⟩ := h
    rfl
  · refine ⟨_, PSs.nox (pss_cons (ps_if (pt_cmpR op_isN (pv 1) pe_non (nomark _)) (pss_one (ps_ret (pe_methC0 M_newest hr (pv 0)))) pss_nil)
      (pss_cons ps_never
      (pss_one ps_never))), ?_⟩
    obtain ⟨r, kd, tl, T, n, rfl, R, k⟩ := h
    rw [show L2.start ["runtime", "world"] [V.ref r, V.non] = ([some (V.ref r), some (V.non)] : List (Option V)) from rfl]
    obtain ⟨⟨dx1, fs1, hr1, hs1, _⟩, _⟩ := id R
    walk_at "go"
    refine ⟨rfl, ?_⟩
    walk_at "go"
    refine ⟨r, dx1, _, rfl, hr1, hs1, ?_⟩
    walk_at "go"
    exact ⟨r, kd, tl, T, n, rfl, R, k⟩
/-- classes(runtime) -/
def spClasses (CK CR : Addr) : Sp := fun vs H Q _ => ∃ r kd tl T n, vs = [.ref r, .non] ∧ RtW CK CR H r kd tl T n ∧ T.length < 64 ∧
  ∀ ys p H', ys.Perm (knownL T n) → PyProof.Rows.sortedS ys = true → H p = none → Wc.Ext H H' → H' p = some (.lst (ys.map V.str)) → Q (.ref p) H'
theorem ok_classes (F : FunD K "classes" "classes" (defArgs s_classes) (defBody s_classes) (defScope s_classes) [] [("world", .non)] f fd) (D_known : DfOk P w K mg base CX0 1 "known" ["runtime", "world"] (spKnown CK CR)) (D_world_of : DfOk P w K mg base CX0 2 "world_of" ["runtime", "world"] (spWorldN CK CR)) :
    FnOk P w K mg base CX0 3 f fd ["runtime", "world"] (spClasses CK CR) := by
  refine F.ok sc_classes (fun vs H Q E h => ?_) (fun cdv A outer s H vs Q E hr h => ?_)
  · obtain ⟨r, kd, tl, T, n, rfl, _⟩ := h
    rfl
  · refine ⟨_, PSs.nox (pss_one (ps_ret (pe_callD D_known hr (pa_cons (pv 0) (pa_cons (pe_callD D_world_of hr (pa_cons (pv 0) (pa_cons (pv 1) pa_nil))) pa_nil))))), ?_⟩
    obtain ⟨r, kd, tl, T, n, rfl, R, hz, k⟩ := h
    rw [show L2.start ["runtime", "world"] [V.ref r, V.non] = ([some (V.ref r), some (V.non)] : List (Option V)) from rfl]
    obtain ⟨kvs, hk⟩ := R.kd
    walk_at "go"
    refine ⟨r, kd, tl, T, n, rfl, R.at_, ?_⟩
    walk_at "go"
    exact ⟨r, kd, tl, T, n, n, kvs, rfl, R.at_, hk, hz, k⟩
/-- parent(runtime, name), of a class -/
def spParent (CK CR : Addr) : Sp := fun vs H Q _ => ∃ r kd tl T n x c, vs = [.ref r, .str x] ∧ RtAt CK CR H r kd tl T n ∧ nameS x = true ∧ x.length ≤ 1000 ∧ findC T x = some c ∧ ∀ H', Wc.Ext H H' → Q (optV c.par) H'
theorem ok_parent (F : FnP K "parent" s_parent f fd) (C : Cs K CK CR) (D_check_class : DfOk P w K mg base (L2.CX P w) 3 "check_class" ["runtime", "name"] (spCheck K CK CR NC)) : FnOk P w K mg base CX0 4 f fd ["runtime", "name"] (spParent CK CR) := by
  refine F.ok sc_parent (fun vs H Q E h => ?_) (fun cdv A outer s H vs Q E hr h => ?_)
  · obtain ⟨r, kd, tl, T, n, x, c, rfl, _⟩ := h
    rfl
  · refine ⟨_, PSs.nox (pss_cons (ps_expr (pe_callD D_check_class hr (pa_cons (pv 0) (pa_cons (pv 1) pa_nil))))
      (pss_one (ps_ret (pe_fld (pe_dget (un1 hr) (pe_fld (pv 0) rfl) (pv 1) (fun _ _ => rfl)) rfl)))), ?_⟩
    obtain ⟨r, kd, tl, T, n, x, c, rfl, R, hn, hx, hc, k⟩ := h
    rw [show L2.start ["runtime", "name"] [V.ref r, V.str x] = ([some (V.ref r), some (V.str x)] : List (Option V)) from rfl]
    have hcls : clsV T (.str x) = true := by
      show (nameS x && (findC T x).isSome) = true
      rw [hn, hc] <;> rfl
    walk_at "go"
    refine ⟨r, kd, tl, T, n, _, _, rfl, R, .str hx, fun _ H1 e1 => ?_, fun z => by rw [hcls] at z; cases z⟩
    obtain ⟨⟨dx, fs, h1, _⟩, ⟨kvs, h2, bn⟩, _⟩ := R
    obtain ⟨v, hv, q, dx2, ft, rfl, hq, hft⟩ := bn.some hc
    walk_at "go"
    refine FldAt.mk (e1 _ _ h1) C.r C.r_kinds rfl ?_
    walk_at "go"
    refine dget_mk (rd_ext h2 e1) hv ?_
    refine FldAt.mk (e1 _ _ hq) C.k C.k_parent rfl ?_
    walk_at "go"
    exact k _ e1
/-- fields(runtime, name), of a class -/
def spFields (CK CR : Addr) : Sp := fun vs H Q _ => ∃ r kd tl T n x c, vs = [.ref r, .str x] ∧ RtAt CK CR H r kd tl T n ∧ nameS x = true ∧ x.length ≤ 1000 ∧ findC T x = some c ∧ ∀ p H', H p = none → Wc.Ext H H' → H' p = some (.lst c.all) → Q (.ref p) H'
theorem ok_fields (F : FnP K "fields" s_fields f fd) (T : Bt mg) (C : Cs K CK CR) (D_check_class : DfOk P w K mg base (L2.CX P w) 3 "check_class" ["runtime", "name"] (spCheck K CK CR NC)) : FnOk P w K mg base CX0 4 f fd ["runtime", "name"] (spFields CK CR) := by
  refine F.ok sc_fields (fun vs H Q E h => ?_) (fun cdv A outer s H vs Q E hr h => ?_)
  · obtain ⟨r, kd, tl, T, n, x, c, rfl, _⟩ := h
    rfl
  · refine ⟨_, PSs.nox (pss_cons (ps_expr (pe_callD D_check_class hr (pa_cons (pv 0) (pa_cons (pv 1) pa_nil))))
      (pss_one (ps_ret (pe_callTy call_list_of (by rfl) T.f_list PyProof.Rows.boot_list (pa_cons (pe_fld (pe_dget (un1 hr) (pe_fld (pv 0) rfl) (pv 1) (fun _ _ => rfl)) rfl) pa_nil))))), ?_⟩
    obtain ⟨r, kd, tl, T, n, x, c, rfl, R, hn, hx, hc, k⟩ := h
    rw [show L2.start ["runtime", "name"] [V.ref r, V.str x] = ([some (V.ref r), some (V.str x)] : List (Option V)) from rfl]
    have hcls : clsV T (.str x) = true := by
      show (nameS x && (findC T x).isSome) = true
      rw [hn, hc] <;> rfl
    walk_at "go"
    refine ⟨r, kd, tl, T, n, _, _, rfl, R, .str hx, fun _ H1 e1 => ?_, fun z => by rw [hcls] at z; cases z⟩
    obtain ⟨⟨dx, fs, h1, _⟩, ⟨kvs, h2, bn⟩, _⟩ := R
    obtain ⟨v, hv, q, dx2, ft, rfl, hq, hft⟩ := bn.some hc
    walk_at "go"
    refine FldAt.mk (e1 _ _ h1) C.r C.r_kinds rfl ?_
    walk_at "go"
    refine dget_mk (rd_ext h2 e1) hv ?_
    refine FldAt.mk (e1 _ _ hq) C.k C.k_fields rfl ?_
    walk_at "go"
    refine ⟨ft, c.all, rfl, .inr (SqT.of (e1 _ _ hft)), fun l hl => ?_⟩
    exact k l _ (e1.free hl) (e1.trans (.new hl)) upd_same
/-- is_below(runtime, one, other), of classes -/
def spIsBelow (CK CR : Addr) : Sp := fun vs H Q _ => ∃ r kd tl T n x y l, vs = [.ref r, .str x, .str y] ∧ RtAt CK CR H r kd tl T n ∧ clsV T (.str x) = true ∧ clsV T (.str y) = true ∧ x.length ≤ 1000 ∧ y.length ≤ 1000 ∧ Line T (some x) l ∧ l.length ≤ 1000 ∧ ∀ H', Wc.Ext H H' → Q (.bl (inV (.str y) (l.map V.str))) H'
theorem ok_is_below (F : FnP K "is_below" s_is_below f fd) (D_check_class : DfOk P w K mg base (L2.CX P w) 3 "check_class" ["runtime", "name"] (spCheck K CK CR NC)) (D_below : DfOk P w K mg base CX0 2 "below" ["runtime", "one", "other"] (spBelow CK CR)) : FnOk P w K mg base CX0 4 f fd ["runtime", "one", "other"] (spIsBelow CK CR) := by
  refine F.ok sc_is_below (fun vs H Q E h => ?_) (fun cdv A outer s H vs Q E hr h => ?_)
  · obtain ⟨r, kd, tl, T, n, x, y, l, rfl, _⟩ := h
    rfl
  · refine ⟨_, PSs.nox (pss_cons (ps_expr (pe_callD D_check_class hr (pa_cons (pv 0) (pa_cons (pv 1) pa_nil))))
      (pss_cons (ps_expr (pe_callD D_check_class hr (pa_cons (pv 0) (pa_cons (pv 2) pa_nil))))
      (pss_one (ps_ret (pe_callD D_below hr (pa_cons (pv 0) (pa_cons (pv 1) (pa_cons (pv 2) pa_nil)))))))), ?_⟩
    obtain ⟨r, kd, tl, T, n, x, y, l, rfl, R, hx, hy, lx, ly, ln, hz, k⟩ := h
    rw [show L2.start ["runtime", "one", "other"] [V.ref r, V.str x, V.str y] = ([some (V.ref r), some (V.str x), some (V.str y)] : List (Option V)) from rfl]
    walk_at "go"
    refine ⟨r, kd, tl, T, n, _, _, rfl, R, .str lx, fun _ H1 e1 => ?_, fun z => by rw [hx] at z; cases z⟩
    walk_at "go"
    refine ⟨r, kd, tl, T, n, _, _, rfl, R.ext e1, .str ly, fun _ H2 e2 => ?_, fun z => by rw [hy] at z; cases z⟩
    walk_at "go"
    exact ⟨r, kd, tl, T, n, x, y, l, rfl, (R.ext e1).ext e2, ln, hz, fun H' e3 => k H' ((e1.trans e2).trans e3)⟩
end
end K01

set_option Elab.async false
set_option linter.all false
set_option maxRecDepth 100000
set_option maxHeartbeats 4000000
namespace K01
open PySem L2 Wc
local macro_rules | `(tactic| walk_at "lk") => `(tactic| first | with_reducible exact Look.here | (with_reducible apply Look.there; walk_at "lk"))
local macro_rules | `(tactic| walk_at "ul") => `(tactic| first | with_reducible exact UpL.here | (with_reducible apply UpL.there; walk_at "ul"))
local macro_rules | `(tactic| walk_at "ga") => `(tactic| first | exact GetAt.here | (apply GetAt.there; walk_at "ga"))
local macro_rules | `(tactic| walk_at "sa") => `(tactic| first | exact SetAt.here | (apply SetAt.there; walk_at "sa"))
local macro_rules | `(tactic| walk_at "hp") => `(tactic| first | assumption | (refine' KH.find ?k ?h; (case k => assumption); (case h => walk_at "lk")))
local macro_rules | `(tactic| walk_at "sql") => `(tactic| first | assumption | (refine' SqL.of ?h; (case h => walk_at "hp")) | (refine' Fr.sql (KH.fr ?k) ?n ?h; (case k => assumption); (case h => assumption); (case n => (simp; done))))
local macro_rules | `(tactic| walk_at "sqt") => `(tactic| first | assumption | (refine' SqT.of ?h; (case h => walk_at "hp")))
local macro_rules | `(tactic| walk_at "side") => `(tactic| first | exact (show (0 : Int) < _ by decide) | exact (show (0 : Int) < _ by omega) | exact ⟨by decide, by decide, by decide⟩ | exact ⟨by decide, by decide, by omega⟩ | exact ⟨by decide, by decide⟩ | exact ⟨by omega, by omega⟩ | exact Or.inl ⟨by omega, by omega⟩ | exact Or.inr ⟨by omega, by omega⟩)
local macro_rules | `(tactic| walk_at "siz") => `(tactic| first | (refine sz_of ?_; first | decide | omega | (simp; done) | (simp; omega)) | (refine sz_lt ?_; first | decide | omega | (simp; done) | (simp; omega)))
local macro_rules | `(tactic| walk_at "own") => `(tactic| first | (exact Or.inr (by assumption)) | (refine Or.inl ?_; simp; done))
local macro_rules | `(tactic| walk_at "al") => `(tactic| (refine' AllocO.mk ?k ?_; (case k => assumption); intro _ _ _ _))
local macro_rules | `(tactic| walk_at "up") => `(tactic| (refine' UpdO.mk ?k ?h ?m ?_; (case k => assumption); (case h => walk_at "ul"); (case m => walk_at "own"); intro _ _))
local macro_rules | `(tactic| walk_at "st") => `(tactic| first
  | ((with_reducible refine' r_var ?h ?_); (case h => walk_at "ga"))
  | (with_reducible refine' r_seq ?_) | (with_reducible refine' r_next ?_) | (with_reducible refine' r_asg ?_) | (with_reducible refine' r_drop ?_) | (with_reducible refine' r_ret ?_) | (with_reducible refine' r_retN ?_)
  | (with_reducible refine' r_ifs ?_) | (with_reducible refine' r_cont ?_) | (with_reducible refine' r_break ?_) | (with_reducible refine' r_c ?_) | (with_reducible refine' r_op ?_) | (with_reducible refine' r_un ?_)
  | (with_reducible refine' r_test ?_) | (with_reducible refine' r_tB ?_) | (with_reducible refine' r_not ?_) | (with_reducible refine' r_and ?_) | (with_reducible refine' r_or ?_) | (with_reducible refine' r_notV ?_)
  | (with_reducible refine' r_andV ?_) | (with_reducible refine' r_orV ?_) | (with_reducible refine' r_ifE ?_) | (with_reducible refine' r_bl ?_) | (with_reducible refine' r_nil ?_) | (with_reducible refine' r_cons ?_)
  | (with_reducible refine' r_tup ?_) | (with_reducible refine' r_lst ?_) | (with_reducible refine' r_cb ?_) | (with_reducible refine' r_call ?_) | ((with_reducible refine' r_name ?h ?_); (case h => walk_at "sa")) | (with_reducible refine' r_gnil ?_)
  | (with_reducible refine' r_gcons ?_) | (with_reducible refine' r_gsub ?_) | (with_reducible refine' r_par ?_) | (with_reducible refine' r_par2 ?_) | (with_reducible refine' r_I0 ?_) | (with_reducible refine' r_U ?_)
  | ((with_reducible refine' r_eq ?h ?_); (case h => rfl)) | ((with_reducible refine' r_ne ?h ?_); (case h => rfl))
  | ((with_reducible refine' r_ixL ?h ?a ?_); (case h => walk_at "sql"); (case a => rfl))
  | ((with_reducible refine' r_ixT ?h ?a ?_); (case h => walk_at "sqt"); (case a => rfl))
  | ((with_reducible refine' r_setL ?h ?a ?_); (case h => walk_at "hp"); (case a => rfl))
  | ((with_reducible refine' r_I ?c ?_); (case c => walk_at "side"))
  | (with_reducible refine' r_sl ?_) | (with_reducible refine' r_part ?_) | (with_reducible refine' r_nopart ?_) | (with_reducible refine' r_ii ?_)
  | ((with_reducible refine' r_slL ?h ?_); (case h => walk_at "sql"))
  | (with_reducible refine' r_bm ?_) | (with_reducible refine' r_bm0 ?_) | (with_reducible refine' r_int1 ?_) | (with_reducible refine' r_int1b ?_)
  | ((with_reducible refine' r_aug ?h ?_); (case h => walk_at "ga"))
  | ((with_reducible refine' r_cat ?a ?b ?z ?_); (case a => walk_at "hp"); (case b => walk_at "hp"); (case z => walk_at "siz"))
  | ((with_reducible refine' r_append ?a ?z ?_); (case a => walk_at "hp"); (case z => walk_at "siz"))
  | ((with_reducible refine' And.intro ?z ?_); (case z => first | walk_at "siz" | exact Or.inl ⟨rfl, _, by walk_at "sql"⟩))
  | ((with_reducible refine' r_gtup ?h ?l ?_); (case h => walk_at "sqt"); (case l => rfl))
  | (with_reducible refine' r_forL ?_) | (with_reducible refine' r_forE ?_) | (with_reducible refine' r_forR ?_) | ((with_reducible refine' r_forL2 ?h ?_); (case h => walk_at "sql")) | ((with_reducible refine' r_forE2 ?h ?_); (case h => walk_at "sql"))
  | (with_reducible refine' r_lcR ?_) | ((with_reducible refine' r_iteT ?h ?_); (case h => rfl)) | ((with_reducible refine' r_iteF ?h ?_); (case h => rfl))
  | (with_reducible refine' r_dnew ?_) | (with_reducible refine' r_vei ?_) | (with_reducible refine' r_ost ?_) | (with_reducible refine' r_mkV ?_) | (with_reducible refine' r_mkX ?_) | (with_reducible refine' r_xfld ?_)
  | ((with_reducible refine' MkG.mk ?o ?n ?k ?_); (case o => exact ErrOk.o (by assumption)); (case n => exact ErrOk.no (by assumption)); (case k => assumption); intro _ _ _ _)
  | ((with_reducible refine' AllocX.mk ?k ?_); (case k => assumption); intro _ _ _ _)
  | (with_reducible refine' r_chain ?_) | (with_reducible refine' r_lcS ?_) | (with_reducible refine' r_lcS2 ?_) | (with_reducible refine' r_lcL ?_) | (with_reducible refine' r_lcT ?_) | (with_reducible refine' r_lcI ?_) | (with_reducible refine' r_yes ?_)
  | (with_reducible refine' r_fld ?_) | (with_reducible refine' r_sfld ?_) | (with_reducible refine' r_meth ?_) | (with_reducible refine' r_make ?_) | (with_reducible refine' r_dget ?_) | (with_reducible refine' r_din ?_) | (with_reducible refine' r_dput ?_)
  | ((with_reducible refine' r_disp ?k ?_); (case k => assumption); intro _ _ _ _) | (with_reducible refine' r_pnil ?_) | (with_reducible refine' r_pcons ?_)
  | (walk_at "al") | (walk_at "up"))
local macro_rules | `(tactic| walk_at "go") => `(tactic| repeat walk_at "st")

abbrev Vw := V × Option (List V)
def okI (T : List Cl) (names : List V) : Option (List V) → Bool
  | some [a, b] => nameV a && (!inV a names && clsV T b)
  | _ => false
def fstV : Option (List V) → V
  | some (a :: _) => a
  | _ => .non
/-- the first item that is no field -/
def scan (T : List Cl) : List V → List Vw → Option V
  | _, [] => none
  | names, (x, tp) :: r => if okI T names tp = true then scan T (names ++ [fstV tp]) r else some x
/-- what is seen of an item -/
structure ItemAt (K : PySem.W.Frag) (H : Hp) (q : Vw) : Prop where
  th : Th K H q.1 q.2
  parts : ∀ ys, q.2 = some ys → ys.length ≤ 1000 ∧ ∀ y, y ∈ ys → ∃ tq, Th K H y tq
/-- a field: its name -/
def FNm (H : Hp) (x : V) (a : Str) : Prop := ∃ t b, x = .ref t ∧ H t = some (.tup [.str a, .str b]) ∧ PyData.strOk a = true ∧ PyData.strOk b = true
theorem th_ext {K : PySem.W.Frag} {H H' : Hp} {x : V} {tp : Option (List V)} (t : Th K H x tp) (e : Wc.Ext H H') : Th K H' x tp := by
  obtain ⟨⟨ty, h1, h2, h3⟩, h4, h5, h6⟩ := t
  refine ⟨⟨ty, ?_, h2, h3⟩, fun xs z => ?_, h5, h6⟩
  · cases h1 with
    | base h =>
      refine .base ?_
      cases h with
      | non => exact .non
      | bl b => exact .bl b
      | int i => exact .int i
      | str s => exact .str s
      | flt s => exact .flt s
      | lst h => exact .lst (e _ _ h)
      | frz h => exact .frz (e _ _ h)
      | tup h => exact .tup (e _ _ h)
      | dK h => exact .dK (e _ _ h)
      | dT h => exact .dT (e _ _ h)
      | ins h c a b d g => exact .ins (e _ _ h) c a b d g
    | byt b => exact .byt b
    | set h => exact .set (e _ _ h)
    | kList h c => exact .kList h c
    | kTuple h c => exact .kTuple h c
    | kDict h c => exact .kDict h c
    | fTuple h => exact .fTuple (e _ _ h)
    | fDict h => exact .fDict (e _ _ h)
  · obtain ⟨a, h6, h7⟩ := h4 xs z
    exact ⟨a, h6, e _ _ h7⟩
/-- a for over a tuple -/
def ForT (K : PySem.W.Frag) (a : Addr) (g : TG) (tb : TS) (D : Ends) (σ : L2.St) (H : Hp) : Prop := ∃ W : Nat → Nat → L2.St → Hp → Prop, (∃ m, W 0 m σ H) ∧ ∀ i m σ H, W i m σ H →
  ((Itt K a).stop i H ∧ D.nx σ H) ∨ ((Itt K a).go i H ∧ ∃ N : L2.St → Hp → Prop, (∀ σ' H', N σ' H' → ∃ m', m' < m ∧ W (i + 1) m' σ' H') ∧ ∀ x H', (Itt K a).yld i H x H' → g x σ H' fun σ2 H2 => tb { D with nx := N, ct := N, bk := D.nx } σ2 H2)
theorem ForT.mk {K : PySem.W.Frag} {a : Addr} {xs : List V} {g : TG} {tb : TS} {D : Ends} {σ : L2.St} {H : Hp} (Pv : Nat → L2.St → Hp → Prop) (h0 : Pv 0 σ H) (hl : ∀ i σ H, i ≤ xs.length → Pv i σ H → SqT K H a xs)
    (hs : ∀ i x σ H, xs[i]? = some x → Pv i σ H → g x σ H fun σ2 H2 => tb { D with nx := Pv (i + 1), ct := Pv (i + 1), bk := D.nx } σ2 H2) (hd : ∀ σ H, Pv xs.length σ H → D.nx σ H) : ForT K a g tb D σ H := for_tup Pv h0 hl hs hd
theorem paired_get1 {α β : Type} {F : α → β → Prop} : ∀ {xs : List α} {ys : List β} {i : Nat} {x : α}, PySem.Paired F xs ys → xs[i]? = some x → ∃ y, ys[i]? = some y ∧ F x y
  | _, _, _, _, .nil, e => by simp at e
  | _, _, 0, _, .cons h _, e => by
    simp at e
    subst e
    exact ⟨_, rfl, h⟩
  | _, _, i + 1, y, .cons _ t, e => by
    obtain ⟨x, h1, h2⟩ := paired_get1 (i := i) (x := y) t (by simpa using e)
    exact ⟨x, by simpa using h1, h2⟩
theorem range_mapG {α β : Type} (l : List α) (g : α → β) : (List.range l.length).filterMap (fun i => l[i]?.map g) = l.map g := by
  have e := range_fm l (fun c => some (g c))
  rw [List.filterMap_eq_map'] at e
  rw [← e]
  simp [Option.map_eq_bind]
  rfl
section
variable {P : Program} {w : World} {K : PySem.W.Frag} {mg : Str → Option Value} {base : Heap} {f : Addr} {fd : FuncData} {CK CR NC NF TK : Addr}
theorem r_forT {D : Ends} {σ : L2.St} {H : Hp} {g : TG} {tb : TS} {tl : TE} (h : tl σ H fun x H1 => ∃ a, x = .ref a ∧ (∃ xs, SqT K H1 a xs) ∧ ForT K a g tb D σ H1) : tFor (iTup K tl) g tb D σ H := h
def spOwn (K : PySem.W.Frag) (CK CR NF : Addr) : Sp := fun vs H Q E => ∃ r kd tl T n p c as fl tf, vs = [.ref r, .str p, fl] ∧ RtAt CK CR H r kd tl T n ∧ findC T p = some c ∧ Paired (FNm H) c.all as ∧ as.length ≤ 1000 ∧ Th K H fl tf ∧
  (∀ xs, tf = some xs → xs.length ≤ 3 → ∃ vw : List Vw, vw.map (·.1) = xs ∧ (∀ q, q ∈ vw → ItemAt K H q) ∧ (∀ x, scan T (as.map V.str) vw = some x → ExTo E H NF "field" x) ∧
    (scan T (as.map V.str) vw = none → ∀ a H', Wc.Ext H H' → H' a = some (.tup (c.all ++ xs)) → Q (.ref a) H')) ∧
  ((tf = none ∨ ∃ xs, tf = some xs ∧ 3 < xs.length) → ExTo E H NF "field" fl)
abbrev NN_own_fields : List Str := ["runtime", "parent", "fields", "names", "item", "name", "bound"]
theorem ok_own_fields (F : FnP K "own_fields" s_own_fields f fd) (T : Bt mg) (C : Cs K CK CR) (E_NoField : ErrOk P w K mg base "NoField" NF "field") (D_is_name : DfOk P w K mg base CX0 1 "is_name" ["thing"] (spIsName K))
    (D_is_class : DfOk P w K mg base CX0 2 "is_class" ["runtime", "name"] (spIsClass K CK CR)) :
    FnOk P w K mg base (L2.CX P w) 3 f fd ["runtime", "parent", "fields"] (spOwn K CK CR NF) := by
  obtain ⟨tM, hM⟩ := T.MOST
  refine F.ok sc_own_fields (fun vs H Q E h => ?_) (fun cdv A outer s H vs Q E hr h => ?_)
  · obtain ⟨r, kd, tl, T, n, p, c, as, fl, tf, rfl, _⟩ := h
    rfl
  · refine ⟨_, (pss_cons (ps_if (PW.pt (pw_or (pt_not (pt_val (pe_callB call_isi (by rfl) T.f_isinstance PyProof.Rows.boot_isinstance (pa_cons (pv 2) (pa_cons (pe_bltn (v := .ty "tuple") (by rfl) T.f_tuple PyProof.Rows.boot_tuple rfl) pa_nil))))) (pw_or1 (pt_cmpR op_gt (pe_callB call_len_seq (by rfl) T.f_len PySem.boot_len (pa_cons (pv 2) pa_nil)) (pe_glob (v := .int 3) (by rfl) hM ⟨_, rfl⟩) (nomark _))))) (pss_one (ps_raiseE rfl (takes_of rfl rfl rfl rfl) E_NoField hr (pv 2))) pss_nil)
      (pss_cons (ps_setLc (i := 3) (own := [("name", 5), ("bound", 6)]) (g := (gTup K 2 (gCons (gName 5) (gCons (gName 6) gNil)))) rfl sc_own_fields.nd rfl rfl (sw_true rfl rfl rfl (by decide +kernel)) (pi_tup (pe_fld (pe_dget (un1 hr) (pe_fld (pv 0) rfl) (pv 1) (fun _ _ => rfl)) rfl)) (blkOk_by (N := NN_own_fields) (sc := defScope s_own_fields) (by decide +kernel)) (fun _ _ _ _ _ => (pg_tup rfl (pgs_cons (pg_name (i := 5) sc_own_fields.nd rfl (by first | exact Or.inl rfl | exact Or.inr rfl)) (pgs_cons (pg_name (i := 6) sc_own_fields.nd rfl (by first | exact Or.inl rfl | exact Or.inr rfl)) pgs_nil)))) (fun _ _ _ _ _ => pts_nil) (fun _ _ _ _ _ => (pv 5)))
      (pss_cons (ps_for (passes_of rfl) rfl (pi_tup (pv 2)) (pg_name (i := 4) sc_own_fields.nd rfl (by first | exact Or.inl rfl | exact Or.inr rfl)) (pss_cons (ps_if (PW.pt (pw_or (pt_not (pt_val (pe_callB call_isi (by rfl) T.f_isinstance PyProof.Rows.boot_isinstance (pa_cons (pv 4) (pa_cons (pe_bltn (v := .ty "tuple") (by rfl) T.f_tuple PyProof.Rows.boot_tuple rfl) pa_nil))))) (pw_or (pt_cmpR op_ne (pe_callB call_len_seq (by rfl) T.f_len PySem.boot_len (pa_cons (pv 4) pa_nil)) pe_int (nomark _)) (pw_or (pt_not (pt_val (pe_callD D_is_name hr (pa_cons (pe_ix ix_tup (pv 4) pe_int (fun _ _ => rfl)) pa_nil)))) (pw_or1 (pt_cmpR op_in_seq (pe_ix ix_tup (pv 4) pe_int (fun _ _ => rfl)) (pv 3) (by rfl))))))) (pss_one (ps_raiseE rfl (takes_of rfl rfl rfl rfl) E_NoField hr (pv 4))) pss_nil)
      (pss_cons (ps_if (pt_not (pt_val (pe_callD D_is_class hr (pa_cons (pv 0) (pa_cons (pe_ix ix_tup (pv 4) pe_int (fun _ _ => rfl)) pa_nil))))) (pss_one (ps_raiseE rfl (takes_of rfl rfl rfl rfl) E_NoField hr (pv 4))) pss_nil)
      (pss_one (ps_expr (pe_bm PySem.F.plainAttrs_list PySem.F.slot_list_append PySem.F.type_list_append mt_append (pv 3) (pa_cons (pe_ix ix_tup (pv 4) pe_int (fun _ _ => rfl)) pa_nil)))))))
      (pss_one (ps_ret (pe_op op_catA (pe_fld (pe_dget (un1 hr) (pe_fld (pv 0) rfl) (pv 1) (fun _ _ => rfl)) rfl) (pv 2))))))), ?_⟩
    obtain ⟨r, kd, tl, T, n, p, c, as, fl, tf, rfl, R, hc, hp, hz, th, k1, k2⟩ := h
    rw [show L2.start ["runtime", "parent", "fields", "names", "item", "name", "bound"] [V.ref r, V.str p, fl] = ([some (V.ref r), some (V.str p), some (fl), none, none, none, none] : List (Option V)) from rfl]
    have kh := KH.start (H := H)
    obtain ⟨⟨dx, fs, h1, _⟩, ⟨kvs, h2, bn⟩, _⟩ := id R
    obtain ⟨v, hv, q, dx2, ft, rfl, hq, hft⟩ := bn.some hc
    obtain ⟨ty, t1, t2, t3⟩ := th.ty
    walk_at "go"
    refine r_isi (.ty _) t1 t3 ?_
    walk_at "go"
    cases tf with
    | none =>
      walk_at "go"
      exact RsG.mk E_NoField.o E_NoField.no (k2 (.inl rfl))
    | some xs =>
      obtain ⟨a, rfl, ha⟩ := th.tup xs rfl
      walk_at "go"
      refine ⟨a, xs, rfl, .inr (SqT.of ha), ?_⟩
      walk_at "go"
      by_cases hl : 3 < xs.length
      · rw [show decide ((xs.length : Int) > 3) = true from decide_eq_true (by omega)]
        walk_at "go"
        exact RsG.mk E_NoField.o E_NoField.no (k2 (.inr ⟨xs, rfl, hl⟩))
      · rw [show decide ((xs.length : Int) > 3) = false from decide_eq_false (by omega)]
        obtain ⟨vw, hvw, hit, hbad, hgood⟩ := k1 xs rfl (by omega)
        walk_at "go"
        refine FldAt.mk h1 C.r C.r_kinds rfl ?_
        walk_at "go"
        refine dget_mk h2 hv ?_
        refine FldAt.mk hq C.k C.k_fields rfl ?_
        have hla : c.all.length = as.length := Paired.length hp
        refine ⟨ft, rfl, ⟨_, SqT.of hft⟩, ?_⟩
        refine lcJ (walk_tup (xs := c.all)) (fun i => as[i]?.map V.str) (by omega) (fun _ e => SqT.of (e _ _ hft)) ?_ ?_
        · rintro i x H1 H2 R' N hi e1 ⟨rfl, hx⟩ hR hN
          obtain ⟨a1, ha1, t, b, rfl, ht, _⟩ := paired_get1 hp hx
          have ht1 := e1 _ _ ht
          walk_at "go"
          refine ⟨rfl, ?_⟩
          walk_at "go"
          exact hR _ _ (by rw [ha1] <;> rfl) (Wc.Ext.refl _)
        · intro q2 H1 nq e1 hl1
          rw [hla, range_mapG] at hl1
          have kq := (KH.start (H := H)).consN e1 nq hl1
          walk_at "go"
          refine r_forT ?_
          walk_at "go"
          refine ⟨a, rfl, ⟨xs, SqT.of (e1 _ _ ha)⟩, ?_⟩
          refine ForT.mk (xs := xs) (fun i σ H2 => (∃ v4 v5 v6 : Option V, σ = [some (.ref r), some (.str p), some (.ref a), some (.ref q2), v4, v5, v6]) ∧ ∃ nm, KH H [] [(q2, .lst nm)] H2 ∧ scan T (as.map V.str) vw = scan T nm (vw.drop i) ∧ nm.all flatV = true ∧ nm.length ≤ as.length + i)
            ⟨⟨_, _, _, rfl⟩, _, kq, rfl, by rw [List.all_map]; exact List.all_eq_true.mpr fun _ _ => rfl, by rw [List.length_map]; exact Nat.le_refl _⟩ (fun i σ H2 _ z => by
              obtain ⟨_, nm, kz, _⟩ := z
              exact SqT.of (kz.extE _ _ ha)) ?_ ?_
          · rintro i x σ H2 hx ⟨⟨v4, v5, v6, rfl⟩, nm, kn, hs, hf, hn⟩
            have hi : i < xs.length := (List.getElem?_eq_some_iff.mp hx).1
            obtain ⟨tp, hw⟩ : ∃ tp, vw[i]? = some (x, tp) := by
              rw [← hvw, List.getElem?_map] at hx
              obtain ⟨z, hz1, hz2⟩ := Option.map_eq_some_iff.mp hx
              exact ⟨z.2, by rw [hz1, ← hz2]⟩
            have hdr : vw.drop i = (x, tp) :: vw.drop (i + 1) := by
              obtain ⟨hlt, hg⟩ := List.getElem?_eq_some_iff.mp hw
              rw [List.drop_eq_getElem_cons hlt, hg]
            rw [hdr] at hs
            have e02 := kn.extE
            have bad : okI T nm tp = false → ExTo E H2 NF "field" x := fun z => (hbad x (by rw [hs]; show (if _ then _ else _) = _; rw [if_neg (by rw [z]; simp)])).ext e02
            have I := hit _ (List.mem_of_getElem? hw)
            have thx := th_ext I.th e02
            obtain ⟨ty, t1, t2, t3⟩ := thx.ty
            walk_at "go"
            refine r_isi (.ty _) t1 t3 ?_
            walk_at "go"
            cases tp with
            | none =>
              walk_at "go"
              exact RsG.mk E_NoField.o E_NoField.no (bad rfl)
            | some ys =>
              obtain ⟨ay, rfl, hay⟩ := thx.tup ys rfl
              walk_at "go"
              refine ⟨ay, ys, rfl, .inr (SqT.of hay), ?_⟩
              walk_at "go"
              match ys, hay, I, bad, hs with
              | [], hay, I, bad, hs =>
                walk_at "go"
                exact RsG.mk E_NoField.o E_NoField.no (bad rfl)
              | [_], hay, I, bad, hs =>
                walk_at "go"
                exact RsG.mk E_NoField.o E_NoField.no (bad rfl)
              | (_ :: _ :: y3 :: ys), hay, I, bad, hs =>
                rw [show decide (V.int (((_ :: _ :: y3 :: ys : List V).length : Nat) : Int) = V.int 2) = false from decide_eq_false (fun z => by have z := V.int.inj z; simp at z; omega)]
                walk_at "go"
                exact RsG.mk E_NoField.o E_NoField.no (bad rfl)
              | [y0, y1], hay, I, bad, hs =>
                walk_at "go"
                obtain ⟨tq0, th0⟩ := (I.parts _ rfl).2 y0 (by simp)
                obtain ⟨tq1, th1⟩ := (I.parts _ rfl).2 y1 (by simp)
                refine ⟨y0, tq0, rfl, th_ext th0 e02, fun H3 e3 => ?_⟩
                have k3 := kn.ext e3
                have hay3 := e3 _ _ hay
                walk_at "go"
                cases h0 : nameV y0 with
                | false =>
                  walk_at "go"
                  exact RsG.mk E_NoField.o E_NoField.no ((bad (by show (_ && _) = false; rw [h0]; rfl)).ext e3)
                | true =>
                  walk_at "go"
                  refine ⟨q2, nm, rfl, .inl (SqL.of (k3.find .here)), by (cases y0 <;> first | rfl | cases h0), hf, ?_⟩
                  walk_at "go"
                  cases h3 : inV y0 nm with
                  | true =>
                    walk_at "go"
                    exact RsG.mk E_NoField.o E_NoField.no ((bad (by show (_ && (!inV y0 nm && _)) = false; rw [h3]; simp)).ext e3)
                  | false =>
                    walk_at "go"
                    refine ⟨r, kd, tl, T, n, y1, tq1, rfl, R.ext (e02.trans e3), th_ext th1 (e02.trans e3), fun H4 e4 => ?_⟩
                    have k4 := k3.ext e4
                    have hay4 := e4 _ _ hay3
                    walk_at "go"
                    cases h4 : clsV T y1 with
                    | false =>
                      walk_at "go"
                      exact RsG.mk E_NoField.o E_NoField.no ((bad (by show (_ && (_ && clsV T y1)) = false; rw [h4]; simp)).ext (e3.trans e4))
                    | true =>
                      walk_at "go"
                      rename_i H5 k5
                      refine ⟨⟨_, _, _, rfl⟩, _, k5, ?_, ?_, ?_⟩
                      · rw [hs]
                        show (if okI T nm (some [y0, y1]) = true then _ else _) = _
                        rw [if_pos (by show (nameV y0 && (!inV y0 nm && clsV T y1)) = true; rw [h0, h3, h4]; rfl)]
                        rfl
                      · rw [List.all_append, hf]
                        cases y0 <;> first | rfl | cases h0
                      · rw [List.length_append]
                        show nm.length + 1 ≤ _
                        omega
          · rintro σ H2 ⟨⟨v4, v5, v6, rfl⟩, nm, kn, hs, hf, hn⟩
            have hvl : vw.length = xs.length := by rw [← hvw, List.length_map]
            rw [← hvl, List.drop_length] at hs
            have good := hgood hs
            have e02 := kn.extE
            walk_at "go"
            refine FldAt.mk (e02 _ _ h1) C.r C.r_kinds rfl ?_
            walk_at "go"
            refine dget_mk (rd_ext h2 e02) hv ?_
            refine FldAt.mk (e02 _ _ hq) C.k C.k_fields rfl ?_
            walk_at "go"
            refine ⟨ft, a, c.all, xs, rfl, rfl, SqT.of (e02 _ _ hft), SqT.of (e02 _ _ ha), sz_of (by omega), fun z => ?_, fun z1 z2 => ?_, fun z1 z2 p' hp' => ?_⟩
            · exact good a H2 e02 (by rw [z]; exact e02 _ _ ha)
            · exact good ft H2 e02 (by rw [z2, List.append_nil]; exact e02 _ _ hft)
            · exact good p' _ (e02.trans (.new hp')) upd_same
/-- add_class(runtime, name, parent, fields=fields): what comes, in this order -/
def spAdd (K : PySem.W.Frag) (CK CR NC TK NF : Addr) : Sp := fun vs H Q E => ∃ r kd tl T n nm tn pr tp fl tf, vs = [.ref r, nm, pr, fl] ∧ RtW CK CR H r kd tl T n ∧ n < 50000 ∧ T.length < 50000 ∧ Th K H nm tn ∧ Th K H pr tp ∧ Th K H fl tf ∧
  (nameV nm = false → ExTo E H NC "name" nm) ∧
  (∀ z, nm = .str z → nameS z = true → ((findC T z).isSome = true → ExTo E H TK "name" nm) ∧
    (findC T z = none → (clsV T pr = false → ExTo E H NC "name" pr) ∧
      (clsV T pr = true → ∀ p, pr = .str p → (p = "int" → ExTo E H NC "name" pr) ∧
        (p ≠ "int" → ∀ c, findC T p = some c → ∃ as, Paired (FNm H) c.all as ∧ as.length ≤ 1000 ∧ ((tf = none ∨ ∃ xs, tf = some xs ∧ 3 < xs.length) → ExTo E H NF "field" fl) ∧
          (∀ xs, tf = some xs → xs.length ≤ 3 → ∃ vw : List Vw, vw.map (·.1) = xs ∧ (∀ q, q ∈ vw → ItemAt K H q) ∧ (∀ x, scan T (as.map V.str) vw = some x → ExTo E H NF "field" x) ∧
            (scan T (as.map V.str) vw = none → ∀ H', Fr [kd, tl] H H' → RtW CK CR H' r kd tl (T ++ [⟨z, some p, xs, c.all ++ xs, n + 1⟩]) (n + 1) → Q (.int ((n + 1 : Nat) : Int)) H'))))))
theorem ItemAt.ext {K : PySem.W.Frag} {H H' : Hp} {q : Vw} (I : ItemAt K H q) (e : Wc.Ext H H') : ItemAt K H' q := ⟨th_ext I.th e, fun ys z => ⟨(I.parts ys z).1, fun y hy => by
  obtain ⟨tq, t⟩ := (I.parts ys z).2 y hy
  exact ⟨tq, th_ext t e⟩⟩⟩
theorem FNm.ext {H H' : Hp} {x : V} {a : Str} (h : FNm H x a) (e : Wc.Ext H H') : FNm H' x a := by
  obtain ⟨t, b, h1, h2, h3⟩ := h
  exact ⟨t, b, h1, e _ _ h2, h3⟩
theorem ok_add_class (F : FunD K "add_class" "add_class" (defArgs s_add_class) (defBody s_add_class) (defScope s_add_class) [] [] f fd) (T : Bt mg) (C : Cs K CK CR) (E_NoClass : ErrOk P w K mg base "NoClass" NC "name") (E_Taken : ErrOk P w K mg base "Taken" TK "name")
    (D_is_name : DfOk P w K mg base CX0 1 "is_name" ["thing"] (spIsName K)) (D_check_class : DfOk P w K mg base (L2.CX P w) 3 "check_class" ["runtime", "name"] (spCheck K CK CR NC)) (D_own_fields : DfOk P w K mg base (L2.CX P w) 3 "own_fields" ["runtime", "parent", "fields"] (spOwn K CK CR NF))
    (M_newest : MtOk P w K mg base CX0 1 CR "newest" ["self"] (spNewest CK CR)) (M_table : MtOk P w K mg base CX0 1 CR "table" ["self", "world"] (spTable CK CR)) (M_add_world : MtOk P w K mg base CX0 2 CR "add_world" ["self", "table"] (spAddWorld CK CR))
    (K_Kind : MkOk P w K mg base CX0 1 "Kind" CK ["self", "parent", "fields", "since"] (spKind CK)) :
    FnOk P w K mg base (L2.CX P w) 4 f fd ["runtime", "name", "parent", "fields"] (spAdd K CK CR NC TK NF) := by
  refine F.ok sc_add_class (fun vs H Q E h => ?_) (fun cdv A outer s H vs Q E hr h => ?_)
  · obtain ⟨r, kd, tl, T, n, nm, tn, pr, tp, fl, tf, rfl, _⟩ := h
    rfl
  · refine ⟨_, (pss_cons (ps_if (pt_not (pt_val (pe_callD D_is_name hr (pa_cons (pv 1) pa_nil)))) (pss_one (ps_raiseE rfl (takes_of rfl rfl rfl rfl) E_NoClass hr (pv 1))) pss_nil)
      (pss_cons (ps_if (pt_cmp (pc_din (un1 hr) (pv 1) (pe_fld (pv 0) rfl))) (pss_one (ps_raiseE rfl (takes_of rfl rfl rfl rfl) E_Taken hr (pv 1))) pss_nil)
      (pss_cons (ps_expr (pe_callDX (E := E) D_check_class hr (passes_call (takes_of rfl rfl rfl rfl) (fun _ _ _ _ z => z)) (pa_cons (pv 0) (pa_cons (pv 2) pa_nil))))
      (pss_cons (ps_if (pt_cmpR op_eq (pv 2) pe_str (nomark _)) (pss_one (ps_raiseE rfl (takes_of rfl rfl rfl rfl) E_NoClass hr (pv 2))) pss_nil)
      (pss_cons (ps_set (i := 4) sc_add_class.nd rfl (by first | exact Or.inl rfl | exact Or.inr rfl) (pe_callDX (E := E) D_own_fields hr (passes_call (takes_of rfl rfl rfl rfl) (fun _ _ _ _ z => z)) (pa_cons (pv 0) (pa_cons (pv 2) (pa_cons (pv 3) pa_nil)))))
      (pss_cons (ps_set (i := 5) sc_add_class.nd rfl (by first | exact Or.inl rfl | exact Or.inr rfl) (pe_methC M_add_world hr (pv 0) (pa_cons (pe_methC M_table hr (pv 0) (pa_cons (pe_methC0 M_newest hr (pv 0)) pa_nil)) pa_nil)))
      (pss_cons (ps_dput (un1 hr) (pe_fld (pv 0) rfl) (pv 1) (pe_makeC K_Kind hr (pa_cons (pv 2) (pa_cons (pv 4) (pa_cons (pv 5) pa_nil)))) rfl)
      (pss_one (ps_ret (pv 5)))))))))), ?_⟩
    obtain ⟨r, kd, tl, T, n, nm, tn, pr, tp, fl, tf, rfl, R, hn, hT, thn, thp, thf, k0, k1⟩ := h
    rw [show L2.start ["runtime", "name", "parent", "fields", "every", "world"] [V.ref r, nm, pr, fl] = ([some (V.ref r), some (nm), some (pr), some (fl), none, none] : List (Option V)) from rfl]
    have kh := KH.start (H := H)
    walk_at "go"
    refine ⟨nm, tn, rfl, thn, fun H1 e1 => ?_⟩
    walk_at "go"
    cases hnm : nameV nm with
    | false =>
      walk_at "go"
      exact RsG.mk E_NoClass.o E_NoClass.no ((k0 hnm).ext e1)
    | true =>
      obtain ⟨z, rfl, hz⟩ := thn.isS (by cases nm <;> first | rfl | cases hnm)
      obtain ⟨kA, kB⟩ := k1 z rfl hnm
      obtain ⟨⟨dx, fs, h1, hs1, hs2, hs3⟩, ⟨kvs, h2, bn⟩, _⟩ := id R.at_
      walk_at "go"
      refine FldAt.mk (e1 _ _ h1) C.r C.r_kinds rfl ?_
      refine din_mkR (rd_ext h2 e1) ?_
      rw [bn.isSome]
      walk_at "go"
      cases hf : findC T z with
      | some c0 =>
        walk_at "go"
        exact RsG.mk E_Taken.o E_Taken.no ((kA (by rw [hf] <;> rfl)).ext e1)
      | none =>
        obtain ⟨kC, kD⟩ := kB hf
        walk_at "go"
        refine ⟨r, kd, tl, T, n, pr, tp, rfl, R.at_.ext e1, th_ext thp e1, fun hc H2 e2 => ?_, fun hc => (kC hc).ext e1⟩
        obtain ⟨p, rfl⟩ : ∃ p, pr = .str p := by
          cases pr <;> first | exact ⟨_, rfl⟩ | cases hc
        obtain ⟨kE, kF⟩ := kD hc p rfl
        have e02 := e1.trans e2
        walk_at "go"
        by_cases hp : p = "int"
        · rw [show decide (V.str p = V.str "int") = true from decide_eq_true (by rw [hp])]
          walk_at "go"
          exact RsG.mk E_NoClass.o E_NoClass.no ((kE hp).ext e02)
        · rw [show decide (V.str p = V.str "int") = false from decide_eq_false (fun z => hp (V.str.inj z))]
          walk_at "go"
          obtain ⟨c, hcp⟩ : ∃ c, findC T p = some c := by
            cases q : findC T p with
            | some c => exact ⟨c, rfl⟩
            | none =>
              have hc : (nameS p && (findC T p).isSome) = true := hc
              rw [q] at hc
              simp at hc
          obtain ⟨as, ha, hal, kG, kH'⟩ := kF hp c hcp
          refine ⟨r, kd, tl, T, n, p, c, as, fl, tf, rfl, R.at_.ext e02, hcp, Paired.mapP ha fun _ _ z => z.ext e02, hal, th_ext thf e02, fun xs hx hxl => ?_, fun z => (kG z).ext e02⟩
          obtain ⟨vw, hv1, hv2, hv3, hv4⟩ := kH' xs hx hxl
          refine ⟨vw, hv1, fun q hq => (hv2 q hq).ext e02, fun x hx => (hv3 x hx).ext e02, fun hsc ev H3 e3 hev => ?_⟩
          have good := hv4 hsc
          have e03 := e02.trans e3
          have R3 := R.at_.ext e03
          walk_at "go"
          refine ⟨r, dx, _, rfl, e03 _ _ h1, hs3, ?_⟩
          walk_at "go"
          refine ⟨r, dx, _, rfl, e03 _ _ h1, hs2, ?_⟩
          walk_at "go"
          refine ⟨r, dx, _, rfl, e03 _ _ h1, hs1, ?_⟩
          walk_at "go"
          refine ⟨r, kd, tl, T, n, rfl, R3, ?_⟩
          walk_at "go"
          refine ⟨r, kd, tl, T, n, n, rfl, R3, Nat.le_refl _, fun tv => ?_⟩
          walk_at "go"
          refine ⟨r, kd, tl, T, n, tv, rfl, R3, hn, fun H4 f4 R4 => ?_⟩
          have k4 := KH.start (H := H4)
          walk_at "go"
          refine mkKind k4 fun x dx2 H5 nx k5 => ?_
          have e45 := k5.extE
          have R5 := R4.ext e45
          obtain ⟨⟨dx5, fs5, h5, _⟩, ⟨kvs5, hk5, bn5⟩, xs5, ht5, hl5⟩ := id R5
          obtain ⟨kvs0, hkd0⟩ := R.kd
          obtain ⟨xs3, ht3, _⟩ := R3.tl
          have nkt : kd ≠ tl := ne_of (e03 _ _ hkd0) ht3 (by intro z; cases z)
          have hkd5 : H5 kd = some (.dK kvs0) := e45 _ _ (f4 _ _ (by simpa using nkt) (e03 _ _ hkd0))
          obtain rfl : kvs5 = kvs0 := by
            rcases hk5 with hk5 | ⟨_, hk5⟩ <;> rw [hkd5] at hk5 <;> cases hk5
            rfl
          walk_at "go"
          refine FldAt.mk h5 C.r C.r_kinds rfl ?_
          walk_at "go"
          refine ⟨kd, _, rfl, DPut.k (k := .inr z) hkd5 (by have := bn5.length; exact sz_lt (by omega)), ?_⟩
          walk_at "go"
          have mo5 : Mo H5 (upd H5 kd (.dK (putK kvs5 (.inr z) (.ref x)))) := Mo.upd hkd5 rfl
          have mo3 : Mo H3 H4 := Mo.fr1 f4 ht3 rfl
          refine good _ (fun a o ha0 h0 => ?_) ⟨⟨⟨dx5, fs5, mo5 _ _ rfl h5, by assumption⟩, ⟨_, .inl upd_same, (bn5.mono fun _ _ z => z.mo mo5).put hf ⟨x, dx2, ev, rfl, mo5 _ _ rfl (k5.find .here), mo5 _ _ rfl (e45 _ _ (mo3 _ _ rfl hev))⟩⟩, xs5, by rw [upd_ne (Ne.symm nkt)]; exact ht5, hl5⟩, _, upd_same⟩
          have n1 : a ≠ kd := fun z => ha0 (by rw [z]; simp)
          have n2 : a ≠ tl := fun z => ha0 (by rw [z]; simp)
          rw [upd_ne n1]
          exact e45 _ _ (f4 _ _ (by simpa using n2) (e03 _ _ h0))
end
end K01

set_option Elab.async false
set_option linter.all false
set_option maxRecDepth 100000
set_option maxHeartbeats 4000000
namespace K01
open PySem L2 Wc
local macro_rules | `(tactic| walk_at "lk") => `(tactic| first | with_reducible exact Look.here | (with_reducible apply Look.there; walk_at "lk"))
local macro_rules | `(tactic| walk_at "ul") => `(tactic| first | with_reducible exact UpL.here | (with_reducible apply UpL.there; walk_at "ul"))
local macro_rules | `(tactic| walk_at "ga") => `(tactic| first | exact GetAt.here | (apply GetAt.there; walk_at "ga"))
local macro_rules | `(tactic| walk_at "sa") => `(tactic| first | exact SetAt.here | (apply SetAt.there; walk_at "sa"))
local macro_rules | `(tactic| walk_at "hp") => `(tactic| first | assumption | (refine' KH.find ?k ?h; (case k => assumption); (case h => walk_at "lk")))
local macro_rules | `(tactic| walk_at "sql") => `(tactic| first | assumption | (refine' SqL.of ?h; (case h => walk_at "hp")) | (refine' Fr.sql (KH.fr ?k) ?n ?h; (case k => assumption); (case h => assumption); (case n => (simp; done))))
local macro_rules | `(tactic| walk_at "sqt") => `(tactic| first | assumption | (refine' SqT.of ?h; (case h => walk_at "hp")))
local macro_rules | `(tactic| walk_at "side") => `(tactic| first | exact (show (0 : Int) < _ by decide) | exact (show (0 : Int) < _ by omega) | exact ⟨by decide, by decide, by decide⟩ | exact ⟨by decide, by decide, by omega⟩ | exact ⟨by decide, by decide⟩ | exact ⟨by omega, by omega⟩ | exact Or.inl ⟨by omega, by omega⟩ | exact Or.inr ⟨by omega, by omega⟩)
local macro_rules | `(tactic| walk_at "siz") => `(tactic| first | (refine sz_of ?_; first | decide | omega | (simp; done) | (simp; omega)) | (refine sz_lt ?_; first | decide | omega | (simp; done) | (simp; omega)))
local macro_rules | `(tactic| walk_at "own") => `(tactic| first | (exact Or.inr (by assumption)) | (refine Or.inl ?_; simp; done))
local macro_rules | `(tactic| walk_at "al") => `(tactic| (refine' AllocO.mk ?k ?_; (case k => assumption); intro _ _ _ _))
local macro_rules | `(tactic| walk_at "up") => `(tactic| (refine' UpdO.mk ?k ?h ?m ?_; (case k => assumption); (case h => walk_at "ul"); (case m => walk_at "own"); intro _ _))
local macro_rules | `(tactic| walk_at "st") => `(tactic| first
  | ((with_reducible refine' r_var ?h ?_); (case h => walk_at "ga"))
  | (with_reducible refine' r_seq ?_) | (with_reducible refine' r_next ?_) | (with_reducible refine' r_asg ?_) | (with_reducible refine' r_drop ?_) | (with_reducible refine' r_ret ?_) | (with_reducible refine' r_retN ?_)
  | (with_reducible refine' r_ifs ?_) | (with_reducible refine' r_cont ?_) | (with_reducible refine' r_break ?_) | (with_reducible refine' r_c ?_) | (with_reducible refine' r_op ?_) | (with_reducible refine' r_un ?_)
  | (with_reducible refine' r_test ?_) | (with_reducible refine' r_tB ?_) | (with_reducible refine' r_not ?_) | (with_reducible refine' r_and ?_) | (with_reducible refine' r_or ?_) | (with_reducible refine' r_notV ?_)
  | (with_reducible refine' r_andV ?_) | (with_reducible refine' r_orV ?_) | (with_reducible refine' r_ifE ?_) | (with_reducible refine' r_bl ?_) | (with_reducible refine' r_nil ?_) | (with_reducible refine' r_cons ?_)
  | (with_reducible refine' r_tup ?_) | (with_reducible refine' r_lst ?_) | (with_reducible refine' r_cb ?_) | (with_reducible refine' r_call ?_) | ((with_reducible refine' r_name ?h ?_); (case h => walk_at "sa")) | (with_reducible refine' r_gnil ?_)
  | (with_reducible refine' r_gcons ?_) | (with_reducible refine' r_gsub ?_) | (with_reducible refine' r_par ?_) | (with_reducible refine' r_par2 ?_) | (with_reducible refine' r_I0 ?_) | (with_reducible refine' r_U ?_)
  | ((with_reducible refine' r_eq ?h ?_); (case h => rfl)) | ((with_reducible refine' r_ne ?h ?_); (case h => rfl))
  | ((with_reducible refine' r_ixL ?h ?a ?_); (case h => walk_at "sql"); (case a => rfl))
  | ((with_reducible refine' r_ixT ?h ?a ?_); (case h => walk_at "sqt"); (case a => rfl))
  | ((with_reducible refine' r_setL ?h ?a ?_); (case h => walk_at "hp"); (case a => rfl))
  | ((with_reducible refine' r_I ?c ?_); (case c => walk_at "side"))
  | (with_reducible refine' r_sl ?_) | (with_reducible refine' r_part ?_) | (with_reducible refine' r_nopart ?_) | (with_reducible refine' r_ii ?_)
  | ((with_reducible refine' r_slL ?h ?_); (case h => walk_at "sql"))
  | (with_reducible refine' r_bm ?_) | (with_reducible refine' r_bm0 ?_) | (with_reducible refine' r_int1 ?_) | (with_reducible refine' r_int1b ?_)
  | ((with_reducible refine' r_aug ?h ?_); (case h => walk_at "ga"))
  | ((with_reducible refine' r_cat ?a ?b ?z ?_); (case a => walk_at "hp"); (case b => walk_at "hp"); (case z => walk_at "siz"))
  | ((with_reducible refine' r_append ?a ?z ?_); (case a => walk_at "hp"); (case z => walk_at "siz"))
  | ((with_reducible refine' And.intro ?z ?_); (case z => first | walk_at "siz" | exact Or.inl ⟨rfl, _, by walk_at "sql"⟩))
  | ((with_reducible refine' r_gtup ?h ?l ?_); (case h => walk_at "sqt"); (case l => rfl))
  | (with_reducible refine' r_forL ?_) | (with_reducible refine' r_forE ?_) | (with_reducible refine' r_forR ?_) | ((with_reducible refine' r_forL2 ?h ?_); (case h => walk_at "sql")) | ((with_reducible refine' r_forE2 ?h ?_); (case h => walk_at "sql"))
  | (with_reducible refine' r_lcR ?_) | ((with_reducible refine' r_iteT ?h ?_); (case h => rfl)) | ((with_reducible refine' r_iteF ?h ?_); (case h => rfl))
  | (with_reducible refine' r_dnew ?_) | (with_reducible refine' r_vei ?_) | (with_reducible refine' r_ost ?_) | (with_reducible refine' r_mkV ?_) | (with_reducible refine' r_mkX ?_) | (with_reducible refine' r_xfld ?_)
  | ((with_reducible refine' MkG.mk ?o ?n ?k ?_); (case o => exact ErrOk.o (by assumption)); (case n => exact ErrOk.no (by assumption)); (case k => assumption); intro _ _ _ _)
  | ((with_reducible refine' AllocX.mk ?k ?_); (case k => assumption); intro _ _ _ _)
  | (with_reducible refine' r_chain ?_) | (with_reducible refine' r_lcS ?_) | (with_reducible refine' r_lcS2 ?_) | (with_reducible refine' r_lcL ?_) | (with_reducible refine' r_lcT ?_) | (with_reducible refine' r_lcI ?_) | (with_reducible refine' r_yes ?_)
  | (with_reducible refine' r_fld ?_) | (with_reducible refine' r_sfld ?_) | (with_reducible refine' r_meth ?_) | (with_reducible refine' r_make ?_) | (with_reducible refine' r_dget ?_) | (with_reducible refine' r_din ?_) | (with_reducible refine' r_dput ?_)
  | ((with_reducible refine' r_disp ?k ?_); (case k => assumption); intro _ _ _ _) | (with_reducible refine' r_pnil ?_) | (with_reducible refine' r_pcons ?_)
  | (walk_at "al") | (walk_at "up"))
local macro_rules | `(tactic| walk_at "go") => `(tactic| repeat walk_at "st")

/-- a well: its list of three, so many draws at most -/
def wl (a b c : Int) : HO := .lst [.int a, .int b, .int c]
def WellOk (n : Nat) (b c : Int) : Prop := 0 ≤ b ∧ b < 2147483647 ∧ 0 ≤ c ∧ c ≤ n
def spWell : Sp := fun vs H Q _ => ∃ i : Int, vs = [.int i] ∧ ∀ (a b : Int), WellOk 0 b 0 → AllocO (wl a b 0) Q H
def spDraw : Sp := fun vs H Q _ => ∃ (p : Addr) (m a b c : Int) (n : Nat), vs = [.ref p, .int m] ∧ 0 < m ∧ m < 1073741824 ∧ H p = some (wl a b c) ∧ WellOk n b c ∧ n ≤ 1000000000 ∧
  ∀ (d a' c' : Int) (H' : Hp), 0 ≤ d → d < m → WellOk (n + 1) b c' → Fr [p] H H' → H' p = some (wl a' b c') → Q (.int d) H'
section
variable {P : Program} {w : World} {K : PySem.W.Frag} {mg : Str → Option Value} {base : Heap} {f : Addr} {fd : FuncData}
theorem ok_well (F : FnP K "_law_well" s_l_well f fd) (T : Bt mg) : FnOk P w K mg base CX0 1 f fd ["_law_cell"] spWell := by
  refine F.ok sc_l_well (fun vs H Q E h => ?_) (fun cdv A outer s H vs Q E hr h => ?_)
  · obtain ⟨i, rfl, _⟩ := h
    rfl
  · refine ⟨_, PSs.nox (pss_one (ps_ret (pe_lst (pa_cons (pe_op op_mul (pv 0) (pe_callTy call_int1 (by rfl) T.f_int PyProof.Rows.boot_int (pa_cons (pe_cmpR op_ge (pv 0) (pe_op op_pow pe_int pe_int) (nomark _)) pa_nil))) (pa_cons (pe_op op_mod (pe_callTy call_int1 (by rfl) T.f_int PyProof.Rows.boot_int (pa_cons (pv 0) pa_nil)) pe_int) (pa_cons pe_int pa_nil)))))), ?_⟩
    obtain ⟨i, rfl, k⟩ := h
    rw [show L2.start ["_law_cell"] [V.int i] = ([some (V.int i)] : List (Option V)) from rfl]
    have hb : (if decide ((10 : Int) ^ (18 : Int).toNat ≤ i) = true then (1 : Int) else 0) = 0 ∨ (if decide ((10 : Int) ^ (18 : Int).toNat ≤ i) = true then (1 : Int) else 0) = 1 := by
      split
      · exact .inr rfl
      · exact .inl rfl
    walk_at "go"
    exact k _ _ ⟨by omega, by omega, by decide, by decide⟩
theorem primes_at (c : Int) : ∃ q : Int, atI [V.int 2147483647, V.int 2147483629, V.int 2147483587, V.int 2147483579, V.int 2147483563, V.int 2147483549, V.int 2147483543] (c % 7) = some (.int q) ∧ 2147483543 ≤ q ∧ q ≤ 2147483647 := by
  have h0 := Int.emod_nonneg c (show (7 : Int) ≠ 0 by decide)
  have h1 := Int.emod_lt_of_pos c (show (0 : Int) < 7 by decide)
  generalize c % 7 = r at h0 h1
  have h : r = 0 ∨ r = 1 ∨ r = 2 ∨ r = 3 ∨ r = 4 ∨ r = 5 ∨ r = 6 := by omega
  rcases h with h | h | h | h | h | h | h <;> subst h <;> exact ⟨_, rfl, by decide, by decide⟩
theorem ok_draw (F : FnP K "_law_draw" s_l_draw f fd) (T : Bt mg) : FnOk P w K mg base CX0 1 f fd ["_law_well_here", "_law_many"] spDraw := by
  refine F.ok sc_l_draw (fun vs H Q E h => ?_) (fun cdv A outer s H vs Q E hr h => ?_)
  · obtain ⟨p, m, a, b, c, n, rfl, _⟩ := h
    rfl
  · refine ⟨_, PSs.nox (pss_cons (ps_if (pt_cmpR op_gt (pe_ix ix_list (pv 0) pe_int (fun _ _ => rfl)) pe_int (nomark _)) (pss_cons (ps_set (i := 2) sc_l_draw.nd rfl (by first | exact Or.inl rfl | exact Or.inr rfl) (pe_op op_mod (pe_callTy call_int1 (by rfl) T.f_int PyProof.Rows.boot_int (pa_cons (pe_ix ix_list (pv 0) pe_int (fun _ _ => rfl)) pa_nil)) (pv 1)))
      (pss_cons (ps_asg (pe_op op_fdiv (pe_ix ix_list (pv 0) pe_int (fun _ _ => rfl)) (pv 1)) (pg_sub (pv 0) pe_int set_list))
      (pss_one (ps_ret (pv 2))))) pss_nil)
      (pss_cons (ps_asg (pe_op op_add (pe_ix ix_list (pv 0) pe_int (fun _ _ => rfl)) pe_int) (pg_sub (pv 0) pe_int set_list))
      (pss_cons (ps_set (i := 3) sc_l_draw.nd rfl (by first | exact Or.inl rfl | exact Or.inr rfl) (pe_ix ix_list (pe_lst (pa_cons pe_int (pa_cons pe_int (pa_cons pe_int (pa_cons pe_int (pa_cons pe_int (pa_cons pe_int (pa_cons pe_int pa_nil)))))))) (pe_op op_mod (pe_callTy call_int1 (by rfl) T.f_int PyProof.Rows.boot_int (pa_cons (pe_ix ix_list (pv 0) pe_int (fun _ _ => rfl)) pa_nil)) pe_int) (fun _ _ => rfl)))
      (pss_cons (ps_set (i := 4) sc_l_draw.nd rfl (by first | exact Or.inl rfl | exact Or.inr rfl) (pe_op op_mod (pe_callTy call_int1 (by rfl) T.f_int PyProof.Rows.boot_int (pa_cons (pe_op op_pow (pe_op op_add (pe_op op_add (pe_ix ix_list (pv 0) pe_int (fun _ _ => rfl)) (pe_op op_mul pe_int (pe_ix ix_list (pv 0) pe_int (fun _ _ => rfl)))) pe_int) pe_int) pa_nil)) (pv 3)))
      (pss_cons (ps_set (i := 4) sc_l_draw.nd rfl (by first | exact Or.inl rfl | exact Or.inr rfl) (pe_op op_mod (pe_callTy call_int1 (by rfl) T.f_int PyProof.Rows.boot_int (pa_cons (pe_op op_mul (pe_op op_add (pv 4) (pe_ix ix_list (pv 0) pe_int (fun _ _ => rfl))) (pe_op op_add (pe_op op_fdiv (pv 4) pe_int) pe_int)) pa_nil)) (pv 3)))
      (pss_one (ps_ret (pe_op op_mod (pe_callTy call_int1 (by rfl) T.f_int PyProof.Rows.boot_int (pa_cons (pe_op op_fdiv (pv 4) pe_int) pa_nil)) (pv 1))))))))), ?_⟩
    obtain ⟨p, m, a, b, c, n, rfl, m0, m1, hp, ⟨b0, b1, c0, c1⟩, hn, k⟩ := h
    rw [show L2.start ["_law_well_here", "_law_many", "_law_digit", "_law_prime", "_law_number"] [V.ref p, V.int m] = ([some (V.ref p), some (V.int m), none, none, none] : List (Option V)) from rfl]
    have kh := KH.start1 hp
    walk_at "go"
    split
    · walk_at "go"
      rename_i H1 k1
      exact k _ _ _ H1 (Int.emod_nonneg _ (by omega)) (Int.emod_lt_of_pos _ m0) ⟨b0, b1, c0, by omega⟩ k1.fr (k1.find .here)
    · walk_at "go"
      rename_i H1 k1 p2 H2 n2 k2
      obtain ⟨q, hq, q0, q1⟩ := primes_at (c + 1)
      refine r_ixL (SqL.of (k2.find .here)) hq ?_
      walk_at "go"
      have x0 := Int.emod_nonneg ((b + 7919 * (c + 1) + 1) ^ Int.toNat 5) (show q ≠ 0 by omega)
      have x1 := Int.emod_lt_of_pos ((b + 7919 * (c + 1) + 1) ^ Int.toNat 5) (show 0 < q by omega)
      generalize (b + 7919 * (c + 1) + 1) ^ Int.toNat 5 % q = x at x0 x1 ⊢
      walk_at "go"
      exact k _ _ _ H2 (Int.emod_nonneg _ (by omega)) (Int.emod_lt_of_pos _ m0) ⟨b0, b1, by omega, by omega⟩ k2.fr (k2.find (.there .here))
/-- one of these: its place by a draw -/
def spOne (K : PySem.W.Frag) : Sp := fun vs H Q _ => ∃ (p l : Addr) (xs : List V) (a b c : Int) (n : Nat), vs = [.ref p, .ref l] ∧ H p = some (wl a b c) ∧ SqL K H l xs ∧ 0 < xs.length ∧ xs.length ≤ 1000000 ∧ p ≠ l ∧ WellOk n b c ∧ n ≤ 1000000000 ∧
  ∀ (x : V) (a' c' : Int) (H' : Hp), x ∈ xs → WellOk (n + 1) b c' → Fr [p] H H' → H' p = some (wl a' b c') → Q x H'
theorem ok_one (F : FnP K "_law_one" s_l_one f fd) (T : Bt mg) (D_l_draw : DfOk P w K mg base CX0 1 "_law_draw" ["_law_well_here", "_law_many"] spDraw) : FnOk P w K mg base CX0 2 f fd ["_law_well_here", "_law_some"] (spOne K) := by
  refine F.ok sc_l_one (fun vs H Q E h => ?_) (fun cdv A outer s H vs Q E hr h => ?_)
  · obtain ⟨p, l, xs, a, b, c, n, rfl, _⟩ := h
    rfl
  · refine ⟨_, PSs.nox (pss_one (ps_ret (pe_ix ix_list (pv 1) (pe_callD D_l_draw hr (pa_cons (pv 0) (pa_cons (pe_callB call_len (by rfl) T.f_len PySem.boot_len (pa_cons (pv 1) pa_nil)) pa_nil))) (fun _ _ => rfl)))), ?_⟩
    obtain ⟨p, l, xs, a, b, c, n, rfl, hp, hl, x0, x1, ne, wo, hn, k⟩ := h
    rw [show L2.start ["_law_well_here", "_law_some"] [V.ref p, V.ref l] = ([some (V.ref p), some (V.ref l)] : List (Option V)) from rfl]
    walk_at "go"
    refine ⟨_, _, rfl, .inl ⟨xs, hl, rfl⟩, ?_⟩
    walk_at "go"
    refine ⟨p, xs.length, a, b, c, n, rfl, by omega, by omega, hp, wo, hn, fun d a' c' H' d0 d1 wo' e hp' => ?_⟩
    obtain ⟨j, rfl⟩ : ∃ j : Nat, d = (j : Int) := ⟨d.toNat, by omega⟩
    have hj : j < xs.length := by omega
    refine r_ixL (e.sql (by simpa using Ne.symm ne) hl) (atI_nat (List.getElem?_eq_getElem hj)) ?_
    exact k _ a' c' H' (List.getElem_mem hj) wo' e hp'

end
/-- the law's own tree: its dict at td -/
def RowAt (H : Hp) (c : Cl) (v : V) : Prop := ∃ t hd, v = .ref t ∧ H t = some (.tup [optV c.par, .ref hd]) ∧ H hd = some (.tup c.own)
theorem RowAt.mo {H H' : Hp} {c : Cl} {v : V} (h : RowAt H c v) (e : Mo H H') : RowAt H' c v := by
  obtain ⟨t, hd, rfl, h1, h2⟩ := h
  exact ⟨t, hd, rfl, e _ _ rfl h1, e _ _ rfl h2⟩
def TrAt (H : Hp) (td : Addr) (T : List Cl) : Prop := ∃ kvs, Rd H td (.dK kvs) ∧ ByN (RowAt H) T kvs
theorem TrAt.ext {H H' : Hp} {td : Addr} {T : List Cl} (h : TrAt H td T) (e : Wc.Ext H H') : TrAt H' td T := by
  obtain ⟨kvs, h1, h2⟩ := h
  exact ⟨kvs, rd_ext h1 e, h2.mono fun _ _ z => z.mo e.mo⟩
section
variable {P : Program} {w : World} {K : PySem.W.Frag} {mg : Str → Option Value} {base : Heap} {f : Addr} {fd : FuncData} {CK CR NC NF TK WE : Addr}
def spLLine : Sp := fun vs H Q _ => ∃ td T o l, vs = [.ref td, optV o] ∧ TrAt H td T ∧ Line T o l ∧ l.length ≤ 1000 ∧ ∀ p H', H p = none → Wc.Ext H H' → H' p = some (.lst (l.map V.str)) → Q (.ref p) H'
theorem ok_lline (F : FnP K "_law_line" s_l_line f fd) (T : Bt mg) : FnOk P w K mg base CX0 1 f fd ["_law_tree", "_law_name"] spLLine := by
  refine F.ok sc_l_line (fun vs H Q E h => ?_) (fun cdv A outer s H vs Q E hr h => ?_)
  · obtain ⟨td, T, o, l, rfl, _⟩ := h
    rfl
  · refine ⟨_, PSs.nox (pss_cons (ps_set (i := 2) sc_l_line.nd rfl (by first | exact Or.inl rfl | exact Or.inr rfl) (pe_lst pa_nil))
      (pss_cons (ps_while PassesOwn.never (pt_cmpR op_notN (pv 1) pe_non (nomark _)) (pss_cons (ps_expr (pe_bm PySem.F.plainAttrs_list PySem.F.slot_list_append PySem.F.type_list_append mt_append (pv 2) (pa_cons (pv 1) pa_nil)))
      (pss_one (ps_set (i := 1) sc_l_line.nd rfl (by first | exact Or.inl rfl | exact Or.inr rfl) (pe_ix ix_tup (pe_dget (un1 hr) (pv 0) (pv 1) (fun _ _ => rfl)) pe_int (fun _ _ => rfl))))))
      (pss_one (ps_ret (pv 2))))), ?_⟩
    obtain ⟨td, T, o, l, rfl, ⟨kvs, h2, bn⟩, ln, hz, k⟩ := h
    rw [show L2.start ["_law_tree", "_law_name", "_law_found"] [V.ref td, optV o] = ([some (V.ref td), some (optV o), none] : List (Option V)) from rfl]
    have kh := KH.start (H := H)
    walk_at "go"
    rename_i p H1 np k1
    refine r_while ?_
    refine WhG.mk (fun m σ H2 => ∃ o2 done rest, σ = [some (.ref td), some (optV o2), some (.ref p)] ∧ Line T o2 rest ∧ done ++ rest = l ∧ m = rest.length ∧ KH H [] [(p, .lst (done.map V.str))] H2) l.length ⟨o, [], l, rfl, ln, rfl, rfl, k1⟩ ?_
    rintro m σ H2 ⟨o2, done, rest, rfl, ln2, hd, rfl, k2⟩
    walk_at "go"
    refine ⟨rfl, ?_⟩
    walk_at "go"
    cases ln2 with
    | nil =>
      walk_at "go"
      rw [List.append_nil] at hd
      subst hd
      exact k p H2 np k2.extE (k2.find .here)
    | @cons x c rest h t =>
      have hl : done.length + (rest.length + 1) ≤ 1000 := by
        have e := congrArg List.length hd
        rw [List.length_append, List.length_cons] at e
        omega
      refine r_iteT rfl (whN ?_)
      walk_at "go"
      rename_i H3 k3
      have e3 := k3.extE
      obtain ⟨v, hv, q, hdr, rfl, hq, hft⟩ := bn.some h
      refine dget_mk' (y := optV (some x)) rfl (rd_ext h2 e3) hv ?_
      walk_at "go"
      refine r_ixT (SqT.of (e3 _ _ hq)) rfl ?_
      walk_at "go"
      exact ⟨c.par, done ++ [x], rest, rfl, t, by rw [← hd, List.append_assoc]; rfl, rfl, by rw [List.map_append]; exact k3⟩
def spLAll : Sp := fun vs H Q _ => ∃ td T x l, vs = [.ref td, .str x] ∧ TrAt H td T ∧ Line T (some x) l ∧ l.length ≤ 1000 ∧ (ownsOf T l.reverse).length ≤ 1000 ∧ ∀ p H', H p = none → Wc.Ext H H' → H' p = some (.lst (ownsOf T l.reverse)) → Q (.ref p) H'
theorem line_mem {T : List Cl} {o : Option Str} {l : List Str} (h : Line T o l) : ∀ x, x ∈ l → ∃ c, findC T x = some c := by
  induction h with
  | nil => intro x hx; cases hx
  | cons h t ih =>
    intro x hx
    rcases List.mem_cons.mp hx with e | hx
    · exact ⟨_, by rw [e]; exact h⟩
    · exact ih x hx
theorem ok_lall (F : FnP K "_law_all_fields" s_l_all_fields f fd) (T : Bt mg) (D_l_line : DfOk P w K mg base CX0 1 "_law_line" ["_law_tree", "_law_name"] spLLine) : FnOk P w K mg base CX0 2 f fd ["_law_tree", "_law_name"] spLAll := by
  refine F.ok sc_l_all_fields (fun vs H Q E h => ?_) (fun cdv A outer s H vs Q E hr h => ?_)
  · obtain ⟨td, T, x, l, rfl, _⟩ := h
    rfl
  · refine ⟨_, PSs.nox (pss_cons (ps_set (i := 2) sc_l_all_fields.nd rfl (by first | exact Or.inl rfl | exact Or.inr rfl) (pe_lst pa_nil))
      (pss_cons (ps_for PassesOwn.never rfl (pi_list (pe_revL (pe_callD D_l_line hr (pa_cons (pv 0) (pa_cons (pv 1) pa_nil))))) (pg_name (i := 3) sc_l_all_fields.nd rfl (by first | exact Or.inl rfl | exact Or.inr rfl)) (pss_one (ps_set (i := 2) sc_l_all_fields.nd rfl (by first | exact Or.inl rfl | exact Or.inr rfl) (pe_op op_cat (pv 2) (pe_callTy call_list_of (by rfl) T.f_list PyProof.Rows.boot_list (pa_cons (pe_ix ix_tup (pe_dget (un1 hr) (pv 0) (pv 3) (fun _ _ => rfl)) pe_int (fun _ _ => rfl)) pa_nil))))))
      (pss_one (ps_ret (pv 2))))), ?_⟩
    obtain ⟨td, T, x, l, rfl, ⟨kvs, h2, bn⟩, ln, hz, ho, k⟩ := h
    rw [show L2.start ["_law_tree", "_law_name", "_law_found", "_law_one_here"] [V.ref td, V.str x] = ([some (V.ref td), some (V.str x), none, none] : List (Option V)) from rfl]
    have kh := KH.start (H := H)
    walk_at "go"
    rename_i pf H1 nf k1
    refine r_revL ?_
    walk_at "go"
    refine ⟨td, T, some x, l, rfl, (show TrAt H td T from ⟨kvs, h2, bn⟩).ext k1.extE, ln, hz, fun p2 H2 np2 e2 hl2 => ?_⟩
    have k2 := k1.consN e2 np2 hl2
    refine ⟨p2, _, rfl, SqL.of hl2, ?_⟩
    walk_at "go"
    rename_i p3 H3 np3 k3
    have hl3 := k3.find (p := p3) .here
    have n3 : H pf = none := nf
    refine ForG.mk (xs := (l.map V.str).reverse) (fun i σ H4 => ∃ (v3 : Option V) (pg : Addr), σ = [some (.ref td), some (.str x), some (.ref pg), v3] ∧ H pg = none ∧ KH H [] [(pg, .lst (ownsOf T (l.reverse.take i))), (p3, .lst (l.map V.str).reverse)] H4)
      ⟨_, pf, rfl, nf, ?_⟩ (fun i σ H4 _ z => by
        obtain ⟨_, _, _, _, kz⟩ := z
        exact SqL.of (kz.find (by walk_at "lk"))) ?_ ?_
    · exact (k3.forget.cons hl3 (by simp)).cons (show H3 pf = some (.lst (ownsOf T (l.reverse.take 0))) from k3.find (p := pf) (o := .lst []) (by walk_at "lk")) (by simpa using k3.ne 2 0 rfl rfl (by decide))
    · rintro i y σ H4 hy ⟨v3, pg, rfl, npg, k4⟩
      rw [← List.map_reverse, List.getElem?_map] at hy
      obtain ⟨z, hz1, rfl⟩ := Option.map_eq_some_iff.mp hy
      obtain ⟨c, hc⟩ := line_mem ln z (by simpa using List.mem_of_getElem? hz1)
      obtain ⟨v, hv, q, hdr, rfl, hq, hft⟩ := bn.some hc
      have e4 := k4.extE
      have htake : l.reverse.take (i + 1) = l.reverse.take i ++ [z] := by rw [List.take_succ, hz1]; rfl
      have hown : ownsOf T (l.reverse.take (i + 1)) = ownsOf T (l.reverse.take i) ++ c.own := by
        rw [htake]
        unfold ownsOf
        rw [List.flatMap_append]
        show _ ++ ((match findC T z with | some c => c.own | none => []) ++ []) = _
        rw [hc, List.append_nil]
      have hle : (ownsOf T (l.reverse.take (i + 1))).length ≤ 1000 := by
        refine Nat.le_trans ?_ ho
        have e : l.reverse = l.reverse.take (i + 1) ++ l.reverse.drop (i + 1) := (List.take_append_drop _ _).symm
        have e2 : ownsOf T l.reverse = ownsOf T (l.reverse.take (i + 1)) ++ ownsOf T (l.reverse.drop (i + 1)) := by
          rw [e]
          unfold ownsOf
          rw [List.flatMap_append, ← e]
        rw [e2, List.length_append]
        omega
      rw [hown, List.length_append] at hle
      walk_at "go"
      refine dget_mk (rd_ext h2 e4) hv ?_
      walk_at "go"
      refine r_ixT (SqT.of (e4 _ _ hq)) rfl ?_
      walk_at "go"
      refine ⟨hdr, c.own, rfl, .inr (SqT.of (e4 _ _ hft)), ?_⟩
      refine (AllocO.mk k4 (fun p5 H5 np5 k5 => ?_) : AllocO (.lst c.own) (fun y H2 => rCat (V.ref pg) y H2 _) H4)
      walk_at "go"
      rename_i p6 H6 np6 k6
      refine ⟨_, p6, rfl, np6, ?_⟩
      have ne63 : p6 ≠ p3 := k6.ne 0 3 rfl rfl (by decide)
      rw [hown]
      exact (k6.forget.cons (k6.find (by walk_at "lk")) (by simp)).cons (k6.find .here) (by simpa using ne63)
    · rintro σ H4 ⟨v3, pg, rfl, npg, k4⟩
      rw [List.length_reverse, List.length_map, List.take_of_length_le (by rw [List.length_reverse]; exact Nat.le_refl _)] at k4
      walk_at "go"
      exact k pg H4 npg k4.extE (k4.find .here)
/-- what _law_said makes of an exception -/
def Said (NC TK NF : Addr) (Q : VK) : XK := fun cls d H => ∃ (C : Addr) (tag fld : Str) (v : V) (dd : Addr), ((C = NC ∧ tag = "class" ∧ fld = "name") ∨ (C = TK ∧ tag = "taken" ∧ fld = "name") ∨ (C = NF ∧ tag = "field" ∧ fld = "field")) ∧
  cls = .ref C ∧ d = some dd ∧ H dd = some (.xd [(fld, v)]) ∧ AllocO (.tup [.str tag, v]) Q H
def TSaid (NC TK NF : Addr) : (XK → Hp → VK → Prop) → Hp → VK → Prop := fun tl H Q => tl (Said NC TK NF Q) H Q
/-- which of the three takes which -/
structure ThreeX (K : PySem.W.Frag) (NC TK NF WE : Addr) : Prop where
  cc : PySem.W.exmOne K (.ref NC) (.ref NC) = some true
  tc : PySem.W.exmOne K (.ref TK) (.ref NC) = some false
  tt : PySem.W.exmOne K (.ref TK) (.ref TK) = some true
  fc : PySem.W.exmOne K (.ref NF) (.ref NC) = some false
  ft : PySem.W.exmOne K (.ref NF) (.ref TK) = some false
  ff : PySem.W.exmOne K (.ref NF) (.ref NF) = some true
  xc : XfC K NC
  xt : XfC K TK
  xf : XfC K NF
  nc : PySem.W.findIn K (.ref NC) "name" = some none
  nt : PySem.W.findIn K (.ref TK) "name" = some none
  nf : PySem.W.findIn K (.ref NF) "field" = some none
open LamX in
theorem said_gives {X : Cx} {g : Addr} {cdg : Value} {q : Str} (h3 : ThreeX X.K NC TK NF WE) (gC : X.mg "NoClass" = some (.ref NC)) (gT : X.mg "Taken" = some (.ref TK)) (gF : X.mg "NoField" = some (.ref NF)) (gW : X.mg "WorldError" = some (.ref WE)) :
    GivesTo X ["_law_ask", "e"] "_law_said" (defScope s_l_said) g cdg (defBody s_l_said) "_law_ask" q (TSaid NC TK NF) := by
  intro f c' s H Q tl act hc h
  refine ⟨_, pss_one (ps_tryA (X := (cxOf C8.CX0 X.prog X.w X.K X.mg X.base ["_law_ask", "e"] "_law_said" (defScope s_l_said) g cdg X.A X.stack s H C8.E0).nox)
      (tb := fun W D σ H => ∃ Ech : XK, (∀ cls d (σ' : L2.St) H', σ'.length = 2 → Ech cls d H' → W cls d σ' H') ∧ σ = [some (.ref f), none] ∧ H c' = some (CodeO c' q) ∧ tl Ech H D.rt)
      rfl rfl sc_l_said.nd L2.takes0 (fun W pn xe tk _ => ?_)
      (.named (i := 1) rfl rfl ⟨rfl, by decide, .inl gC⟩ (fun a oe cls d pn hz hf => pss_one (ps_ret (pe_tup (pa_cons pe_str (pa_cons (pe_xf h3.xc h3.nc hz hf (pv 1) rfl) pa_nil)))))
        (.named (i := 1) rfl rfl ⟨rfl, by decide, .inl gT⟩ (fun a oe cls d pn hz hf => pss_one (ps_ret (pe_tup (pa_cons pe_str (pa_cons (pe_xf h3.xt h3.nt hz hf (pv 1) rfl) pa_nil)))))
          (.named (i := 1) rfl rfl ⟨rfl, by decide, .inl gF⟩ (fun a oe cls d pn hz hf => pss_one (ps_ret (pe_tup (pa_cons pe_str (pa_cons (pe_xf h3.xf h3.nf hz hf (pv 1) rfl) pa_nil)))))
            (.plain ⟨rfl, by decide, .inl gW⟩ (fun a oe cls d pn hz hf => pss_one (ps_ret (pe_tup (pa_cons pe_str (pa_cons pe_non pa_nil))))) .nil))))), ?_⟩
  · refine ⟨fun pins s' σ H' D I h' => ?_⟩
    obtain ⟨Ech, hW, h1, h2, h3⟩ := h'
    have tk2 : Takes ((cxOf C8.CX0 X.prog X.w X.K X.mg X.base ["_law_ask", "e"] "_law_said" (defScope s_l_said) g cdg X.A X.stack s H C8.E0).tr pn xe) (fun cls d σ H => σ.length = 2 → W cls d σ H) := fun u s' hx => by
      obtain ⟨a, B, sI, pi, z, H2, cls, d, e1, J, x1, x2, x3, x4, x5, x6, w⟩ := hx
      exact tk u s' ⟨a, B, sI, pi, z, H2, cls, d, e1, J, x1, x2, x3, x4, x5, x6, w J.len⟩
    exact (pss_one (ps_ret (act _ pn xe Ech _ _ tk2 fun cls d σ' H' hE hl => hW cls d σ' H' hl hE))).run pins s' σ H' D I ⟨by rw [h1] <;> rfl, h2, h3⟩
  · refine ⟨Said NC TK NF Q, fun cls d σ' H' hl hx => ?_, rfl, hc, h⟩
    obtain ⟨C, tag, fld, v, dd, hC, rfl, rfl, hdd, k⟩ := hx
    obtain ⟨y0, y1, rfl⟩ : ∃ y0 y1, σ' = [y0, y1] := by
      match σ', hl with
      | [y0, y1], _ => exact ⟨y0, y1, rfl⟩
    rcases hC with ⟨rfl, rfl, rfl⟩ | ⟨rfl, rfl, rfl⟩ | ⟨rfl, rfl, rfl⟩
    · exact ⟨true, h3.cc, fun _ a ha => ⟨_, rfl, rfl, rfl, dd, _, v, rfl, hdd, rfl, sz_of (by simp), k⟩, fun z => by cases z⟩
    · exact ⟨false, h3.tc, fun z => (by cases z), fun _ => ⟨true, h3.tt, fun _ a ha => ⟨_, rfl, rfl, rfl, dd, _, v, rfl, hdd, rfl, sz_of (by simp), k⟩, fun z => by cases z⟩⟩
    · exact ⟨false, h3.fc, fun z => (by cases z), fun _ => ⟨false, h3.ft, fun z => (by cases z), fun _ => ⟨true, h3.ff, fun _ a ha => ⟨_, rfl, rfl, rfl, dd, _, v, rfl, hdd, rfl, sz_of (by simp), k⟩, fun z => by cases z⟩⟩⟩
end
end K01

set_option Elab.async false
set_option linter.all false
set_option maxRecDepth 100000
set_option maxHeartbeats 4000000
namespace K01
open PySem L2 Wc
local macro_rules | `(tactic| walk_at "lk") => `(tactic| first | with_reducible exact Look.here | (with_reducible apply Look.there; walk_at "lk"))
local macro_rules | `(tactic| walk_at "ul") => `(tactic| first | with_reducible exact UpL.here | (with_reducible apply UpL.there; walk_at "ul"))
local macro_rules | `(tactic| walk_at "ga") => `(tactic| first | exact GetAt.here | (apply GetAt.there; walk_at "ga"))
local macro_rules | `(tactic| walk_at "sa") => `(tactic| first | exact SetAt.here | (apply SetAt.there; walk_at "sa"))
local macro_rules | `(tactic| walk_at "hp") => `(tactic| first | assumption | (refine' KH.find ?k ?h; (case k => assumption); (case h => walk_at "lk")))
local macro_rules | `(tactic| walk_at "sql") => `(tactic| first | assumption | (refine' SqL.of ?h; (case h => walk_at "hp")) | (refine' Fr.sql (KH.fr ?k) ?n ?h; (case k => assumption); (case h => assumption); (case n => (simp; done))))
local macro_rules | `(tactic| walk_at "sqt") => `(tactic| first | assumption | (refine' SqT.of ?h; (case h => walk_at "hp")))
local macro_rules | `(tactic| walk_at "side") => `(tactic| first | exact (show (0 : Int) < _ by decide) | exact (show (0 : Int) < _ by omega) | exact ⟨by decide, by decide, by decide⟩ | exact ⟨by decide, by decide, by omega⟩ | exact ⟨by decide, by decide⟩ | exact ⟨by omega, by omega⟩ | exact Or.inl ⟨by omega, by omega⟩ | exact Or.inr ⟨by omega, by omega⟩)
local macro_rules | `(tactic| walk_at "siz") => `(tactic| first | (refine sz_of ?_; first | decide | omega | (simp; done) | (simp; omega)) | (refine sz_lt ?_; first | decide | omega | (simp; done) | (simp; omega)))
local macro_rules | `(tactic| walk_at "own") => `(tactic| first | (exact Or.inr (by assumption)) | (refine Or.inl ?_; simp; done))
local macro_rules | `(tactic| walk_at "al") => `(tactic| (refine' AllocO.mk ?k ?_; (case k => assumption); intro _ _ _ _))
local macro_rules | `(tactic| walk_at "up") => `(tactic| (refine' UpdO.mk ?k ?h ?m ?_; (case k => assumption); (case h => walk_at "ul"); (case m => walk_at "own"); intro _ _))
local macro_rules | `(tactic| walk_at "st") => `(tactic| first
  | ((with_reducible refine' r_var ?h ?_); (case h => walk_at "ga"))
  | (with_reducible refine' r_seq ?_) | (with_reducible refine' r_next ?_) | (with_reducible refine' r_asg ?_) | (with_reducible refine' r_drop ?_) | (with_reducible refine' r_ret ?_) | (with_reducible refine' r_retN ?_)
  | (with_reducible refine' r_ifs ?_) | (with_reducible refine' r_cont ?_) | (with_reducible refine' r_break ?_) | (with_reducible refine' r_c ?_) | (with_reducible refine' r_op ?_) | (with_reducible refine' r_un ?_)
  | (with_reducible refine' r_test ?_) | (with_reducible refine' r_tB ?_) | (with_reducible refine' r_not ?_) | (with_reducible refine' r_and ?_) | (with_reducible refine' r_or ?_) | (with_reducible refine' r_notV ?_)
  | (with_reducible refine' r_andV ?_) | (with_reducible refine' r_orV ?_) | (with_reducible refine' r_ifE ?_) | (with_reducible refine' r_bl ?_) | (with_reducible refine' r_nil ?_) | (with_reducible refine' r_cons ?_)
  | (with_reducible refine' r_tup ?_) | (with_reducible refine' r_lst ?_) | (with_reducible refine' r_cb ?_) | (with_reducible refine' r_call ?_) | ((with_reducible refine' r_name ?h ?_); (case h => walk_at "sa")) | (with_reducible refine' r_gnil ?_)
  | (with_reducible refine' r_gcons ?_) | (with_reducible refine' r_gsub ?_) | (with_reducible refine' r_par ?_) | (with_reducible refine' r_par2 ?_) | (with_reducible refine' r_I0 ?_) | (with_reducible refine' r_U ?_)
  | ((with_reducible refine' r_eq ?h ?_); (case h => rfl)) | ((with_reducible refine' r_ne ?h ?_); (case h => rfl))
  | ((with_reducible refine' r_ixL ?h ?a ?_); (case h => walk_at "sql"); (case a => rfl))
  | ((with_reducible refine' r_ixT ?h ?a ?_); (case h => walk_at "sqt"); (case a => rfl))
  | ((with_reducible refine' r_setL ?h ?a ?_); (case h => walk_at "hp"); (case a => rfl))
  | ((with_reducible refine' r_I ?c ?_); (case c => walk_at "side"))
  | (with_reducible refine' r_sl ?_) | (with_reducible refine' r_part ?_) | (with_reducible refine' r_nopart ?_) | (with_reducible refine' r_ii ?_)
  | ((with_reducible refine' r_slL ?h ?_); (case h => walk_at "sql"))
  | (with_reducible refine' r_bm ?_) | (with_reducible refine' r_bm0 ?_) | (with_reducible refine' r_int1 ?_) | (with_reducible refine' r_int1b ?_)
  | ((with_reducible refine' r_aug ?h ?_); (case h => walk_at "ga"))
  | ((with_reducible refine' r_cat ?a ?b ?z ?_); (case a => walk_at "hp"); (case b => walk_at "hp"); (case z => walk_at "siz"))
  | ((with_reducible refine' r_append ?a ?z ?_); (case a => walk_at "hp"); (case z => walk_at "siz"))
  | ((with_reducible refine' And.intro ?z ?_); (case z => first | walk_at "siz" | exact Or.inl ⟨rfl, _, by walk_at "sql"⟩))
  | ((with_reducible refine' r_gtup ?h ?l ?_); (case h => walk_at "sqt"); (case l => rfl))
  | (with_reducible refine' r_forL ?_) | (with_reducible refine' r_forE ?_) | (with_reducible refine' r_forR ?_) | ((with_reducible refine' r_forL2 ?h ?_); (case h => walk_at "sql")) | ((with_reducible refine' r_forE2 ?h ?_); (case h => walk_at "sql"))
  | (with_reducible refine' r_lcR ?_) | ((with_reducible refine' r_iteT ?h ?_); (case h => rfl)) | ((with_reducible refine' r_iteF ?h ?_); (case h => rfl))
  | (with_reducible refine' r_dnew ?_) | (with_reducible refine' r_vei ?_) | (with_reducible refine' r_ost ?_) | (with_reducible refine' r_mkV ?_) | (with_reducible refine' r_mkX ?_) | (with_reducible refine' r_xfld ?_)
  | ((with_reducible refine' MkG.mk ?o ?n ?k ?_); (case o => exact ErrOk.o (by assumption)); (case n => exact ErrOk.no (by assumption)); (case k => assumption); intro _ _ _ _)
  | ((with_reducible refine' AllocX.mk ?k ?_); (case k => assumption); intro _ _ _ _)
  | (with_reducible refine' r_chain ?_) | (with_reducible refine' r_lcS ?_) | (with_reducible refine' r_lcS2 ?_) | (with_reducible refine' r_lcL ?_) | (with_reducible refine' r_lcT ?_) | (with_reducible refine' r_lcI ?_) | (with_reducible refine' r_yes ?_)
  | (with_reducible refine' r_fld ?_) | (with_reducible refine' r_sfld ?_) | (with_reducible refine' r_meth ?_) | (with_reducible refine' r_make ?_) | (with_reducible refine' r_dget ?_) | (with_reducible refine' r_din ?_) | (with_reducible refine' r_dput ?_)
  | ((with_reducible refine' r_disp ?k ?_); (case k => assumption); intro _ _ _ _) | (with_reducible refine' r_pnil ?_) | (with_reducible refine' r_pcons ?_)
  | (walk_at "al") | (walk_at "up"))
local macro_rules | `(tactic| walk_at "go") => `(tactic| repeat walk_at "st")

theorem okNames_str : ∀ z, z ∈ okNames → PyData.strOk z = true := by decide +kernel
def FieldsOk (H : Hp) (T : List Cl) : Prop := ∀ c, c ∈ T → ∃ as, PySem.Paired (FNm H) c.all as
theorem FNm.mo {H H' : Hp} {x : V} {a : Str} (h : FNm H x a) (e : Mo H H') : FNm H' x a := by
  obtain ⟨t, b, h1, h2, h3⟩ := h
  exact ⟨t, b, h1, e _ _ rfl h2, h3⟩
theorem FieldsOk.mo {H H' : Hp} {T : List Cl} (h : FieldsOk H T) (e : Mo H H') : FieldsOk H' T := fun c hc => by
  obtain ⟨as, p⟩ := h c hc
  exact ⟨as, Paired.mapP p fun _ _ z => z.mo e⟩
theorem flds_dp {K : PySem.W.Frag} {H : Hp} {xs : List V} {as : List Str} (h : PySem.Paired (FNm H) xs as) : ∃ ds, DpAll K H xs ds ∧ PyData.canLayAll0 ds = true ∧ PyData.depthAll ds ≤ 1 := by
  induction h with
  | nil => exact ⟨[], .nil, rfl, Nat.zero_le _⟩
  | @cons x a xs as h t ih =>
    obtain ⟨ds, i1, i2, i3⟩ := ih
    obtain ⟨p, b, rfl, h1, h2, h3⟩ := h
    refine ⟨.tuple [.str a, .str b] :: ds, .cons (.tup (SqT.of h1) (.cons (.str a) (.cons (.str b) .nil))) i1, ?_, ?_⟩
    · show (PyData.canLay0 (.tuple [.str a, .str b]) && PyData.canLayAll0 ds) = true
      rw [i2, show PyData.canLay0 (.tuple [.str a, .str b]) = true by simpa [PyData.canLay0, PyData.canLayAll0] using ⟨h2, h3⟩] <;> rfl
    · show max 1 (PyData.depthAll ds) ≤ 1
      omega
theorem flds_shaped {ds : List PyData} (h1 : PyData.canLayAll0 ds = true) (h2 : PyData.depthAll ds ≤ 1) : SeqAt.shaped (.list ds) = true := by
  show (PyData.canLay0 (.list ds) && decide (PyData.depth (.list ds) ≤ 64)) = true
  rw [show PyData.canLay0 (.list ds) = true by simpa [PyData.canLay0] using h1, show decide (PyData.depth (.list ds) ≤ 64) = true from decide_eq_true (show PyData.depthAll ds + 1 ≤ 64 by omega)]
  rfl
section
variable {P : Program} {w : World} {K : PySem.W.Frag} {mg : Str → Option Value} {base : Heap} {f : Addr} {fd : FuncData} {CK CR NC NF TK WE : Addr}
def spRight (CK CR : Addr) : Sp := fun vs H Q _ => ∃ r kd tl td T n kvs, vs = [.ref r, .ref td] ∧ RtW CK CR H r kd tl T n ∧ H td = some (.dK kvs) ∧ ByN (RowAt H) T kvs ∧ td ≠ kd ∧ WF T n ∧ n ≤ 20 ∧ FieldsOk H T ∧ ∀ H', Wc.Ext H H' → Q (.bl true) H'
theorem ok_right (F : FnP K "_law_right" s_l_right f fd) (T : Bt mg) (D_classes : DfOkD P w K mg base CX0 3 "classes" ["runtime", "world"] [.non] (spClasses CK CR))
    (D_parent : DfOk P w K mg base CX0 4 "parent" ["runtime", "name"] (spParent CK CR)) (D_fields : DfOk P w K mg base CX0 4 "fields" ["runtime", "name"] (spFields CK CR)) (D_is_below : DfOk P w K mg base CX0 4 "is_below" ["runtime", "one", "other"] (spIsBelow CK CR))
    (D_l_line : DfOk P w K mg base CX0 1 "_law_line" ["_law_tree", "_law_name"] spLLine) (D_l_all_fields : DfOk P w K mg base CX0 2 "_law_all_fields" ["_law_tree", "_law_name"] spLAll) :
    FnOk P w K mg base CX0 5 f fd ["_law_runtime", "_law_tree"] (spRight CK CR) := by
  refine F.ok sc_l_right (fun vs H Q E h => ?_) (fun cdv A outer s H vs Q E hr h => ?_)
  · obtain ⟨r, kd, tl, td, T, n, kvs, rfl, _⟩ := h
    rfl
  · refine ⟨_, PSs.nox (pss_cons (ps_if (pt_cmpR (op_neD (un64 hr)) (pe_callDf D_classes hr (pa_cons (pv 0) pa_nil)) (pe_callB (call_sortedD rfl) (by rfl) T.f_sorted PyProof.Rows.boot_sorted (pa_cons (pv 1) pa_nil)) (nomark _)) (pss_one (ps_ret pe_bl)) pss_nil)
      (pss_cons (ps_lock (ps_for PassesOwn.never rfl (pi_keys (pv 1)) (pg_name (i := 2) sc_l_right.nd rfl (by first | exact Or.inl rfl | exact Or.inr rfl)) (pss_cons (ps_if (PW.pt (pw_or (pt_cmpR op_ne (pe_callD D_parent hr (pa_cons (pv 0) (pa_cons (pv 2) pa_nil))) (pe_ix ix_tup (pe_dget (un1 hr) (pv 1) (pv 2) (fun _ _ => rfl)) pe_int (fun _ _ => rfl)) (nomark _)) (pw_or1 (pt_cmpR (op_neD (un64 hr)) (pe_callD D_fields hr (pa_cons (pv 0) (pa_cons (pv 2) pa_nil))) (pe_callD D_l_all_fields hr (pa_cons (pv 1) (pa_cons (pv 2) pa_nil))) (nomark _))))) (pss_one (ps_ret pe_bl)) pss_nil)
      (pss_cons (ps_expr (pe_bm PySem.F.plainAttrs_list PySem.F.slot_list_append PySem.F.type_list_append mt_append (pe_callD D_fields hr (pa_cons (pv 0) (pa_cons (pv 2) pa_nil))) (pa_cons pe_str pa_nil)))
      (pss_one (ps_for PassesOwn.never rfl (pi_keys (pv 1)) (pg_name (i := 3) sc_l_right.nd rfl (by first | exact Or.inl rfl | exact Or.inr rfl)) (pss_one (ps_if (pt_cmpR op_ne (pe_callD D_is_below hr (pa_cons (pv 0) (pa_cons (pv 2) (pa_cons (pv 3) pa_nil)))) (pe_cmpR op_in_seq (pv 3) (pe_callD D_l_line hr (pa_cons (pv 1) (pa_cons (pv 2) pa_nil))) (by rfl)) (nomark _)) (pss_one (ps_ret pe_bl)) pss_nil))))))))
      (pss_cons (ps_expr (pe_bm0 PySem.F.plainAttrs_list PySem.F.slot_list_clear PySem.F.type_list_clear mt_clear (pe_callDf D_classes hr (pa_cons (pv 0) pa_nil))))
      (pss_one (ps_ret pe_bl))))), ?_⟩
    obtain ⟨r, kd, tl, td, T, n, kvs, rfl, R, htd, bn, ntk, wf, hn, fo, k⟩ := h
    rw [show L2.start ["_law_runtime", "_law_tree", "_law_name", "_law_other"] [V.ref r, V.ref td] = ([some (V.ref r), some (V.ref td), none, none] : List (Option V)) from rfl]
    have kh := KH.start (H := H)
    walk_at "go"
    have hT64 : T.length < 64 := by
      have := wf.tl
      omega
    have kn : knownL T n = T.map (·.name) := known_all wf
    refine ⟨r, kd, tl, T, n, rfl, R, hT64, fun ys p H1 hp hs np e1 hl1 => ?_⟩
    rw [kn] at hp
    have hok : ∀ x, x ∈ ys → PyData.strOk x = true := fun x hx => by
      obtain ⟨c, hc, rfl⟩ := List.mem_map.mp ((hp.mem_iff).mp hx)
      exact okNames_str _ (wf.nm c hc)
    have k1 := kh.consN e1 np hl1
    walk_at "go"
    refine ⟨td, kvs, T.map (·.name), rfl, .inl (e1 _ _ htd), bn.keys, by rw [List.length_map]; exact hT64, fun ys2 p2 hp2 hs2 np2 => ?_⟩
    obtain rfl : ys2 = ys := sorted_one (hp2.trans hp.symm) hs2 hs
    have k2 := k1.new (o := .lst (ys2.map V.str)) np2
    generalize upd H1 p2 _ = H2 at k2 ⊢
    refine ne_data (.lst (SqL.of (k2.find (p := p) (by walk_at "lk"))) (strs_dp ys2)) (.lst (SqL.of (k2.find .here)) (strs_dp ys2)) (strs_shaped hok) ?_
    have e02 := k2.extE
    clear k2 k1
    walk_at "go"
    refine r_lock (e02 _ _ htd) trivial fun od => ?_
    have htl : tl ≠ td := by
      obtain ⟨xs, h1, _⟩ := R.at_.tl
      exact ne_of h1 htd (by intro z; cases z)
    have hlk : upd H2 td (.frz od (.dK kvs)) td = some (.frz od (.dK kvs)) := upd_same
    have mo : Mo H2 (upd H2 td (.frz od (.dK kvs))) := Mo.upd (e02 _ _ htd) rfl
    have RL : RtW CK CR (upd H2 td (.frz od (.dK kvs))) r kd tl T n := (R.fr (A := []) e02.fr e02.mo (by simp) (by simp)).fr (A := [td]) (Fr.updE (by simp)) mo (by simpa using Ne.symm ntk) (by simpa using htl)
    have bnL : ByN (RowAt (upd H2 td (.frz od (.dK kvs)))) T kvs := bn.mono fun _ _ z => (z.mo e02.mo).mo mo
    have foL : FieldsOk (upd H2 td (.frz od (.dK kvs))) T := (fo.mo e02.mo).mo mo
    have hout : ∀ H', Wc.Ext (upd H2 td (.frz od (.dK kvs))) H' → Wc.Ext H (upd H' td (.dK kvs)) := fun H' e a o ha => by
      by_cases q : a = td
      · rw [q] at ha ⊢
        rw [upd_same, ← ha, htd]
      · rw [upd_ne q]
        exact e _ _ (by rw [upd_ne q]; exact e02 _ _ ha)
    generalize upd H2 td (.frz od (.dK kvs)) = HL at hlk mo RL bnL foL hout ⊢
    have RE : ∀ {H'}, Wc.Ext HL H' → RtW CK CR H' r kd tl T n := fun e => RL.fr (A := []) e.fr e.mo (by simp) (by simp)
    have TE' : ∀ {H'}, Wc.Ext HL H' → TrAt H' td T := fun e => (show TrAt HL td T from ⟨kvs, .inr ⟨od, hlk⟩, bnL⟩).ext e
    refine r_forK ?_
    walk_at "go"
    refine ⟨td, od, rfl, .inl ⟨kvs, hlk, ?_⟩⟩
    have hkl : kvs.length = T.length := bn.length
    refine ForJ.mk walk_keys (fun i σ H3 => (∃ v2 v3 : Option V, σ = [some (.ref r), some (.ref td), v2, v3]) ∧ Wc.Ext HL H3) ⟨⟨_, _, rfl⟩, Wc.Ext.refl _⟩ (fun i σ H3 _ z => z.2 _ _ hlk) ?_ ?_
    · rintro i x σ H3 _ hi ⟨⟨v2, v3, rfl⟩, e3⟩ ⟨rfl, kk, vv, hkv, rfl⟩
      obtain ⟨c, hc, hn1, _⟩ := Wc.paired_get bn hkv
      dsimp only at hn1
      subst hn1
      have cT := List.mem_of_getElem? hc
      have fc := wf.find cT
      have nok := okNames_ok _ (wf.nm c cT)
      obtain ⟨ll, hln, hll⟩ := wf.ln c cT
      have hal := wf.al c cT
      have how := owns_all wf hln c.name c rfl fc
      obtain ⟨v, hv, t, hdr, rfl, ht, hhd⟩ := bnL.some fc
      have hcl : clsV T (.str c.name) = true := by
        show (nameS c.name && (findC T c.name).isSome) = true
        rw [nok.1, fc] <;> rfl
      walk_at "go"
      refine ⟨r, kd, tl, T, n, c.name, c, rfl, (RE e3).at_, nok.1, by omega, fc, fun H4 e4 => ?_⟩
      have e34 := e3.trans e4
      walk_at "go"
      refine dget_mk' rfl (.inr ⟨od, e34 _ _ hlk⟩) hv ?_
      walk_at "go"
      refine r_ixT (SqT.of (e34 _ _ ht)) rfl ?_
      refine r_ne (by cases c.par <;> rfl) ?_
      rw [decide_eq_true rfl]
      walk_at "go"
      refine ⟨r, kd, tl, T, n, c.name, c, rfl, (RE e34).at_, nok.1, by omega, fc, fun p5 H5 np5 e5 hl5 => ?_⟩
      have e35 := e34.trans e5
      walk_at "go"
      refine ⟨td, T, c.name, ll, rfl, TE' e35, hln, by omega, by rw [how]; omega, fun p6 H6 np6 e6 hl6 => ?_⟩
      have e36 := e35.trans e6
      rw [how] at hl6
      obtain ⟨as, hp6⟩ := (foL.mo e36.mo) c cT
      obtain ⟨ds, d1, d2, d3⟩ := flds_dp (K := K) hp6
      refine ne_data (.lst (SqL.of (e6 _ _ hl5)) d1) (.lst (SqL.of hl6) d1) (flds_shaped d2 d3) ?_
      walk_at "go"
      refine ⟨r, kd, tl, T, n, c.name, c, rfl, (RE e36).at_, nok.1, by omega, fc, fun p7 H7 np7 e7 hl7 => ?_⟩
      have k7 := (KH.start (H := H6)).consN e7 np7 hl7
      have hz7 : c.all.length < sizeLine := sz_lt (by omega)
      refine ⟨.inl ⟨rfl, _, SqL.of hl7⟩, ?_⟩
      walk_at "go"
      rename_i H8 k8
      have e38 := e36.trans k8.extE
      dsimp only
      refine r_forK ?_
      walk_at "go"
      refine ⟨td, od, rfl, .inl ⟨kvs, e38 _ _ hlk, ?_⟩⟩
      refine ForJ.mk walk_keys (fun i σ H3 => (∃ v3 : Option V, σ = [some (.ref r), some (.ref td), some (.str c.name), v3]) ∧ Wc.Ext HL H3) ⟨⟨_, rfl⟩, e38⟩ (fun i σ H3 _ z => z.2 _ _ hlk) ?_ ?_
      · rintro j y σ H9 _ hj ⟨⟨v3, rfl⟩, e9⟩ ⟨rfl, kk2, vv2, hkv2, rfl⟩
        obtain ⟨c2, hc2, hn2, _⟩ := Wc.paired_get bn hkv2
        dsimp only at hn2
        subst hn2
        have cT2 := List.mem_of_getElem? hc2
        have fc2 := wf.find cT2
        have nok2 := okNames_ok _ (wf.nm c2 cT2)
        have hcl2 : clsV T (.str c2.name) = true := by
          show (nameS c2.name && (findC T c2.name).isSome) = true
          rw [nok2.1, fc2] <;> rfl
        walk_at "go"
        refine ⟨r, kd, tl, T, n, c.name, c2.name, ll, rfl, (RE e9).at_, hcl, hcl2, by omega, by omega, hln, by omega, fun H10 e10 => ?_⟩
        have e910 := e9.trans e10
        walk_at "go"
        refine ⟨td, T, some c.name, ll, rfl, TE' e910, hln, by omega, fun p11 H11 np11 e11 hl11 => ?_⟩
        refine ⟨p11, _, rfl, .inl (SqL.of hl11), rfl, by rw [List.all_map]; exact List.all_eq_true.mpr fun _ _ => rfl, ?_⟩
        walk_at "go"
        rw [decide_eq_true (show V.bl (inV (V.str c2.name) (ll.map V.str)) = V.bl (if false = true then !inV (kV (Sum.inr c2.name)) (ll.map V.str) else inV (kV (Sum.inr c2.name)) (ll.map V.str)) from rfl)]
        walk_at "go"
        exact ⟨⟨_, rfl⟩, e910.trans e11⟩
      · rintro σ H9 ⟨⟨v3, rfl⟩, e9⟩
        exact ⟨⟨_, _, rfl⟩, e9⟩
    · rintro σ H3 ⟨⟨v2, v3, rfl⟩, e3⟩
      refine ⟨e3 _ _ hlk, ?_⟩
      have eo := hout H3 e3
      generalize upd H3 td (.dK kvs) = H4 at eo ⊢
      walk_at "go"
      refine ⟨r, kd, tl, T, n, rfl, R.fr (A := []) eo.fr eo.mo (by simp) (by simp), hT64, fun ys3 p3 H5 hp3 hs3 np3 e5 hl3 => ?_⟩
      have k5 := (KH.start (H := H4)).consN e5 np3 hl3
      refine ⟨.inl ⟨rfl, _, SqL.of hl3⟩, ?_⟩
      refine r_clear hl3 ?_
      walk_at "go"
      exact k _ (eo.trans (by rename_i k6; exact k6.extE))
end
end K01

set_option Elab.async false
set_option linter.all false
set_option maxRecDepth 100000
set_option maxHeartbeats 8000000
namespace K01
open PySem L2 Wc
local macro_rules | `(tactic| walk_at "lk") => `(tactic| first | with_reducible exact Look.here | (with_reducible apply Look.there; walk_at "lk"))
local macro_rules | `(tactic| walk_at "ul") => `(tactic| first | with_reducible exact UpL.here | (with_reducible apply UpL.there; walk_at "ul"))
local macro_rules | `(tactic| walk_at "ga") => `(tactic| first | exact GetAt.here | (apply GetAt.there; walk_at "ga"))
local macro_rules | `(tactic| walk_at "sa") => `(tactic| first | exact SetAt.here | (apply SetAt.there; walk_at "sa"))
local macro_rules | `(tactic| walk_at "hp") => `(tactic| first | assumption | (refine' KH.find ?k ?h; (case k => assumption); (case h => walk_at "lk")))
local macro_rules | `(tactic| walk_at "sql") => `(tactic| first | assumption | (refine' SqL.of ?h; (case h => walk_at "hp")) | (refine' Fr.sql (KH.fr ?k) ?n ?h; (case k => assumption); (case h => assumption); (case n => (simp; done))))
local macro_rules | `(tactic| walk_at "sqt") => `(tactic| first | assumption | (refine' SqT.of ?h; (case h => walk_at "hp")))
local macro_rules | `(tactic| walk_at "side") => `(tactic| first | exact (show (0 : Int) < _ by decide) | exact (show (0 : Int) < _ by omega) | exact ⟨by decide, by decide, by decide⟩ | exact ⟨by decide, by decide, by omega⟩ | exact ⟨by decide, by decide⟩ | exact ⟨by omega, by omega⟩ | exact Or.inl ⟨by omega, by omega⟩ | exact Or.inr ⟨by omega, by omega⟩)
local macro_rules | `(tactic| walk_at "siz") => `(tactic| first | (refine sz_of ?_; first | decide | omega | (simp; done) | (simp; omega)) | (refine sz_lt ?_; first | decide | omega | (simp; done) | (simp; omega)))
local macro_rules | `(tactic| walk_at "own") => `(tactic| first | (exact Or.inr (by assumption)) | (refine Or.inl ?_; simp; done))
local macro_rules | `(tactic| walk_at "al") => `(tactic| (refine' AllocO.mk ?k ?_; (case k => assumption); intro _ _ _ _))
local macro_rules | `(tactic| walk_at "up") => `(tactic| (refine' UpdO.mk ?k ?h ?m ?_; (case k => assumption); (case h => walk_at "ul"); (case m => walk_at "own"); intro _ _))
local macro_rules | `(tactic| walk_at "st") => `(tactic| first
  | ((with_reducible refine' r_var ?h ?_); (case h => walk_at "ga"))
  | (with_reducible refine' r_seq ?_) | (with_reducible refine' r_next ?_) | (with_reducible refine' r_asg ?_) | (with_reducible refine' r_drop ?_) | (with_reducible refine' r_ret ?_) | (with_reducible refine' r_retN ?_)
  | (with_reducible refine' r_ifs ?_) | (with_reducible refine' r_cont ?_) | (with_reducible refine' r_break ?_) | (with_reducible refine' r_c ?_) | (with_reducible refine' r_op ?_) | (with_reducible refine' r_un ?_)
  | (with_reducible refine' r_test ?_) | (with_reducible refine' r_tB ?_) | (with_reducible refine' r_not ?_) | (with_reducible refine' r_and ?_) | (with_reducible refine' r_or ?_) | (with_reducible refine' r_notV ?_)
  | (with_reducible refine' r_andV ?_) | (with_reducible refine' r_orV ?_) | (with_reducible refine' r_ifE ?_) | (with_reducible refine' r_bl ?_) | (with_reducible refine' r_nil ?_) | (with_reducible refine' r_cons ?_)
  | (with_reducible refine' r_tup ?_) | (with_reducible refine' r_lst ?_) | (with_reducible refine' r_cb ?_) | (with_reducible refine' r_call ?_) | ((with_reducible refine' r_name ?h ?_); (case h => walk_at "sa")) | (with_reducible refine' r_gnil ?_)
  | (with_reducible refine' r_gcons ?_) | (with_reducible refine' r_gsub ?_) | (with_reducible refine' r_par ?_) | (with_reducible refine' r_par2 ?_) | (with_reducible refine' r_I0 ?_) | (with_reducible refine' r_U ?_)
  | ((with_reducible refine' r_eq ?h ?_); (case h => rfl)) | ((with_reducible refine' r_ne ?h ?_); (case h => rfl))
  | ((with_reducible refine' r_ixL ?h ?a ?_); (case h => walk_at "sql"); (case a => rfl))
  | ((with_reducible refine' r_ixT ?h ?a ?_); (case h => walk_at "sqt"); (case a => rfl))
  | ((with_reducible refine' r_setL ?h ?a ?_); (case h => walk_at "hp"); (case a => rfl))
  | ((with_reducible refine' r_I ?c ?_); (case c => walk_at "side"))
  | (with_reducible refine' r_sl ?_) | (with_reducible refine' r_part ?_) | (with_reducible refine' r_nopart ?_) | (with_reducible refine' r_ii ?_)
  | ((with_reducible refine' r_slL ?h ?_); (case h => walk_at "sql"))
  | (with_reducible refine' r_bm ?_) | (with_reducible refine' r_bm0 ?_) | (with_reducible refine' r_int1 ?_) | (with_reducible refine' r_int1b ?_)
  | ((with_reducible refine' r_aug ?h ?_); (case h => walk_at "ga"))
  | ((with_reducible refine' r_cat ?a ?b ?z ?_); (case a => walk_at "hp"); (case b => walk_at "hp"); (case z => walk_at "siz"))
  | ((with_reducible refine' r_append ?a ?z ?_); (case a => walk_at "hp"); (case z => walk_at "siz"))
  | ((with_reducible refine' And.intro ?z ?_); (case z => first | walk_at "siz" | exact Or.inl ⟨rfl, _, by walk_at "sql"⟩))
  | ((with_reducible refine' r_gtup ?h ?l ?_); (case h => walk_at "sqt"); (case l => rfl))
  | (with_reducible refine' r_forL ?_) | (with_reducible refine' r_forE ?_) | (with_reducible refine' r_forR ?_) | ((with_reducible refine' r_forL2 ?h ?_); (case h => walk_at "sql")) | ((with_reducible refine' r_forE2 ?h ?_); (case h => walk_at "sql"))
  | (with_reducible refine' r_lcR ?_) | ((with_reducible refine' r_iteT ?h ?_); (case h => rfl)) | ((with_reducible refine' r_iteF ?h ?_); (case h => rfl))
  | (with_reducible refine' r_dnew ?_) | (with_reducible refine' r_vei ?_) | (with_reducible refine' r_ost ?_) | (with_reducible refine' r_mkV ?_) | (with_reducible refine' r_mkX ?_) | (with_reducible refine' r_xfld ?_)
  | ((with_reducible refine' MkG.mk ?o ?n ?k ?_); (case o => exact ErrOk.o (by assumption)); (case n => exact ErrOk.no (by assumption)); (case k => assumption); intro _ _ _ _)
  | ((with_reducible refine' AllocX.mk ?k ?_); (case k => assumption); intro _ _ _ _)
  | (with_reducible refine' r_chain ?_) | (with_reducible refine' r_lcS ?_) | (with_reducible refine' r_lcS2 ?_) | (with_reducible refine' r_lcL ?_) | (with_reducible refine' r_lcT ?_) | (with_reducible refine' r_lcI ?_) | (with_reducible refine' r_yes ?_)
  | (with_reducible refine' r_fld ?_) | (with_reducible refine' r_sfld ?_) | (with_reducible refine' r_meth ?_) | (with_reducible refine' r_make ?_) | (with_reducible refine' r_dget ?_) | (with_reducible refine' r_din ?_) | (with_reducible refine' r_dput ?_)
  | ((with_reducible refine' r_disp ?k ?_); (case k => assumption); intro _ _ _ _) | (with_reducible refine' r_pnil ?_) | (with_reducible refine' r_pcons ?_)
  | (walk_at "al") | (walk_at "up"))
local macro_rules | `(tactic| walk_at "go") => `(tactic| repeat walk_at "st")

theorem th_fr {K : PySem.W.Frag} {A : List Addr} {H H' : Hp} {x : V} {tp : Option (List V)} (t : Th K H x tp) (e : Fr A H H') (hA : ∀ a, a ∈ A → x ≠ .ref a) : Th K H' x tp := by
  obtain ⟨⟨ty, h1, h2, h3⟩, h4, h5, h6⟩ := t
  have out : ∀ a, x = .ref a → a ∉ A := fun a e m => hA a m e
  refine ⟨⟨ty, ?_, h2, h3⟩, fun xs z => ?_, h5, h6⟩
  · cases h1 with
    | base h =>
      refine .base ?_
      cases h with
      | non => exact .non
      | bl b => exact .bl b
      | int i => exact .int i
      | str s => exact .str s
      | flt s => exact .flt s
      | lst h => exact .lst (e _ _ (out _ rfl) h)
      | frz h => exact .frz (e _ _ (out _ rfl) h)
      | tup h => exact .tup (e _ _ (out _ rfl) h)
      | dK h => exact .dK (e _ _ (out _ rfl) h)
      | dT h => exact .dT (e _ _ (out _ rfl) h)
      | ins h c a b d g => exact .ins (e _ _ (out _ rfl) h) c a b d g
    | byt b => exact .byt b
    | set h => exact .set (e _ _ (out _ rfl) h)
    | kList h c => exact .kList h c
    | kTuple h c => exact .kTuple h c
    | kDict h c => exact .kDict h c
    | fTuple h => exact .fTuple (e _ _ (out _ rfl) h)
    | fDict h => exact .fDict (e _ _ (out _ rfl) h)
  · obtain ⟨a, h6, h7⟩ := h4 xs z
    exact ⟨a, h6, e _ _ (out _ h6) h7⟩
/-- an item that is none of some objects, nor are its parts -/
structure ItemN (K : PySem.W.Frag) (A : List Addr) (H : Hp) (q : Vw) : Prop where
  it : ItemAt K H q
  ne : ∀ a, a ∈ A → q.1 ≠ .ref a
  pt : ∀ ys, q.2 = some ys → ∀ y, y ∈ ys → ∀ a, a ∈ A → y ≠ .ref a
theorem ItemN.fr {K : PySem.W.Frag} {A B : List Addr} {H H' : Hp} {q : Vw} (I : ItemN K A H q) (e : Fr B H H') (hB : ∀ a, a ∈ B → a ∈ A) : ItemN K A H' q :=
  ⟨⟨th_fr I.it.th e fun a ha => I.ne a (hB a ha), fun ys z => ⟨(I.it.parts ys z).1, fun y hy => by
    obtain ⟨tq, t⟩ := (I.it.parts ys z).2 y hy
    exact ⟨tq, th_fr t e fun a ha => I.pt ys z y hy a (hB a ha)⟩⟩⟩, I.ne, I.pt⟩
theorem scan_snoc {T : List Cl} {q : Vw} : ∀ {vw : List Vw} {nm : List V}, scan T nm (vw ++ [q]) = match scan T nm vw with
    | some x => some x
    | none => if okI T (nm ++ vw.map fun p => fstV p.2) q.2 = true then none else some q.1
  | [], nm => by
    show (if okI T nm q.2 = true then scan T _ [] else some q.1) = _
    rw [List.map_nil, List.append_nil]
    rfl
  | (x, tp) :: vw, nm => by
    show (if okI T nm tp = true then scan T (nm ++ [fstV tp]) (vw ++ [q]) else some x) = (match (if okI T nm tp = true then scan T (nm ++ [fstV tp]) vw else some x) with | some x => some x | none => _)
    by_cases h : okI T nm tp = true
    · rw [if_pos h, if_pos h, scan_snoc (vw := vw)]
      rw [List.map_cons, List.append_assoc]
      rfl
    · rw [if_neg h, if_neg h]
section
variable {P : Program} {w : World} {K : PySem.W.Frag} {mg : Str → Option Value} {base : Heap} {f : Addr} {fd : FuncData} {CK CR NC NF TK WE : Addr}
abbrev words : List Str := ["x", "y", "z", "size", "left"]
theorem mid {t u : TS} {D : Ends} {σ : L2.St} {H : Hp} {c : Bool} (Mid : L2.St → Hp → Prop) (h : ∀ σ H, Mid σ H → D.nx σ H)
    (h2 : ∀ Nx : L2.St → Hp → Prop, (∀ σ H, Mid σ H → Nx σ H) → if c = true then t { D with nx := Nx } σ H else u { D with nx := Nx } σ H) : if c = true then t D σ H else u D σ H := h2 D.nx h
theorem WellOk.mono {n m : Nat} {b c : Int} (h : WellOk n b c) (e : n ≤ m) : WellOk m b c := ⟨h.1, h.2.1, h.2.2.1, by have := h.2.2.2; omega⟩
theorem midT {t : TS} {D : Ends} {σ : L2.St} {H : Hp} (Mid : L2.St → Hp → Prop) (h : ∀ σ H, Mid σ H → D.nx σ H) (h2 : ∀ Nx : L2.St → Hp → Prop, (∀ σ H, Mid σ H → Nx σ H) → t { D with nx := Nx } σ H) : t D σ H := h2 D.nx h
mutual
theorem Dp.ext {K : PySem.W.Frag} {H H' : Hp} (e : Wc.Ext H H') : ∀ {v : V} {d : PyData}, L2.Dp K H v d → L2.Dp K H' v d
  | _, _, .non => .non
  | _, _, .bl b => .bl b
  | _, _, .int i => .int i
  | _, _, .str s => .str s
  | _, _, .lst h t => .lst (e.l h) (DpAll.ext e t)
  | _, _, .tup h t => .tup (e.t h) (DpAll.ext e t)
theorem DpAll.ext {K : PySem.W.Frag} {H H' : Hp} (e : Wc.Ext H H') : ∀ {vs : List V} {ds : List PyData}, L2.DpAll K H vs ds → L2.DpAll K H' vs ds
  | _, _, .nil => .nil
  | _, _, .cons h t => .cons (Dp.ext e h) (DpAll.ext e t)
end
theorem KH.join {H H5 H14 H16 : Hp} {M M' : List Addr} {L0 L1 L2 : List (Addr × HO)} (k0 : Wc.KH H M L0 H5) (k1 : Wc.KH H5 M' L1 H14) (k2 : Wc.KH H14 M' L2 H16) (hM : ∀ a, a ∈ M → a ∈ M') (hN : ∀ a, a ∈ M' → a ∈ M ∨ H a = none) : Wc.KH H M L2 H16 :=
  ⟨k2.at_, k2.nd, fun a o n h => by
    have n2 : a ∉ M' := fun m => by
      rcases hN a m with q | q
      · exact n q
      · rw [q] at h
        cases h
    exact k2.fr a o n2 (k1.fr a o n2 (k0.fr a o n h)), fun a ha => k2.md a (hM a ha)⟩
theorem nref {H : Hp} {a q : Addr} {o : HO} (h : H q = none) (ha : H a = some o) : V.ref q ≠ V.ref a := fun z => by
  rw [V.ref.inj z, ha] at h
  cases h
theorem okNames_len : ∀ z, z ∈ okNames → z.length ≤ 1000 := by decide +kernel
def PartOk (K : PySem.W.Frag) (A : List Addr) (H : Hp) (y : V) : Prop := (∃ tq, Th K H y tq) ∧ ∀ a, a ∈ A → y ≠ .ref a
theorem partS {K : PySem.W.Frag} {A : List Addr} {H : Hp} {s : Str} (h : s.length ≤ 1000) : PartOk K A H (.str s) := ⟨⟨_, .str h⟩, fun _ _ z => nomatch z⟩
theorem pl1 {K : PySem.W.Frag} {A : List Addr} {H : Hp} {a : V} (h : PartOk K A H a) : ∀ y, y ∈ [a] → PartOk K A H y := fun y hy => by
  rw [show y = a by simpa using hy]
  exact h
theorem pl2 {K : PySem.W.Frag} {A : List Addr} {H : Hp} {a b : V} (h : PartOk K A H a) (g : PartOk K A H b) : ∀ y, y ∈ [a, b] → PartOk K A H y := fun y hy => by
  rcases List.mem_cons.mp hy with e | hy
  · rw [e]
    exact h
  · exact pl1 g y hy
theorem pl3 {K : PySem.W.Frag} {A : List Addr} {H : Hp} {a b c : V} (h : PartOk K A H a) (g : PartOk K A H b) (i : PartOk K A H c) : ∀ y, y ∈ [a, b, c] → PartOk K A H y := fun y hy => by
  rcases List.mem_cons.mp hy with e | hy
  · rw [e]
    exact h
  · exact pl2 g i y hy
theorem itemT {K : PySem.W.Frag} {A : List Addr} {H : Hp} {q : Addr} {ys : List V} (h : H q = some (.tup ys)) (hq : ∀ a, a ∈ A → V.ref q ≠ .ref a) (hl : ys.length ≤ 1000) (hp : ∀ y, y ∈ ys → PartOk K A H y) : ItemN K A H (.ref q, some ys) :=
  ⟨⟨.tupl h, fun zs e => by cases e; exact ⟨hl, fun y hy => (hp y hy).1⟩⟩, hq, fun zs e y hy => by cases e; exact (hp y hy).2⟩
theorem itemO {K : PySem.W.Frag} {A : List Addr} {H : Hp} {x : V} (h : Th K H x none) (hq : ∀ a, a ∈ A → x ≠ .ref a) : ItemN K A H (x, none) := ⟨⟨h, fun _ e => nomatch e⟩, hq, fun _ e => nomatch e⟩
/-- a pair against (word, limit) -/
def PairK (K : PySem.W.Frag) (H : Hp) (T : List Cl) (nmz : Prop) (wd y : Str) (u v : V) : Prop := ∃ du dv, Dp K H u du ∧ Dp K H v dv ∧ SeqAt.shaped (.tuple [du, dv]) = true ∧
  ((u = .str wd ∧ v = .str y ∧ PyData.eqv (.tuple [du, dv]) (.tuple [.str wd, .str y]) = true) ∨ (PyData.eqv (.tuple [du, dv]) (.tuple [.str wd, .str y]) = false ∧ (nmz → (nameV u && clsV T v) = false)))
theorem eqv2 {a b : PyData} {wd y : Str} : PyData.eqv (.tuple [a, b]) (.tuple [.str wd, .str y]) = (PyData.eqv a (.str wd) && PyData.eqv b (.str y)) := by
  simp [PyData.eqv, PyData.eqvAll]
theorem eqvS {a b : Str} : PyData.eqv (.str a) (.str b) = (a == b) := by simp [PyData.eqv]
theorem shaped2 {a b : PyData} (h1 : a.canLay0 = true) (h2 : b.canLay0 = true) (d1 : a.depth ≤ 3) (d2 : b.depth ≤ 3) : SeqAt.shaped (.tuple [a, b]) = true := by
  show (PyData.canLay0 (.tuple [a, b]) && decide (PyData.depth (.tuple [a, b]) ≤ 64)) = true
  rw [show PyData.canLay0 (.tuple [a, b]) = true by simpa [PyData.canLay0, PyData.canLayAll0] using ⟨h1, h2⟩, show decide (PyData.depth (.tuple [a, b]) ≤ 64) = true from decide_eq_true (by show max a.depth (max b.depth 0) + 1 ≤ 64; omega)]
  rfl
theorem layS {a : Str} (h : PyData.strOk a = true) : (PyData.str a).canLay0 = true ∧ (PyData.str a).depth ≤ 3 := ⟨by simpa [PyData.canLay0] using h, Nat.zero_le _⟩
theorem words_ok : ∀ z, z ∈ words → nameS z = true ∧ PyData.strOk z = true ∧ z ≠ "X" ∧ z ≠ "" ∧ z ≠ "abcdefghi" ∧ z.length ≤ 1000 := by decide +kernel
/-- the left one is bad -/
theorem pairL {K : PySem.W.Frag} {H : Hp} {T : List Cl} {nmz : Prop} {wd y a : Str} (hy : PyData.strOk y = true) (ha : PyData.strOk a = true) (n : wd ≠ a) (hn : nameS a = false) : PairK K H T nmz wd y (.str a) (.str y) :=
  ⟨_, _, .str a, .str y, shaped2 (layS ha).1 (layS hy).1 (layS ha).2 (layS hy).2, .inr ⟨by rw [eqv2, eqvS, show (a == wd) = false by simpa using Ne.symm n]; rfl, fun _ => by show (nameS a && _) = false; rw [hn]; rfl⟩⟩
/-- the right one is no class -/
theorem pairR {K : PySem.W.Frag} {H : Hp} {T : List Cl} {nmz : Prop} {wd y : Str} {v : V} {dv : PyData} (hw : PyData.strOk wd = true) (hd : Dp K H v dv) (h1 : dv.canLay0 = true) (h2 : dv.depth ≤ 3) (n : PyData.eqv dv (.str y) = false) (hc : nmz → clsV T v = false) : PairK K H T nmz wd y (.str wd) v :=
  ⟨_, _, .str wd, hd, shaped2 (layS hw).1 h1 (layS hw).2 h2, .inr ⟨by rw [eqv2, n]; simp, fun z => by rw [hc z]; simp⟩⟩
theorem pairE {K : PySem.W.Frag} {H : Hp} {T : List Cl} {nmz : Prop} {wd y : Str} (hw : PyData.strOk wd = true) (hy : PyData.strOk y = true) : PairK K H T nmz wd y (.str wd) (.str y) :=
  ⟨_, _, .str wd, .str y, shaped2 (layS hw).1 (layS hy).1 (layS hw).2 (layS hy).2, .inl ⟨rfl, rfl, by rw [eqv2, eqvS, eqvS]; simp⟩⟩
/-- another text at the right -/
theorem pairS {K : PySem.W.Frag} {H : Hp} {T : List Cl} {nmz : Prop} {wd y z : Str} (hw : PyData.strOk wd = true) (hy : PyData.strOk y = true) (hz : PyData.strOk z = true) (hc : z ≠ y → nmz → clsV T (.str z) = false) : PairK K H T nmz wd y (.str wd) (.str z) := by
  by_cases e : z = y
  · rw [e]
    exact pairE hw hy
  · exact pairR hw (.str z) (layS hz).1 (layS hz).2 (by rw [eqvS]; simpa using e) (hc e)
/-- what _law_fields hands on: fields, and the error that is due -/
def FRes (K : PySem.W.Frag) (pw : Addr) (T : List Cl) (nm : Str) (as : List Str) (H : Hp) (fl due : V) : Prop :=
  ∃ tf, Th K H fl tf ∧ fl ≠ .ref pw ∧
    (((tf = none ∨ ∃ xs, tf = some xs ∧ 3 < xs.length) ∧ ∃ d, due = .ref d ∧ H d = some (.tup [.str "field", fl])) ∨
      ∃ xs vw, tf = some xs ∧ xs.length ≤ 3 ∧ vw.map (·.1) = xs ∧ (∀ q, q ∈ vw → ItemN K [pw] H q) ∧
        (findC T nm = none → (due = .non ∧ scan T (as.map V.str) vw = none ∧ ∃ bs, PySem.Paired (FNm H) xs bs) ∨ ∃ d x, due = .ref d ∧ H d = some (.tup [.str "field", x]) ∧ scan T (as.map V.str) vw = some x))
def spLFields (K : PySem.W.Frag) : Sp := fun vs H Q _ => ∃ pw td T n p c as nm a b c2 N kvs l, vs = [.ref pw, .ref td, .str p, .str nm] ∧ H pw = some (wl a b c2) ∧ WellOk N b c2 ∧ N ≤ 100000000 ∧ H td = some (.dK kvs) ∧ ByN (RowAt H) T kvs ∧ WF T n ∧ n ≤ 20 ∧ findC T p = some c ∧ Line T (some p) l ∧ l.length ≤ 100 ∧ PySem.Paired (FNm H) c.all as ∧ as.length ≤ 100 ∧ nm ∈ okNames ∧
  ∀ t fl due a' c' H', Fr [pw] H H' → H' pw = some (wl a' b c') → WellOk (N + 20) b c' → H t = none → H' t = some (.tup [fl, due]) → FRes K pw T nm as H' fl due → Q (.ref t) H'
abbrev NN_l_fields : List Str := ["_law_well_here", "_law_tree", "_law_above", "_law_name", "_law_names", "_law_some", "_law_due", "_law_k", "_law_word", "_law_limit", "_law_item", "_law_odd", "_law_is_valid_item", "_law_handed", "_law_way"]
theorem ok_lfields (F : FnP K "_law_fields" s_l_fields f fd) (T : Bt mg) (D_l_draw : DfOk P w K mg base CX0 1 "_law_draw" ["_law_well_here", "_law_many"] spDraw) (D_l_one : DfOk P w K mg base CX0 2 "_law_one" ["_law_well_here", "_law_some"] (spOne K))
    (D_l_all_fields : DfOk P w K mg base CX0 2 "_law_all_fields" ["_law_tree", "_law_name"] spLAll) : FnOk P w K mg base CX0 3 f fd ["_law_well_here", "_law_tree", "_law_above", "_law_name"] (spLFields K) := by
  refine F.ok sc_l_fields (fun vs H Q E h => ?_) (fun cdv A outer s H vs Q E hr h => ?_)
  · obtain ⟨pw, td, T, n, p, c, as, nm, a, b, c2, N, kvs, l, rfl, _⟩ := h
    rfl
  · refine ⟨_, PSs.nox (pss_cons (ps_setLc (i := 4) (own := [("_law_item", 10)]) (te := (tOp (rIxT K) (tVar 10) (tC (V.int 0)))) rfl sc_l_fields.nd rfl rfl (sw_true rfl rfl rfl (by decide +kernel)) (pi_list (pe_callD D_l_all_fields hr (pa_cons (pv 1) (pa_cons (pv 2) pa_nil)))) (blkOk_by (N := NN_l_fields) (sc := defScope s_l_fields) (by decide +kernel)) (fun _ _ _ _ _ => (pg_name (i := 10) sc_l_fields.nd rfl (by first | exact Or.inl rfl | exact Or.inr rfl))) (fun _ _ _ _ _ => pts_nil) (fun _ _ _ _ _ => (pe_ix ix_tup (pv 10) pe_int (fun _ _ => rfl))))
      (pss_cons (ps_set (i := 5) sc_l_fields.nd rfl (by first | exact Or.inl rfl | exact Or.inr rfl) (pe_lst pa_nil))
      (pss_cons (ps_set (i := 6) sc_l_fields.nd rfl (by first | exact Or.inl rfl | exact Or.inr rfl) pe_non)
      (pss_cons (ps_for PassesOwn.never rfl (pi_range1 (by rfl) T.f_range (pa_cons (pe_callD D_l_draw hr (pa_cons (pv 0) (pa_cons pe_int pa_nil))) pa_nil)) (pg_name (i := 7) sc_l_fields.nd rfl (by first | exact Or.inl rfl | exact Or.inr rfl)) (pss_cons (ps_set (i := 8) sc_l_fields.nd rfl (by first | exact Or.inl rfl | exact Or.inr rfl) (pe_callD D_l_one hr (pa_cons (pv 0) (pa_cons (pe_lst (pa_cons pe_str (pa_cons pe_str (pa_cons pe_str (pa_cons pe_str (pa_cons pe_str pa_nil)))))) pa_nil))))
      (pss_cons (ps_set (i := 9) sc_l_fields.nd rfl (by first | exact Or.inl rfl | exact Or.inr rfl) (pe_callD D_l_one hr (pa_cons (pv 0) (pa_cons (pe_callB (call_sortedD rfl) (by rfl) T.f_sorted PyProof.Rows.boot_sorted (pa_cons (pv 1) pa_nil)) pa_nil))))
      (pss_cons (ps_set (i := 10) sc_l_fields.nd rfl (by first | exact Or.inl rfl | exact Or.inr rfl) (pe_tup (pa_cons (pv 8) (pa_cons (pv 9) pa_nil))))
      (pss_cons (ps_if (pt_cmpR op_eq (pe_callD D_l_draw hr (pa_cons (pv 0) (pa_cons pe_int pa_nil))) pe_int (nomark _)) (pss_cons (ps_set (i := 11) sc_l_fields.nd rfl (by first | exact Or.inl rfl | exact Or.inr rfl) (pe_lst (pa_cons (pe_tup (pa_cons (pv 8) pa_nil)) (pa_cons (pe_lst (pa_cons (pv 8) (pa_cons (pv 9) pa_nil))) (pa_cons (pv 8) (pa_cons pe_non (pa_cons pe_int (pa_cons pe_dnewK (pa_cons (pe_tup (pa_cons (pv 8) (pa_cons (pv 9) (pa_cons pe_int pa_nil)))) (pa_cons (pe_tup (pa_cons pe_str (pa_cons (pv 9) pa_nil))) (pa_cons (pe_tup (pa_cons pe_str (pa_cons (pv 9) pa_nil))) pa_nil)))))))))))
      (pss_cons (ps_set (i := 11) sc_l_fields.nd rfl (by first | exact Or.inl rfl | exact Or.inr rfl) (pe_op op_cat (pv 11) (pe_lst (pa_cons (pe_tup (pa_cons (pv 8) (pa_cons pe_str pa_nil))) (pa_cons (pe_tup (pa_cons (pv 8) (pa_cons pe_non pa_nil))) (pa_cons (pe_tup (pa_cons (pv 8) (pa_cons (pe_lst pa_nil) pa_nil))) (pa_cons (pe_tup (pa_cons (pe_cmpR op_eq pe_int pe_int (nomark _)) (pa_cons (pv 9) pa_nil))) (pa_cons (pe_tup (pa_cons pe_str (pa_cons (pv 9) pa_nil))) pa_nil))))))))
      (pss_one (ps_set (i := 10) sc_l_fields.nd rfl (by first | exact Or.inl rfl | exact Or.inr rfl) (pe_callD D_l_one hr (pa_cons (pv 0) (pa_cons (pe_op op_cat (pv 11) (pe_lst (pa_cons (pe_tup (pa_cons (pv 8) (pa_cons (pe_tup (pa_cons (pv 9) pa_nil)) pa_nil))) (pa_cons (pe_tup (pa_cons (pv 8) (pa_cons (pv 3) pa_nil))) (pa_cons (pe_tup (pa_cons (pv 8) (pa_cons (pv 3) pa_nil))) pa_nil))))) pa_nil))))))) pss_nil)
      (pss_cons (ps_set (i := 12) sc_l_fields.nd rfl (by first | exact Or.inl rfl | exact Or.inr rfl) (pe_and (pe_callB call_isi (by rfl) T.f_isinstance PyProof.Rows.boot_isinstance (pa_cons (pv 10) (pa_cons (pe_bltn (v := .ty "tuple") (by rfl) T.f_tuple PyProof.Rows.boot_tuple rfl) pa_nil))) (pe_and (pe_cmpR op_eq (pe_callB call_len_seq (by rfl) T.f_len PySem.boot_len (pa_cons (pv 10) pa_nil)) pe_int (nomark _)) (pe_and (pe_cmpR (op_eqD (un64 hr)) (pv 10) (pe_tup (pa_cons (pv 8) (pa_cons (pv 9) pa_nil))) (nomark _)) (pe_one (pe_cmpR op_notIn_seq (pv 8) (pv 4) (by rfl)))))))
      (pss_cons (ps_if (PW.pt (pw_and (pt_cmpR op_isN (pv 6) pe_non (nomark _)) (pw_and1 (pt_not (pt_val (pv 12)))))) (pss_one (ps_set (i := 6) sc_l_fields.nd rfl (by first | exact Or.inl rfl | exact Or.inr rfl) (pe_tup (pa_cons pe_str (pa_cons (pv 10) pa_nil))))) pss_nil)
      (pss_cons (ps_expr (pe_bm PySem.F.plainAttrs_list PySem.F.slot_list_append PySem.F.type_list_append mt_append (pv 4) (pa_cons (pv 8) pa_nil)))
      (pss_one (ps_expr (pe_bm PySem.F.plainAttrs_list PySem.F.slot_list_append PySem.F.type_list_append mt_append (pv 5) (pa_cons (pv 10) pa_nil))))))))))))
      (pss_cons (ps_set (i := 13) sc_l_fields.nd rfl (by first | exact Or.inl rfl | exact Or.inr rfl) (pe_callTy call_tuple_of (by rfl) T.f_tuple PyProof.Rows.boot_tuple (pa_cons (pv 5) pa_nil)))
      (pss_cons (ps_set (i := 14) sc_l_fields.nd rfl (by first | exact Or.inl rfl | exact Or.inr rfl) (pe_callD D_l_draw hr (pa_cons (pv 0) (pa_cons pe_int pa_nil))))
      (pss_cons (ps_if (pt_cmpR op_eq (pv 14) pe_int (nomark _)) (pss_cons (ps_set (i := 13) sc_l_fields.nd rfl (by first | exact Or.inl rfl | exact Or.inr rfl) (pe_callD D_l_one hr (pa_cons (pv 0) (pa_cons (pe_lst (pa_cons (pv 5) (pa_cons pe_non (pa_cons pe_str (pa_cons pe_dnewK (pa_cons pe_int (pa_cons (pe_tup (pa_cons (pe_tup (pa_cons pe_str (pa_cons pe_str pa_nil))) (pa_cons (pe_tup (pa_cons pe_str (pa_cons pe_str pa_nil))) (pa_cons (pe_tup (pa_cons pe_str (pa_cons pe_str pa_nil))) (pa_cons (pe_tup (pa_cons pe_str (pa_cons pe_str pa_nil))) pa_nil))))) pa_nil))))))) pa_nil))))
      (pss_one (ps_set (i := 6) sc_l_fields.nd rfl (by first | exact Or.inl rfl | exact Or.inr rfl) (pe_tup (pa_cons pe_str (pa_cons (pv 13) pa_nil)))))) pss_nil)
      (pss_one (ps_ret (pe_tup (pa_cons (pv 13) (pa_cons (pv 6) pa_nil)))))))))))), ?_⟩
    obtain ⟨pw, td, T, n, p, c, as, nm, a, b, c2, N, kvs, l, rfl, hpw, wo, hN, htd, bn, wf, hn, hc, ln, hll, hp, hal, hnmo, k⟩ := h
    rw [show L2.start ["_law_well_here", "_law_tree", "_law_above", "_law_name", "_law_names", "_law_some", "_law_due", "_law_k", "_law_word", "_law_limit", "_law_item", "_law_odd", "_law_is_valid_item", "_law_handed", "_law_way"] [V.ref pw, V.ref td, V.str p, V.str nm] = ([some (V.ref pw), some (V.ref td), some (V.str p), some (V.str nm), none, none, none, none, none, none, none, none, none, none, none] : List (Option V)) from rfl]
    have kh := KH.start1 hpw
    walk_at "go"
    have how := owns_all wf ln p c rfl hc
    have hla : c.all.length = as.length := Paired.length hp
    refine ⟨td, T, p, l, rfl, ⟨kvs, .inl htd, bn⟩, ln, by omega, by rw [how]; omega, fun p1 H1 np1 e1 hl1 => ?_⟩
    rw [how] at hl1
    refine ⟨p1, rfl, ⟨_, SqL.of hl1⟩, ?_⟩
    refine lcJ (walk_list (xs := c.all)) (fun i => as[i]?.map V.str) (by omega) (fun _ e => SqL.of (e _ _ hl1)) ?_ ?_
    · rintro i x H2 _ R' N' hi e2 ⟨rfl, hx⟩ hR hN'
      obtain ⟨a1, ha1, t, b1, rfl, ht, _⟩ := paired_get1 hp hx
      have ht2 := e2 _ _ (e1 _ _ ht)
      walk_at "go"
      refine ⟨rfl, ?_⟩
      walk_at "go"
      exact hR _ _ (by rw [ha1] <;> rfl) (Wc.Ext.refl _)
    intro pn H2 npn e2 hl2
    rw [hla, range_mapG] at hl2
    have npn0 := e1.free npn
    have k2 := kh.consN (e1.trans e2) npn0 hl2
    have htp : td ≠ pw := ne_of htd hpw (by intro z; cases z)
    walk_at "go"
    rename_i ps H3 nps k3
    refine ⟨pw, 4, a, b, c2, N, rfl, by decide, by decide, k3.find (by walk_at "lk"), wo, by omega, fun d a4 c4 H4 d0 d1 wo4 f4 h4 => ?_⟩
    have k4 := k3.up (by walk_at "ul") f4 h4 (.inl (by simp))
    clear k3
    walk_at "go"
    refine ⟨d, rfl, by omega, by omega, ?_⟩
    obtain ⟨dn, rfl⟩ : ∃ dn : Nat, d = (dn : Int) := ⟨d.toNat, by omega⟩
    refine ForR.mk (fun i σ H5 => ∃ (v7 v8 v9 v10 v11 v12 : Option V) (due : V) (a5 c5 : Int) (nms : List V) (vw : List Vw), σ = [some (.ref pw), some (.ref td), some (.str p), some (.str nm), some (.ref pn), some (.ref ps), some due, v7, v8, v9, v10, v11, v12, none, none] ∧
        KH H [pw] [(ps, .lst (vw.map (·.1))), (pn, .lst nms), (pw, wl a5 b c5)] H5 ∧ WellOk (N + 1 + 5 * i) b c5 ∧ vw.length = i ∧ nms.all flatV = true ∧ nms.length = as.length + i ∧ (∀ q, q ∈ vw → ItemN K [pw, pn, ps] H5 q) ∧ (due = .non ∨ ∃ d, due = .ref d) ∧
        (findC T nm = none → (due = .non ∧ scan T (as.map V.str) vw = none ∧ nms = as.map V.str ++ vw.map (fun q => fstV q.2) ∧ ∃ bs, PySem.Paired (FNm H5) (vw.map (·.1)) bs) ∨ ∃ d x, due = .ref d ∧ H5 d = some (.tup [.str "field", x]) ∧ scan T (as.map V.str) vw = some x))
      ⟨_, _, _, _, _, _, .non, a4, c4, _, [], rfl, k4, wo4, rfl, by rw [List.all_map]; exact List.all_eq_true.mpr fun _ _ => rfl, by rw [List.length_map]; rfl, (fun q h => by cases h), .inl rfl, fun _ => .inl ⟨rfl, rfl, by rw [List.map_nil, List.append_nil], [], .nil⟩⟩ ?_ ?_
    · rintro i σ H5 hi ⟨v7, v8, v9, v10, v11, v12, due, a5, c5, nms, vw, rfl, k5, wo5, hvl, hfl, hnl, hit, hdn, hdue⟩
      have hi4 : i < 4 := by omega
      have hpn5 := k5.find (p := pn) (by walk_at "lk")
      have hps5 := k5.find (p := ps) (by walk_at "lk")
      have hpw5 := k5.find (p := pw) (by walk_at "lk")
      have htd5 : H5 td = some (.dK kvs) := k5.fr _ _ (by simpa using htp) htd
      have kk := k5.rebaseM [pw, pn, ps] (fun a ha => by
        simp at ha
        rcases ha with rfl | rfl | rfl
        · exact ⟨_, hpw5⟩
        · exact ⟨_, hpn5⟩
        · exact ⟨_, hps5⟩)
      have nd : td ≠ pn ∧ td ≠ ps := ⟨ne_of htd5 hpn5 (by intro z; cases z), ne_of htd5 hps5 (by intro z; cases z)⟩
      walk_at "go"
      rename_i lw H6 nlw k6
      refine ⟨pw, lw, _, a5, b, c5, _, rfl, k6.find (by walk_at "lk"), SqL.of (k6.find .here), by simp, by simp, ne_of_none hpw5 nlw, wo5, by omega, fun x a6 c6 H7 hx wo7 f7 h7 => ?_⟩
      have k7 := k6.up (by walk_at "ul") f7 h7 (.inl (by simp))
      obtain ⟨wd, hwd, rfl⟩ : ∃ wd, wd ∈ words ∧ x = V.str wd := by
        simp only [List.mem_cons, List.not_mem_nil, or_false] at hx
        rcases hx with rfl | rfl | rfl | rfl | rfl <;> exact ⟨_, by simp, rfl⟩
      clear hx
      have htd7 : H7 td = some (.dK kvs) := k7.fr _ _ (by simp; exact ⟨htp, nd.1, nd.2⟩) htd5
      walk_at "go"
      refine ⟨td, kvs, T.map (·.name), rfl, .inl htd7, bn.keys, by rw [List.length_map, wf.tl]; omega, fun ys p8 hp8 hs8 np8 => ?_⟩
      have k8 := k7.new (o := .lst (ys.map V.str)) np8
      have n85 := k7.fresh np8
      generalize upd H7 p8 _ = H8 at k8 ⊢
      have hyl : 0 < ys.length := by rw [hp8.length_eq, List.length_map, wf.tl]; omega
      have hyl2 : ys.length ≤ 1000 := by rw [hp8.length_eq, List.length_map, wf.tl]; omega
      walk_at "go"
      refine ⟨pw, p8, _, _, b, _, _, rfl, k8.find (by walk_at "lk"), SqL.of (k8.find .here), by rw [List.length_map]; exact hyl, by rw [List.length_map]; omega, ne_of_none hpw5 n85, wo7, by omega, fun x a9 c9 H9 hx wo9 f9 h9 => ?_⟩
      have k9 := k8.up (by walk_at "ul") f9 h9 (.inl (by simp))
      obtain ⟨y, hy, rfl⟩ := List.mem_map.mp hx
      obtain ⟨cy, hcy, rfl⟩ := List.mem_map.mp (hp8.mem_iff.mp hy)
      have hyo := wf.nm cy hcy
      have hys := okNames_str _ hyo
      clear hx hy
      walk_at "go"
      rename_i it H10 nit k10
      refine ⟨pw, 8, _, b, _, _, rfl, by decide, by decide, k10.find (by walk_at "lk"), wo9, by omega, fun d8 a11 c11 H11 d80 d81 wo11 f11 h11 => ?_⟩
      have k11 := k10.up (by walk_at "ul") f11 h11 (.inl (by simp))
      clear k10 k9 k8 k7 k6
      walk_at "go"
      obtain ⟨w1, w2, w3, w4, w5, w6⟩ := words_ok wd hwd
      have hyl9 := okNames_len _ hyo
      have hfy : ∃ c, findC T cy.name = some c := ⟨cy, wf.find hcy⟩
      have frA : ∀ {q : Addr}, H5 q = none → ∀ a, a ∈ [pw, pn, ps] → V.ref q ≠ .ref a := fun h a ha => by
        simp at ha
        rcases ha with rfl | rfl | rfl
        · exact nref h hpw5
        · exact nref h hpn5
        · exact nref h hps5
      refine mid (fun σ H12 => ∃ (v11 : Option V) (x : V) (tp : Option (List V)) (a12 c12 : Int), σ = [some (.ref pw), some (.ref td), some (.str p), some (.str nm), some (.ref pn), some (.ref ps), some due, some (.int (0 + (i : Int))), some (.str wd), some (.str cy.name), some x, v11, v12, none, none] ∧
        KH H5 [pw, pn, ps] [(ps, .lst (vw.map (·.1))), (pn, .lst nms), (pw, wl a12 b c12)] H12 ∧ WellOk (N + 1 + 5 * i + 4) b c12 ∧ ItemN K [pw, pn, ps] H12 (x, tp) ∧ (∀ u v, tp = some [u, v] → PairK K H12 T (findC T nm = none) wd cy.name u v)) ?rest ?branch
      case branch =>
        intro Nx hNx
        have three : ∀ {L : List (Addr × HO)} {H' : Hp} {a' c' : Int}, KH H5 [pw, pn, ps] L H' → H' pw = some (wl a' b c') → H' pn = some (.lst nms) → H' ps = some (.lst (vw.map (·.1))) → KH H5 [pw, pn, ps] [(ps, .lst (vw.map (·.1))), (pn, .lst nms), (pw, wl a' b c')] H' := fun k h1 h2 h3 =>
          ((k.forget.cons h1 (by simp)).cons h2 (by simpa using k5.ne 1 2 rfl rfl (by decide))).cons h3 (by simpa using ⟨k5.ne 0 1 rfl rfl (by decide), k5.ne 0 2 rfl rfl (by decide)⟩)
        have hno : clsV T (.str "none") = false := by
          show (nameS "none" && (findC T "none").isSome) = false
          cases q : findC T "none" with
          | none => simp
          | some c0 =>
            have h1 := find_mem q
            have h2 := wf.nm c0 h1.1
            rw [h1.2] at h2
            exact absurd h2 (by decide +kernel)
        split
        · walk_at "go"
          rename_i pL HL nL kL
          refine ⟨pw, pL, _, _, b, _, _, rfl, kL.find (by walk_at "lk"), SqL.of (kL.find .here), by simp, by simp, ne_of_none hpw5 nL, wo11, by omega, fun x a13 c13 H13 hx wo13 f13 h13 => ?_⟩
          have k13 := kL.up (by walk_at "ul") f13 h13 (.inl (by simp))
          clear kL
          walk_at "go"
          have key : ∃ tp, ItemN K [pw, pn, ps] H13 (x, tp) ∧ ∀ u v, tp = some [u, v] → PairK K H13 T (findC T nm = none) wd cy.name u v := by
            simp only [List.mem_append, List.mem_cons, List.not_mem_nil, or_false] at hx
            rcases hx with ((rfl | rfl | rfl | rfl | rfl | rfl | rfl | rfl | rfl) | (rfl | rfl | rfl | rfl | rfl)) | (rfl | rfl | rfl)
            · exact ⟨_, itemT (k13.find (by walk_at "lk")) (frA (by assumption)) (by simp) (pl1 (partS w6)), fun u v e => by cases e⟩
            · exact ⟨none, itemO (.lst (k13.find (by walk_at "lk"))) (frA (by assumption)), fun u v e => by cases e⟩
            · exact ⟨none, itemO (.str w6) (fun _ _ z => nomatch z), fun u v e => by cases e⟩
            · exact ⟨none, itemO .non (fun _ _ z => nomatch z), fun u v e => by cases e⟩
            · exact ⟨none, itemO .int (fun _ _ z => nomatch z), fun u v e => by cases e⟩
            · exact ⟨none, itemO (.dct (k13.find (by walk_at "lk"))) (frA (by assumption)), fun u v e => by cases e⟩
            · exact ⟨_, itemT (k13.find (by walk_at "lk")) (frA (by assumption)) (by simp) (pl3 (partS w6) (partS hyl9) ⟨⟨_, .int⟩, fun _ _ z => nomatch z⟩), fun u v e => by cases e⟩
            · exact ⟨_, itemT (k13.find (by walk_at "lk")) (frA (by assumption)) (by simp) (pl2 (partS (by decide)) (partS hyl9)), fun u v e => by cases e; exact pairL hys (by decide +kernel) w3 (by decide +kernel)⟩
            · exact ⟨_, itemT (k13.find (by walk_at "lk")) (frA (by assumption)) (by simp) (pl2 (partS (by decide)) (partS hyl9)), fun u v e => by cases e; exact pairL hys (by decide +kernel) w4 (by decide +kernel)⟩
            · exact ⟨_, itemT (k13.find (by walk_at "lk")) (frA (by assumption)) (by simp) (pl2 (partS w6) (partS (by decide))), fun u v e => by cases e; exact pairS w2 hys (by decide +kernel) (fun _ _ => hno)⟩
            · exact ⟨_, itemT (k13.find (by walk_at "lk")) (frA (by assumption)) (by simp) (pl2 (partS w6) ⟨⟨_, .non⟩, fun _ _ z => nomatch z⟩), fun u v e => by cases e; exact pairR w2 .non rfl (Nat.zero_le _) rfl (fun _ => rfl)⟩
            · exact ⟨_, itemT (k13.find (by walk_at "lk")) (frA (by assumption)) (by simp) (pl2 (partS w6) ⟨⟨_, .lst (k13.find (by walk_at "lk"))⟩, frA (by assumption)⟩), fun u v e => by cases e; exact pairR w2 (.lst (SqL.of (k13.find (by walk_at "lk"))) .nil) rfl (by decide) rfl (fun _ => rfl)⟩
            · exact ⟨_, itemT (k13.find (by walk_at "lk")) (frA (by assumption)) (by simp) (pl2 ⟨⟨_, .bl⟩, fun _ _ z => nomatch z⟩ (partS hyl9)), fun u v e => by cases e; exact ⟨_, _, .bl _, .str _, shaped2 rfl (layS hys).1 (Nat.zero_le _) (Nat.zero_le _), .inr ⟨by rw [eqv2]; rfl, fun _ => rfl⟩⟩⟩
            · exact ⟨_, itemT (k13.find (by walk_at "lk")) (frA (by assumption)) (by simp) (pl2 (partS (by decide)) (partS hyl9)), fun u v e => by cases e; exact pairL hys (by decide +kernel) w5 (by decide +kernel)⟩
            · exact ⟨_, itemT (k13.find (by walk_at "lk")) (frA (by assumption)) (by simp) (pl2 (partS w6) ⟨⟨_, .tupl (k13.find (by walk_at "lk"))⟩, frA (by assumption)⟩), fun u v e => by cases e; exact pairR w2 (.tup (SqT.of (k13.find (by walk_at "lk"))) (.cons (.str _) .nil)) (by simpa [PyData.canLay0, PyData.canLayAll0] using hys) (by show max 0 0 + 1 ≤ 3; decide) rfl (fun _ => rfl)⟩
            all_goals exact ⟨_, itemT (k13.find (by walk_at "lk")) (frA (by assumption)) (by simp) (pl2 (partS w6) (partS (okNames_len _ hnmo))), fun u v e => by cases e; exact pairS w2 hys (okNames_str _ hnmo) (fun _ hz => by show (nameS nm && (findC T nm).isSome) = false; rw [hz]; simp)⟩
          obtain ⟨tp, I, pk⟩ := key
          exact hNx _ _ ⟨_, x, tp, a13, c13, rfl, three k13 h13 (k13.find (p := pn) (by walk_at "lk")) (k13.find (p := ps) (by walk_at "lk")), wo13.mono (by omega), I, pk⟩
        · walk_at "go"
          exact hNx _ _ ⟨_, _, _, a11, c11, rfl, three k11 h11 (k11.find (p := pn) (by walk_at "lk")) (k11.find (p := ps) (by walk_at "lk")), wo11.mono (by omega), itemT (k11.find (p := it) (by walk_at "lk")) (frA (by assumption)) (by simp) (pl2 (partS w6) (partS hyl9)), fun u v e => by cases e; exact pairE w2 hys⟩
      case rest =>
        rintro σ H12 ⟨v11', x, tp, a12, c12, rfl, k12, wo12, I, pk⟩
        dsimp only
        refine r_seq ?_
        refine midT (fun σ H13 => ∃ vb : Bool, σ = [some (.ref pw), some (.ref td), some (.str p), some (.str nm), some (.ref pn), some (.ref ps), some due, some (.int (0 + (i : Int))), some (.str wd), some (.str cy.name), some x, v11', some (.bl vb), none, none] ∧
          Wc.Ext H12 H13 ∧ (findC T nm = none → okI T nms tp = vb) ∧ (vb = true → tp = some [.str wd, .str cy.name])) ?_ ?_
        · rintro σ H13 ⟨vb, rfl, e13, hok, hvb⟩
          dsimp only
          refine r_seq ?_
          have k13 := k12.ext e13
          have I13 : ItemN K [pw, pn, ps] H13 (x, tp) := I.fr (B := []) e13.fr (by simp)
          have f5 : Fr [pw, pn, ps] H5 H13 := k13.fr
          have m5 : Mo H5 H13 := Mo.fr f5 (fun a ha => by
            simp at ha
            rcases ha with rfl | rfl | rfl
            · exact ⟨_, hpw5, rfl⟩
            · exact ⟨_, hpn5, rfl⟩
            · exact ⟨_, hps5, rfl⟩)
          have flw : flatV (.str wd) = true := rfl
          have wdok : nameV (.str wd) = true := w1
          have ycl : clsV T (.str cy.name) = true := by
            show (nameS cy.name && (findC T cy.name).isSome) = true
            rw [(okNames_ok _ hyo).1, wf.find hcy] <;> rfl
          have hf1 : vb = true → fstV tp = .str wd := fun z => by rw [hvb z]; rfl
          have dueE : ∀ {H'}, Wc.Ext H13 H' → Mo H5 H' := fun e => m5.trans e.mo
          refine midT (fun σ H14 => ∃ due' : V, σ = [some (.ref pw), some (.ref td), some (.str p), some (.str nm), some (.ref pn), some (.ref ps), some due', some (.int (0 + (i : Int))), some (.str wd), some (.str cy.name), some x, v11', some (.bl vb), none, none] ∧
            Wc.Ext H13 H14 ∧ (due' = .non ∨ ∃ d, due' = .ref d) ∧ (findC T nm = none → (due' = .non ∧ vb = true ∧ due = .non ∧ scan T (as.map V.str) vw = none ∧ nms = as.map V.str ++ vw.map (fun q => fstV q.2) ∧ scan T (as.map V.str) (vw ++ [(x, tp)]) = none) ∨ ∃ d z, due' = .ref d ∧ H14 d = some (.tup [.str "field", z]) ∧ scan T (as.map V.str) (vw ++ [(x, tp)]) = some z)) ?_ ?_
          · rintro σ H14 ⟨due', rfl, e14, hdn', hdue'⟩
            have k14 := k13.ext e14
            have k14' := k14.rebaseM [pw, pn, ps] k14.md
            have hszn : nms.length < sizeLine := sz_lt (by omega)
            have hszv : (vw.map (·.1)).length < sizeLine := sz_lt (by rw [List.length_map]; omega)
            walk_at "go"
            rename_i H16 k16
            have m1416 : Mo H14 H16 := Mo.fr k16.fr (fun a ha => by
              simp at ha
              rcases ha with rfl | rfl | rfl
              · exact ⟨_, k14.find (by walk_at "lk"), rfl⟩
              · exact ⟨_, k14.find (by walk_at "lk"), rfl⟩
              · exact ⟨_, k14.find (by walk_at "lk"), rfl⟩)
            have m16 : Mo H5 H16 := (dueE e14).trans m1416
            have I16 : ItemN K [pw, pn, ps] H16 (x, tp) := (I13.fr (B := []) e14.fr (by simp)).fr k16.fr (fun a h => h)
            have hold : ∀ q, q ∈ vw → ItemN K [pw, pn, ps] H16 q := fun q hq => ((hit q hq).fr k14.fr (fun a h => h)).fr k16.fr (fun a h => h)
            have kj : KH H [pw] [(ps, .lst ((vw ++ [(x, tp)]).map (·.1))), (pn, .lst (nms ++ [.str wd])), (pw, wl a12 b c12)] H16 := by
              rw [List.map_append]
              exact KH.join k5 k14 k16 (by simp) (fun a ha => by
                simp at ha
                rcases ha with rfl | rfl | rfl
                · exact .inl (by simp)
                · exact .inr npn0
                · exact .inr nps)
            refine ⟨_, _, _, _, _, _, due', a12, c12, nms ++ [.str wd], vw ++ [(x, tp)], rfl, kj, wo12.mono (by omega), by rw [List.length_append, hvl]; rfl, by rw [List.all_append, hfl]; rfl, by rw [List.length_append, hnl]; rfl, fun q hq => ?_, hdn', fun z => ?_⟩
            · rcases List.mem_append.mp hq with hq | hq
              · exact hold q hq
              · rw [show q = (x, tp) by simpa using hq]
                exact I16
            · rcases hdue' z with ⟨h1, h2, h3, h4, h5, h6⟩ | ⟨d1, z1, h1, h2, h3⟩
              · refine .inl ⟨h1, h6, ?_, ?_⟩
                · rw [h5, List.map_append, List.append_assoc]
                  show _ ++ (_ ++ [V.str wd]) = _ ++ (_ ++ [fstV tp])
                  rw [hf1 h2]
                · rcases hdue z with ⟨_, _, _, bs, hbs⟩ | ⟨d2, _, h7, _⟩
                  · obtain ⟨ax, h8, h9⟩ := I16.it.th.tup _ (hvb h2)
                    rw [List.map_append]
                    exact ⟨bs ++ [wd], Wc.pAppend (Paired.mapP hbs fun _ _ q => q.mo m16) (.cons ⟨ax, cy.name, h8, h9, w2, hys⟩ .nil)⟩
                  · rw [h3] at h7
                    cases h7
              · exact .inr ⟨d1, z1, h1, m1416 _ _ rfl h2, h3⟩
          · intro Nx hNx
            walk_at "go"
            refine ⟨rfl, ?_⟩
            walk_at "go"
            rcases hdn with rfl | ⟨d0, rfl⟩
            · walk_at "go"
              have sc : findC T nm = none → scan T (as.map V.str) vw = none ∧ nms = as.map V.str ++ vw.map (fun q => fstV q.2) := fun z => by
                rcases hdue z with ⟨_, h1, h2, _⟩ | ⟨_, _, h, _⟩
                · exact ⟨h1, h2⟩
                · cases h
              cases vb with
              | true =>
                walk_at "go"
                refine hNx _ _ ⟨_, rfl, Wc.Ext.refl _, .inl rfl, fun z => .inl ⟨rfl, rfl, rfl, (sc z).1, (sc z).2, ?_⟩⟩
                rw [scan_snoc, (sc z).1]
                show (if _ then _ else _) = _
                rw [← (sc z).2, if_pos (hok z)]
              | false =>
                have ky := KH.start (H := H13)
                walk_at "go"
                rename_i td2 H14 ntd2 k14
                refine hNx _ _ ⟨_, rfl, k14.extE, .inr ⟨_, rfl⟩, fun z => .inr ⟨td2, x, rfl, k14.find .here, ?_⟩⟩
                rw [scan_snoc, (sc z).1]
                show (if _ then _ else _) = _
                rw [← (sc z).2, if_neg (by rw [hok z]; simp)]
            · walk_at "go"
              refine hNx _ _ ⟨_, rfl, Wc.Ext.refl _, .inr ⟨_, rfl⟩, fun z => .inr ?_⟩
              rcases hdue z with ⟨h, _⟩ | ⟨d1, z1, h1, h2, h3⟩
              · cases h
              · exact ⟨d1, z1, h1, m5 _ _ rfl h2, by rw [scan_snoc, h3]⟩
        · intro Nx hNx
          obtain ⟨ty, t1, t2, t3⟩ := I.it.th.ty
          walk_at "go"
          refine r_isi (.ty _) t1 t3 ?_
          walk_at "go"
          cases tp with
          | none =>
            walk_at "go"
            exact hNx _ _ ⟨false, rfl, Wc.Ext.refl _, fun _ => rfl, fun z => nomatch z⟩
          | some ys =>
            obtain ⟨ax, rfl, hax⟩ := I.it.th.tup ys rfl
            walk_at "go"
            refine ⟨ax, ys, rfl, .inr (SqT.of hax), ?_⟩
            walk_at "go"
            match ys, hax, pk with
            | [], hax, pk =>
              walk_at "go"
              exact hNx _ _ ⟨false, rfl, Wc.Ext.refl _, fun _ => rfl, fun z => nomatch z⟩
            | [_], hax, pk =>
              walk_at "go"
              exact hNx _ _ ⟨false, rfl, Wc.Ext.refl _, fun _ => rfl, fun z => nomatch z⟩
            | (_ :: _ :: y3 :: ys), hax, pk =>
              rw [show decide (V.int (((_ :: _ :: y3 :: ys : List V).length : Nat) : Int) = V.int 2) = false from decide_eq_false (fun z => by have z := V.int.inj z; simp at z; omega)]
              walk_at "go"
              exact hNx _ _ ⟨false, rfl, Wc.Ext.refl _, fun _ => rfl, fun z => nomatch z⟩
            | [u, v], hax, pk =>
              obtain ⟨du, dv, hdu, hdv, hsh, hcase⟩ := pk u v rfl
              have kx := KH.start (H := H12)
              walk_at "go"
              rename_i tq H13 ntq k13
              have e13 := k13.extE
              have hq := k13.find (p := tq) .here
              have hdp : ∀ {z : V} {d : PyData}, Dp K H12 z d → Dp K H13 z d := fun h => Dp.ext e13 h
              refine ⟨.tuple [du, dv], .tuple [.str wd, .str cy.name], .tup (SqT.of (e13 _ _ hax)) (.cons (hdp hdu) (.cons (hdp hdv) .nil)), .tup (SqT.of hq) (.cons (.str _) (.cons (.str _) .nil)), hsh, shaped2 (layS w2).1 (layS hys).1 (layS w2).2 (layS hys).2, ?_⟩
              have hpn13 := e13 _ _ (k12.find (p := pn) (by walk_at "lk"))
              rcases hcase with ⟨rfl, rfl, he⟩ | ⟨he, hz⟩
              · rw [he]
                walk_at "go"
                refine ⟨pn, nms, rfl, .inl (SqL.of hpn13), rfl, hfl, ?_⟩
                walk_at "go"
                refine hNx _ _ ⟨_, rfl, e13, fun _ => ?_, fun _ => rfl⟩
                show (nameS wd && (!inV (.str wd) nms && clsV T (.str cy.name))) = !inV (.str wd) nms
                rw [w1, show clsV T (.str cy.name) = true by show (nameS cy.name && (findC T cy.name).isSome) = true; rw [(okNames_ok _ hyo).1, wf.find hcy] <;> rfl]
                simp
              · rw [he]
                walk_at "go"
                refine hNx _ _ ⟨false, rfl, e13, fun hz0 => ?_, fun z => nomatch z⟩
                have := hz hz0
                show (nameV u && (!inV u nms && clsV T v)) = false
                revert this
                cases nameV u <;> cases clsV T v <;> simp
    · rintro σ H5 ⟨v7, v8, v9, v10, v11, v12, due, a5, c5, nms, vw, rfl, k5, wo5, hvl, hfl, hnl, hit, hdn, hdue⟩
      have i3 : dn ≤ 3 := by omega
      have itm : ∀ {H' : Hp}, Fr [pw] H5 H' → ∀ q, q ∈ vw → ItemN K [pw] H' q := fun f q hq =>
        have I := (hit q hq).fr f (by simp)
        ⟨I.it, fun a ha => I.ne a (by simp at ha; simp [ha]), fun ys z y hy a ha => I.pt ys z y hy a (by simp at ha; simp [ha])⟩
      have hpw5 := k5.find (p := pw) (by walk_at "lk")
      walk_at "go"
      refine ⟨ps, vw.map (·.1), rfl, .inl ⟨SqL.of (k5.find (by walk_at "lk")), fun hd hhd => ?_⟩⟩
      have k6 := k5.new (o := .tup (vw.map (·.1))) hhd
      have nhd := k5.fresh hhd
      have e56 : Wc.Ext H5 (upd H5 hd (.tup (vw.map (·.1)))) := .new hhd
      generalize upd H5 hd _ = H6 at k6 e56 ⊢
      walk_at "go"
      refine ⟨pw, 12, _, b, _, _, rfl, by decide, by decide, k6.find (by walk_at "lk"), wo5, by omega, fun d7 a7 c7 H7 d70 d71 wo7 f7 h7 => ?_⟩
      have k7 := k6.up (by walk_at "ul") f7 h7 (.inl (by simp))
      have f57 : Fr [pw] H5 H7 := e56.fr.trans f7
      have m57 : Mo H5 H7 := e56.mo.trans (Mo.fr1 f7 (k6.find (by walk_at "lk")) rfl)
      walk_at "go"
      split
      · walk_at "go"
        rename_i pl H8 npl k8
        refine ⟨pw, pl, _, _, b, _, _, rfl, k8.find (by walk_at "lk"), SqL.of (k8.find .here), by simp, by simp, ne_of_none hpw npl, wo7, by omega, fun x a9 c9 H9 hx wo9 f9 h9 => ?_⟩
        have k9 := k8.up (by walk_at "ul") f9 h9 (.inl (by simp))
        have key : ∃ tf, Th K H9 x tf ∧ x ≠ .ref pw ∧ (tf = none ∨ ∃ xs, tf = some xs ∧ 3 < xs.length) := by
          simp only [List.mem_cons, List.not_mem_nil, or_false] at hx
          rcases hx with rfl | rfl | rfl | rfl | rfl | rfl
          · exact ⟨_, .lst (k9.find (by walk_at "lk")), nref (by assumption) hpw, .inl rfl⟩
          · exact ⟨_, .non, (fun z => nomatch z), .inl rfl⟩
          · exact ⟨_, .str (by decide), (fun z => nomatch z), .inl rfl⟩
          · exact ⟨_, .dct (k9.find (by walk_at "lk")), nref (by assumption) hpw, .inl rfl⟩
          · exact ⟨_, .int, (fun z => nomatch z), .inl rfl⟩
          · exact ⟨_, .tupl (k9.find (by walk_at "lk")), nref (by assumption) hpw, .inr ⟨_, rfl, by simp⟩⟩
        obtain ⟨tf, th, ne, hbig⟩ := key
        have kz := k9.rebase
        walk_at "go"
        rename_i dd H10 ndd k10 tt H11 ntt k11
        exact k tt x (.ref dd) a9 c9 H11 (k9.fr.trans k11.extE.fr) (k11.find (by walk_at "lk")) (wo9.mono (by omega)) (k9.fresh ntt) (k11.find .here) ⟨tf, th_ext th k11.extE, ne, .inl ⟨hbig, dd, rfl, k11.find (by walk_at "lk")⟩⟩
      · have kz := k7.rebase
        walk_at "go"
        rename_i tt H11 ntt k11
        have e711 := k11.extE
        refine k tt (.ref hd) due a7 c7 H11 (k7.fr.trans e711.fr) (k11.find (by walk_at "lk")) (wo7.mono (by omega)) (k7.fresh ntt) (k11.find .here) ⟨_, .tupl (k11.find (p := hd) (by walk_at "lk")), nref nhd hpw, .inr ⟨_, vw, rfl, by rw [List.length_map, hvl]; exact i3, rfl, itm (f57.trans e711.fr), fun z => ?_⟩⟩
        rcases hdue z with ⟨h1, h2, h3, bs, h4⟩ | ⟨d1, z1, h1, h2, h3⟩
        · exact .inl ⟨h1, h2, bs, Paired.mapP h4 fun _ _ q => q.mo (m57.trans e711.mo)⟩
        · exact .inr ⟨d1, z1, h1, (m57.trans e711.mo) _ _ rfl h2, h3⟩
end
end K01

set_option Elab.async false
set_option linter.all false
set_option maxRecDepth 100000
set_option maxHeartbeats 1000000
namespace K01
open PySem L2 Wc
local macro_rules | `(tactic| walk_at "lk") => `(tactic| first | with_reducible exact Look.here | (with_reducible apply Look.there; walk_at "lk"))
local macro_rules | `(tactic| walk_at "ul") => `(tactic| first | with_reducible exact UpL.here | (with_reducible apply UpL.there; walk_at "ul"))
local macro_rules | `(tactic| walk_at "ga") => `(tactic| first | exact GetAt.here | (apply GetAt.there; walk_at "ga"))
local macro_rules | `(tactic| walk_at "sa") => `(tactic| first | exact SetAt.here | (apply SetAt.there; walk_at "sa"))
local macro_rules | `(tactic| walk_at "hp") => `(tactic| first | assumption | (refine' KH.find ?k ?h; (case k => assumption); (case h => walk_at "lk")))
local macro_rules | `(tactic| walk_at "sql") => `(tactic| first | assumption | (refine' SqL.of ?h; (case h => walk_at "hp")) | (refine' Fr.sql (KH.fr ?k) ?n ?h; (case k => assumption); (case h => assumption); (case n => (simp; done))))
local macro_rules | `(tactic| walk_at "sqt") => `(tactic| first | assumption | (refine' SqT.of ?h; (case h => walk_at "hp")))
local macro_rules | `(tactic| walk_at "side") => `(tactic| first | exact (show (0 : Int) < _ by decide) | exact (show (0 : Int) < _ by omega) | exact ⟨by decide, by decide, by decide⟩ | exact ⟨by decide, by decide, by omega⟩ | exact ⟨by decide, by decide⟩ | exact ⟨by omega, by omega⟩ | exact Or.inl ⟨by omega, by omega⟩ | exact Or.inr ⟨by omega, by omega⟩)
local macro_rules | `(tactic| walk_at "siz") => `(tactic| first | (refine sz_of ?_; first | decide | omega | (simp; done) | (simp; omega)) | (refine sz_lt ?_; first | decide | omega | (simp; done) | (simp; omega)))
local macro_rules | `(tactic| walk_at "own") => `(tactic| first | (exact Or.inr (by assumption)) | (refine Or.inl ?_; simp; done))
local macro_rules | `(tactic| walk_at "al") => `(tactic| (refine' AllocO.mk ?k ?_; (case k => assumption); intro _ _ _ _))
local macro_rules | `(tactic| walk_at "up") => `(tactic| (refine' UpdO.mk ?k ?h ?m ?_; (case k => assumption); (case h => walk_at "ul"); (case m => walk_at "own"); intro _ _))
local macro_rules | `(tactic| walk_at "st") => `(tactic| first
  | ((with_reducible refine' r_var ?h ?_); (case h => walk_at "ga"))
  | (with_reducible refine' r_seq ?_) | (with_reducible refine' r_next ?_) | (with_reducible refine' r_asg ?_) | (with_reducible refine' r_drop ?_) | (with_reducible refine' r_ret ?_) | (with_reducible refine' r_retN ?_)
  | (with_reducible refine' r_ifs ?_) | (with_reducible refine' r_cont ?_) | (with_reducible refine' r_break ?_) | (with_reducible refine' r_c ?_) | (with_reducible refine' r_op ?_) | (with_reducible refine' r_un ?_)
  | (with_reducible refine' r_test ?_) | (with_reducible refine' r_tB ?_) | (with_reducible refine' r_not ?_) | (with_reducible refine' r_and ?_) | (with_reducible refine' r_or ?_) | (with_reducible refine' r_notV ?_)
  | (with_reducible refine' r_andV ?_) | (with_reducible refine' r_orV ?_) | (with_reducible refine' r_ifE ?_) | (with_reducible refine' r_bl ?_) | (with_reducible refine' r_nil ?_) | (with_reducible refine' r_cons ?_)
  | (with_reducible refine' r_tup ?_) | (with_reducible refine' r_lst ?_) | (with_reducible refine' r_cb ?_) | (with_reducible refine' r_call ?_) | ((with_reducible refine' r_name ?h ?_); (case h => walk_at "sa")) | (with_reducible refine' r_gnil ?_)
  | (with_reducible refine' r_gcons ?_) | (with_reducible refine' r_gsub ?_) | (with_reducible refine' r_par ?_) | (with_reducible refine' r_par2 ?_) | (with_reducible refine' r_I0 ?_) | (with_reducible refine' r_U ?_)
  | ((with_reducible refine' r_eq ?h ?_); (case h => rfl)) | ((with_reducible refine' r_ne ?h ?_); (case h => rfl))
  | ((with_reducible refine' r_ixL ?h ?a ?_); (case h => walk_at "sql"); (case a => rfl))
  | ((with_reducible refine' r_ixT ?h ?a ?_); (case h => walk_at "sqt"); (case a => rfl))
  | ((with_reducible refine' r_setL ?h ?a ?_); (case h => walk_at "hp"); (case a => rfl))
  | ((with_reducible refine' r_I ?c ?_); (case c => walk_at "side"))
  | (with_reducible refine' r_sl ?_) | (with_reducible refine' r_part ?_) | (with_reducible refine' r_nopart ?_) | (with_reducible refine' r_ii ?_)
  | ((with_reducible refine' r_slL ?h ?_); (case h => walk_at "sql"))
  | (with_reducible refine' r_bm ?_) | (with_reducible refine' r_bm0 ?_) | (with_reducible refine' r_int1 ?_) | (with_reducible refine' r_int1b ?_)
  | ((with_reducible refine' r_aug ?h ?_); (case h => walk_at "ga"))
  | ((with_reducible refine' r_cat ?a ?b ?z ?_); (case a => walk_at "hp"); (case b => walk_at "hp"); (case z => walk_at "siz"))
  | ((with_reducible refine' r_append ?a ?z ?_); (case a => walk_at "hp"); (case z => walk_at "siz"))
  | ((with_reducible refine' And.intro ?z ?_); (case z => first | walk_at "siz" | exact Or.inl ⟨rfl, _, by walk_at "sql"⟩))
  | ((with_reducible refine' r_gtup ?h ?l ?_); (case h => walk_at "sqt"); (case l => rfl))
  | (with_reducible refine' r_forL ?_) | (with_reducible refine' r_forE ?_) | (with_reducible refine' r_forR ?_) | ((with_reducible refine' r_forL2 ?h ?_); (case h => walk_at "sql")) | ((with_reducible refine' r_forE2 ?h ?_); (case h => walk_at "sql"))
  | (with_reducible refine' r_lcR ?_) | ((with_reducible refine' r_iteT ?h ?_); (case h => rfl)) | ((with_reducible refine' r_iteF ?h ?_); (case h => rfl))
  | (with_reducible refine' r_dnew ?_) | (with_reducible refine' r_vei ?_) | (with_reducible refine' r_ost ?_) | (with_reducible refine' r_mkV ?_) | (with_reducible refine' r_mkX ?_) | (with_reducible refine' r_xfld ?_)
  | ((with_reducible refine' MkG.mk ?o ?n ?k ?_); (case o => exact ErrOk.o (by assumption)); (case n => exact ErrOk.no (by assumption)); (case k => assumption); intro _ _ _ _)
  | ((with_reducible refine' AllocX.mk ?k ?_); (case k => assumption); intro _ _ _ _)
  | (with_reducible refine' r_chain ?_) | (with_reducible refine' r_lcS ?_) | (with_reducible refine' r_lcS2 ?_) | (with_reducible refine' r_lcL ?_) | (with_reducible refine' r_lcT ?_) | (with_reducible refine' r_lcI ?_) | (with_reducible refine' r_yes ?_)
  | (with_reducible refine' r_fld ?_) | (with_reducible refine' r_sfld ?_) | (with_reducible refine' r_meth ?_) | (with_reducible refine' r_make ?_) | (with_reducible refine' r_dget ?_) | (with_reducible refine' r_din ?_) | (with_reducible refine' r_dput ?_)
  | ((with_reducible refine' r_disp ?k ?_); (case k => assumption); intro _ _ _ _) | (with_reducible refine' r_pnil ?_) | (with_reducible refine' r_pcons ?_)
  | (walk_at "al") | (walk_at "up"))
local macro_rules | `(tactic| walk_at "go") => `(tactic| repeat walk_at "st")

section
variable {P : Program} {w : World} {K : PySem.W.Frag} {mg : Str → Option Value} {base : Heap} {f : Addr} {fd : FuncData} {CK CR NC NF TK WE : Addr}
theorem th_frn {K : PySem.W.Frag} {A : List Addr} {H H' : Hp} {x : V} {tp : Option (List V)} (t : Th K H x tp) (e : FrN A H H') (hA : ∀ a, a ∈ A → x ≠ .ref a) : Th K H' x tp := by
  obtain ⟨⟨ty, h1, h2, h3⟩, h4, h5, h6⟩ := t
  have go : ∀ {a : Addr} {o : HO}, x = .ref a → H a = some o → (∀ ps, o ≠ .tbl ps) → H' a = some o := fun e1 h n => e _ _ (fun m => hA _ m e1) n h
  refine ⟨⟨ty, ?_, h2, h3⟩, fun xs z => ?_, h5, h6⟩
  · cases h1 with
    | base h =>
      refine .base ?_
      cases h with
      | non => exact .non
      | bl b => exact .bl b
      | int i => exact .int i
      | str s => exact .str s
      | flt s => exact .flt s
      | lst h => exact .lst (go rfl h fun _ z => nomatch z)
      | frz h => exact .frz (go rfl h fun _ z => nomatch z)
      | tup h => exact .tup (go rfl h fun _ z => nomatch z)
      | dK h => exact .dK (go rfl h fun _ z => nomatch z)
      | dT h => exact .dT (go rfl h fun _ z => nomatch z)
      | ins h c a b d g => exact .ins (go rfl h fun _ z => nomatch z) c a b d g
    | byt b => exact .byt b
    | set h => exact .set (go rfl h fun _ z => nomatch z)
    | kList h c => exact .kList h c
    | kTuple h c => exact .kTuple h c
    | kDict h c => exact .kDict h c
    | fTuple h => exact .fTuple (go rfl h fun _ z => nomatch z)
    | fDict h => exact .fDict (go rfl h fun _ z => nomatch z)
  · obtain ⟨a, h6, h7⟩ := h4 xs z
    exact ⟨a, h6, go h6 h7 fun _ z => nomatch z⟩
theorem partN {K : PySem.W.Frag} {A : List Addr} {H H' : Hp} {y : V} (p : PartOk K A H y) (e : FrN A H H') : PartOk K A H' y := ⟨p.1.imp fun _ t => th_frn t e p.2, p.2⟩
theorem itemFrn {K : PySem.W.Frag} {A : List Addr} {H H' : Hp} {q : Vw} (I : ItemN K A H q) (e : FrN A H H') : ItemN K A H' q :=
  ⟨⟨th_frn I.it.th e I.ne, fun ys z => ⟨(I.it.parts ys z).1, fun y hy => by
    obtain ⟨tq, t⟩ := (I.it.parts ys z).2 y hy
    exact ⟨tq, th_frn t e (I.pt ys z y hy)⟩⟩⟩, I.ne, I.pt⟩
theorem fresN {K : PySem.W.Frag} {pw : Addr} {T : List Cl} {nm : Str} {as : List Str} {H H' : Hp} {fl due : V} (h : FRes K pw T nm as H fl due) (e : FrN [pw] H H') (m : Mo H H') : FRes K pw T nm as H' fl due := by
  obtain ⟨tf, th, ne, h⟩ := h
  refine ⟨tf, th_frn th e (fun a ha => by rw [show a = pw by simpa using ha]; exact ne), ne, ?_⟩
  rcases h with ⟨hb, d, h1, h2⟩ | ⟨xs, vw, h1, h2, h3, h4, h5⟩
  · exact .inl ⟨hb, d, h1, m _ _ rfl h2⟩
  · refine .inr ⟨xs, vw, h1, h2, h3, fun q hq => itemFrn (h4 q hq) e, fun z => ?_⟩
    rcases h5 z with ⟨g1, g2, bs, g3⟩ | ⟨d, x, g1, g2, g3⟩
    · exact .inl ⟨g1, g2, bs, Paired.mapP g3 fun _ _ q => q.mo m⟩
    · exact .inr ⟨d, x, g1, m _ _ rfl g2, g3⟩
def DueIs (H : Hp) (due : V) (tag : Str) (v : V) : Prop := ∃ d, due = .ref d ∧ H d = some (.tup [.str tag, v])
theorem DueIs.mo {H H' : Hp} {due : V} {tag : Str} {v : V} (h : DueIs H due tag v) (m : Mo H H') : DueIs H' due tag v := by
  obtain ⟨d, h1, h2⟩ := h
  exact ⟨d, h1, m _ _ rfl h2⟩
/-- the class above, and what is due for it -/
def Ab (K : PySem.W.Frag) (pw : Addr) (T : List Cl) (nm : Str) (as : List Str) (H : Hp) (p : Str) (fl pr due : V) : Prop :=
  (pr = .str p ∧ ((p = "int" ∧ DueIs H due "class" (.str "int")) ∨ (p ≠ "int" ∧ FRes K pw T nm as H fl due))) ∨ (DueIs H due "class" pr ∧ (findC T nm = none → clsV T pr = false))
theorem abN {K : PySem.W.Frag} {pw : Addr} {T : List Cl} {nm p : Str} {as : List Str} {H H' : Hp} {fl pr due : V} (h : Ab K pw T nm as H p fl pr due) (e : FrN [pw] H H') (m : Mo H H') : Ab K pw T nm as H' p fl pr due := by
  rcases h with ⟨h1, ⟨h2, h3⟩ | ⟨h2, h3⟩⟩ | ⟨h1, h2⟩
  · exact .inl ⟨h1, .inl ⟨h2, h3.mo m⟩⟩
  · exact .inl ⟨h1, .inr ⟨h2, fresN h3 e m⟩⟩
  · exact .inr ⟨h1.mo m, h2⟩
theorem qualE {CX : CXT} {N : List Str} {q : Str} {scope : Scope} {f : Addr} {cdv : Value} {A : Around} {outer : List Env} {s : Shared} {H : Hp} {E : XK} : (cxOf CX P w K mg base N q scope f cdv A outer s H E).nox.env.qual = q ++ (".<locals>." : Str) := rfl
theorem midV {S : VK → Prop} {Q : VK} (Mid : V → Hp → Prop) (h : ∀ v H, Mid v H → Q v H) (h2 : ∀ QQ : VK, (∀ v H, Mid v H → QQ v H) → S QQ) : S Q := h2 Q h
theorem dsm_of {H H' : Hp} {v : V} {tq : Option (List V)} (t : Th K H v tq) : DSm v v H' := by
  rcases t.fl with h | ⟨a, h⟩
  · exact .inl ⟨rfl, h⟩
  · exact .inr ⟨a, h, h⟩
theorem scan_mem {T : List Cl} {x : V} : ∀ {vw : List Vw} {nm : List V}, scan T nm vw = some x → x ∈ vw.map (·.1)
  | [], nm, h => by cases h
  | (y, tp) :: vw, nm, h => by
    have h : (if okI T nm tp = true then scan T (nm ++ [fstV tp]) vw else some y) = some x := h
    split at h
    · exact List.mem_cons_of_mem _ (scan_mem h)
    · cases h
      exact List.mem_cons_self
theorem r_callN {n m : Nat} {sp : Sp} {gV : List V → List V → List V} {E : XK} {t tk : TA} {σ : L2.St} {H : Hp} {Q : VK} (h : t σ H fun vs H1 => tk σ H1 fun zs H2 => vs.length = n ∧ zs.length = m ∧ sp (gV vs zs) H2 Q E) : L2.tCallN n m sp gV E t tk σ H Q := h
theorem KH.one {H H' : Hp} {p : Addr} {o : HO} (f : Fr [p] H H') (h : H' p = some o) : Wc.KH H [p] [(p, o)] H' := ⟨fun j q u e => by
    cases j with
    | zero =>
      simp at e
      obtain ⟨rfl, rfl⟩ := e
      exact h
    | succ j => simp at e, by simp, f, fun a m => by
    have e : a = p := by simpa using m
    exact ⟨o, by rw [e]; exact h⟩⟩
abbrev lamQ : Str := (("_law_step" : Str) ++ (".<locals>." : Str)) ++ ("<lambda>" : Str)
def spStep (K : PySem.W.Frag) (CK CR Pt : Addr) : Sp := fun vs H Q _ => ∃ pw r td kd tl T n a b c N kvs, vs = [.ref pw, .ref r, .ref td, .int (n : Nat)] ∧ H pw = some (wl a b c) ∧ WellOk N b c ∧ N ≤ 10000000 ∧ RtW CK CR H r kd tl T n ∧ H td = some (.dK kvs) ∧ ByN (RowAt H) T kvs ∧ td ≠ kd ∧ tl ≠ pw ∧ WF T n ∧ n ≤ 17 ∧ FieldsOk H T ∧ LamX.Tabs [(Pt, lamQ)] H ∧
  ∀ T' n' kvs' a' c' H', n' ≤ n + 1 → H' pw = some (wl a' b c') → WellOk (N + 40) b c' → RtW CK CR H' r kd tl T' n' → H' td = some (.dK kvs') → ByN (RowAt H') T' kvs' → WF T' n' → FieldsOk H' T' → LamX.Tabs [(Pt, lamQ)] H' → FrN [pw, kd, tl, td] H H' → Q (.int (n' : Nat)) H'
theorem ok_step {cc Pt g fa : Addr} {oc dV kV doc pm ct oc2 dV2 kV2 doc2 pm2 cdv2 ct2 : Value} {od an od2 an2 : Option Addr} {osl osl2 : Array (Option Value)} {fdA : FuncData}
    (lk : K.lookup f = some ⟨oc, od, .func (PySem.W.fnOf "_law_step" "_law_step" (defArgs s_l_step) (defBody s_l_step) (defScope s_l_step) dV kV doc pm an (.ref cc) ct), osl⟩) (hcd : PySem.W.codeIn K (.ref cc) "_law_step" = true) (TB : LamX.TabB base mg cc Pt)
    (hmS : mg "_law_said" = some (.ref g)) (kpS : PySem.W.keepIn K (.ref g) = true) (lkS : K.lookup g = some ⟨oc2, od2, .func (PySem.W.fnOf "_law_said" "_law_said" (defArgs s_l_said) (defBody s_l_said) (defScope s_l_said) dV2 kV2 doc2 pm2 an2 cdv2 ct2), osl2⟩)
    (hcS : PySem.W.codeIn K cdv2 "_law_said" = true) (bS : L2.Binds K (PySem.W.fnOf "_law_said" "_law_said" (defArgs s_l_said) (defBody s_l_said) (defScope s_l_said) dV2 kV2 doc2 pm2 an2 cdv2 ct2) ["_law_ask"] [])
    (h3 : ThreeX K NC TK NF WE) (gC : mg "NoClass" = some (.ref NC)) (gT : mg "Taken" = some (.ref TK)) (gF : mg "NoField" = some (.ref NF)) (gW : mg "WorldError" = some (.ref WE))
    (gA : mg "add_class" = some (.ref fa)) (kpA : PySem.W.keepIn K (.ref fa) = true) (KB : KBn K fdA ["runtime", "name", "parent", "fields"] 3 ["fields"] (fun us ws => us ++ ws) (fun vs zs => vs ++ zs)) (FA : FnOk P w K mg base (L2.CX P w) 4 fa fdA ["runtime", "name", "parent", "fields"] (spAdd K CK CR NC TK NF))
    (T : Bt mg) (D_l_draw : DfOk P w K mg base CX0 1 "_law_draw" ["_law_well_here", "_law_many"] spDraw) (D_l_one : DfOk P w K mg base CX0 2 "_law_one" ["_law_well_here", "_law_some"] (spOne K))
    (D_l_fields : DfOk P w K mg base CX0 3 "_law_fields" ["_law_well_here", "_law_tree", "_law_above", "_law_name"] (spLFields K)) (D_now : DfOk P w K mg base CX0 2 "now" ["runtime"] (spNow CK CR)) :
    FnOk P w K mg base CX0 7 f (PySem.W.fnOf "_law_step" "_law_step" (defArgs s_l_step) (defBody s_l_step) (defScope s_l_step) dV kV doc pm an (.ref cc) ct) ["_law_well_here", "_law_runtime", "_law_tree", "_law_moment"] (spStep K CK CR Pt) := by
  refine fn_of lk hcd sc_l_step (fun vs H Q E h => ?_) (fun A outer s H vs Q E hr h => ?_)
  · obtain ⟨pw, r, td, kd, tl, T, n, a, b, c, N, kvs, rfl, _⟩ := h
    rfl
  · refine ⟨_, PSs.nox (pss_cons (ps_set (i := 4) sc_l_step.nd rfl (by first | exact Or.inl rfl | exact Or.inr rfl) (pe_callD D_l_one hr (pa_cons (pv 0) (pa_cons (pe_lst (pa_cons pe_str (pa_cons pe_str (pa_cons pe_str (pa_cons pe_str (pa_cons pe_str (pa_cons pe_str (pa_cons pe_str (pa_cons pe_str (pa_cons pe_str pa_nil)))))))))) pa_nil))))
      (pss_cons (ps_set (i := 5) sc_l_step.nd rfl (by first | exact Or.inl rfl | exact Or.inr rfl) (pe_callD D_l_one hr (pa_cons (pv 0) (pa_cons (pe_callB (call_sortedD rfl) (by rfl) T.f_sorted PyProof.Rows.boot_sorted (pa_cons (pv 2) pa_nil)) pa_nil))))
      (pss_cons (ps_asg (pe_callD D_l_fields hr (pa_cons (pv 0) (pa_cons (pv 2) (pa_cons (pv 5) (pa_cons (pv 4) pa_nil))))) (pg_tup rfl (pgs_cons (pg_name (i := 6) sc_l_step.nd rfl (by first | exact Or.inl rfl | exact Or.inr rfl)) (pgs_cons (pg_name (i := 7) sc_l_step.nd rfl (by first | exact Or.inl rfl | exact Or.inr rfl)) pgs_nil))))
      (pss_cons (ps_if (pt_cmpR op_eq (pv 5) pe_str (nomark _)) (pss_one (ps_set (i := 7) sc_l_step.nd rfl (by first | exact Or.inl rfl | exact Or.inr rfl) (pe_tup (pa_cons pe_str (pa_cons pe_str pa_nil))))) pss_nil)
      (pss_cons (ps_if (pt_cmpR op_eq (pe_callD D_l_draw hr (pa_cons (pv 0) (pa_cons pe_int pa_nil))) pe_int (nomark _)) (pss_cons (ps_set (i := 5) sc_l_step.nd rfl (by first | exact Or.inl rfl | exact Or.inr rfl) (pe_callD D_l_one hr (pa_cons (pv 0) (pa_cons (pe_lst (pa_cons pe_str (pa_cons pe_str (pa_cons pe_non (pa_cons pe_int (pa_cons (pe_lst pa_nil) (pa_cons pe_dnewK (pa_cons (pe_tup (pa_cons pe_str pa_nil)) (pa_cons (pe_cmpR op_eq pe_int pe_int (nomark _)) (pa_cons (pv 4) pa_nil)))))))))) pa_nil))))
      (pss_one (ps_set (i := 7) sc_l_step.nd rfl (by first | exact Or.inl rfl | exact Or.inr rfl) (pe_tup (pa_cons pe_str (pa_cons (pv 5) pa_nil)))))) pss_nil)
      (pss_cons (ps_if (pt_cmp (pc_din (un1 hr) (pv 4) (pv 2))) (pss_one (ps_set (i := 7) sc_l_step.nd rfl (by first | exact Or.inl rfl | exact Or.inr rfl) (pe_tup (pa_cons pe_str (pa_cons (pv 4) pa_nil))))) pss_nil)
      (pss_cons (ps_if (pt_cmpR op_eq (pe_callD D_l_draw hr (pa_cons (pv 0) (pa_cons pe_int pa_nil))) pe_int (nomark _)) (pss_cons (ps_set (i := 4) sc_l_step.nd rfl (by first | exact Or.inl rfl | exact Or.inr rfl) (pe_callD D_l_one hr (pa_cons (pv 0) (pa_cons (pe_lst (pa_cons pe_str (pa_cons pe_str (pa_cons pe_str (pa_cons pe_str (pa_cons pe_str (pa_cons pe_non (pa_cons pe_int (pa_cons (pe_lst pa_nil) (pa_cons pe_dnewK (pa_cons (pe_tup (pa_cons pe_str pa_nil)) (pa_cons (pe_cmpR op_eq pe_int pe_int (nomark _)) pa_nil)))))))))))) pa_nil))))
      (pss_one (ps_set (i := 7) sc_l_step.nd rfl (by first | exact Or.inl rfl | exact Or.inr rfl) (pe_tup (pa_cons pe_str (pa_cons (pv 4) pa_nil)))))) pss_nil)
      (pss_cons (ps_set (i := 8) sc_l_step.nd rfl (by first | exact Or.inl rfl | exact Or.inr rfl) (LamX.pe_lamcall (T := [(Pt, _)]) (k := 4) (c := cc) (P := Pt) (by rfl) hmS kpS lkS hcS bS sc_l_said rfl (Or.inl rfl) (said_gives h3 gC gT gF gW) TB (by rfl) (List.mem_singleton.mpr rfl) (fun p hp _ => congrArg Prod.snd (List.mem_singleton.mp hp)) hr (LamX.lamS_by (sc := defScope s_l_step) (by decide +kernel)) (by rfl) (by exact fun _ _ _ _ _ => rfl) (fun A outer s H E f c' hr2 => pe_callN FA hr2 (by rfl) gA kpA KB (passes_call (takes_of rfl rfl rfl rfl) (fun _ _ _ _ z => z)) (pa_cons (pv 1) (pa_cons (pv 4) (pa_cons (pv 5) pa_nil))) (pk_cons (pv 6) pk_nil))))
      (pss_cons (ps_if (pt_cmpR op_isN (pv 7) pe_non (nomark _)) (pss_cons (ps_set (i := 3) sc_l_step.nd rfl (by first | exact Or.inl rfl | exact Or.inr rfl) (pe_op op_add (pv 3) pe_int))
      (pss_cons (ps_dput (un1 hr) (pv 2) (pv 4) (pe_tup (pa_cons (pv 5) (pa_cons (pv 6) pa_nil))) rfl)
      (pss_one (ps_set (i := 7) sc_l_step.nd rfl (by first | exact Or.inl rfl | exact Or.inr rfl) (pv 3))))) pss_nil)
      (pss_one (ps_ret (pe_ifExp (PW.pt (pw_and (pt_cmpR (op_eqB hr) (pv 8) (pv 7) (nomark _)) (pw_and1 (pt_cmpR op_eq (pe_callD D_now hr (pa_cons (pv 1) pa_nil)) (pv 3) (nomark _))))) (pv 3) pe_non)))))))))))), ?_⟩
    obtain ⟨pw, r, td, kd, tl, T, n, a, b, c, N, kvs, rfl, hpw, wo, hN, R, htd, bn, ntk, ntp, wf, hn, fo, tabs, k⟩ := h
    rw [show L2.start ["_law_well_here", "_law_runtime", "_law_tree", "_law_moment", "_law_name", "_law_above", "_law_handed", "_law_due", "_law_told"] [V.ref pw, V.ref r, V.ref td, V.int n] = ([some (V.ref pw), some (V.ref r), some (V.ref td), some (V.int n), none, none, none, none, none] : List (Option V)) from rfl]
    have kh := KH.start1 hpw
    walk_at "go"
    rename_i ln H1 nln k1
    have htp : td ≠ pw := ne_of htd hpw (by intro z; cases z)
    have hT : T.length ≤ 19 := by rw [wf.tl]; omega
    refine ⟨pw, ln, _, a, b, c, N, rfl, k1.find (by walk_at "lk"), SqL.of (k1.find .here), by simp, by simp, ne_of_none hpw nln, wo, by omega, fun x a2 c2 H2 hx wo2 f2 h2 => ?_⟩
    have k2 := k1.up (by walk_at "ul") f2 h2 (.inl (by simp))
    obtain ⟨nm, hnm, rfl⟩ : ∃ nm, nm ∈ okNames ∧ x = V.str nm := by
      simp only [List.mem_cons, List.not_mem_nil, or_false] at hx
      rcases hx with rfl | rfl | rfl | rfl | rfl | rfl | rfl | rfl | rfl <;> exact ⟨_, by decide +kernel, rfl⟩
    clear hx k1
    have htd2 : H2 td = some (.dK kvs) := k2.fr _ _ (by simpa using htp) htd
    walk_at "go"
    refine ⟨td, kvs, T.map (·.name), rfl, .inl htd2, bn.keys, by rw [List.length_map]; omega, fun ys p3 hp3 hs3 np3 => ?_⟩
    have k3 := k2.new (o := .lst (ys.map V.str)) np3
    have n3 := k2.fresh np3
    generalize upd H2 p3 _ = H3 at k3 ⊢
    have hyl : 0 < ys.length := by rw [hp3.length_eq, List.length_map, wf.tl]; omega
    have hyl2 : ys.length ≤ 1000 := by rw [hp3.length_eq, List.length_map]; omega
    walk_at "go"
    refine ⟨pw, p3, _, _, b, _, _, rfl, k3.find (by walk_at "lk"), SqL.of (k3.find .here), by rw [List.length_map]; exact hyl, by rw [List.length_map]; omega, ne_of_none hpw n3, wo2, by omega, fun x a4 c4 H4 hx wo4 f4 h4 => ?_⟩
    have k4 := k3.up (by walk_at "ul") f4 h4 (.inl (by simp))
    obtain ⟨y, hy, rfl⟩ := List.mem_map.mp hx
    obtain ⟨cy, hcy, rfl⟩ := List.mem_map.mp (hp3.mem_iff.mp hy)
    have hyo := wf.nm cy hcy
    clear hx hy k3 k2
    have fr4 : Fr [pw] H H4 := k4.fr
    have mo4 : Mo H H4 := Mo.fr1 fr4 hpw rfl
    have htd4 : H4 td = some (.dK kvs) := fr4 _ _ (by simpa using htp) htd
    obtain ⟨ll, hln, hll⟩ := wf.ln cy hcy
    obtain ⟨as, hpa⟩ := (fo.mo mo4) cy hcy
    have hal : as.length ≤ 57 := by
      rw [← Paired.length hpa]
      have := wf.al cy hcy
      omega
    walk_at "go"
    refine ⟨pw, td, T, n, cy.name, cy, as, nm, a4, b, c4, _, kvs, ll, rfl, h4, wo4, by omega, htd4, bn.mono (fun _ _ z => z.mo mo4), wf, by omega, wf.find hcy, hln, by omega, hpa, by omega, hnm, fun t fl due a5 c5 H5 f5 h5 wo5 nt h5t fres => ?_⟩
    have fr5 : Fr [pw] H H5 := fr4.trans f5
    have k5 : KH H [pw] [(pw, wl a5 b c5)] H5 := KH.one fr5 h5
    clear k4
    walk_at "go"
    have hcn : clsV T (.str "none") = false := by
      show (nameS "none" && (findC T "none").isSome) = false
      cases q : findC T "none" with
      | none => simp
      | some c0 =>
        have h1 := find_mem q
        have h2 := wf.nm c0 h1.1
        rw [h1.2] at h2
        exact absurd h2 (by decide +kernel)
    refine mid (fun σ H6 => ∃ due' : V, σ = [some (.ref pw), some (.ref r), some (.ref td), some (.int (n : Nat)), some (.str nm), some (.str cy.name), some fl, some due', none] ∧ Wc.Ext H5 H6 ∧ Ab K pw T nm as H6 cy.name fl (.str cy.name) due') ?_ ?_
    · rintro σ H6 ⟨due6, rfl, e6, ab6⟩
      have fres6 := fresN fres e6.fr.n e6.mo
      have h6 := e6 _ _ h5
      have k6 : KH H [pw] [(pw, wl a5 b c5)] H6 := KH.one (fr5.trans e6.fr) h6
      clear k5
      walk_at "go"
      refine ⟨pw, 10, a5, b, c5, _, rfl, by decide, by decide, h6, wo5, by omega, fun d7 a7 c7 H7 d70 d71 wo7 f7 h7 => ?_⟩
      have k7 : KH H [pw] [(pw, wl a7 b c7)] H7 := KH.one (k6.fr.trans f7) h7
      have m7 : Mo H6 H7 := Mo.fr1 f7 h6 rfl
      have ab7 := abN ab6 f7.n m7
      have fres7 := fresN fres6 f7.n m7
      clear k6
      walk_at "go"
      refine mid (fun σ H8 => ∃ (due8 pr : V) (a8 c8 : Int), σ = [some (.ref pw), some (.ref r), some (.ref td), some (.int (n : Nat)), some (.str nm), some pr, some fl, some due8, none] ∧ Fr [pw] H7 H8 ∧ H8 pw = some (wl a8 b c8) ∧ WellOk (N + 30) b c8 ∧ PartOk K [pw] H8 pr ∧ Ab K pw T nm as H8 cy.name fl pr due8) ?_ ?_
      · rintro σ H8 ⟨due8, pr, a8, c8, rfl, f8, h8, wo8, pp8, ab8⟩
        have m78 : Mo H7 H8 := Mo.fr1 f8 h7 rfl
        have fres8 := fresN fres7 f8.n m78
        have fr8 : Fr [pw] H H8 := k7.fr.trans f8
        have mo8 : Mo H H8 := Mo.fr1 fr8 hpw rfl
        have htd8 : H8 td = some (.dK kvs) := fr8 _ _ (by simpa using htp) htd
        clear k7
        dsimp only
        refine r_seq ?_
        refine midT (fun σ H9 => ∃ due9, σ = [some (.ref pw), some (.ref r), some (.ref td), some (.int (n : Nat)), some (.str nm), some pr, some fl, some due9, none] ∧ Wc.Ext H8 H9 ∧
          (((findC T nm).isSome = true ∧ DueIs H9 due9 "taken" (.str nm)) ∨ (findC T nm = none ∧ Ab K pw T nm as H9 cy.name fl pr due9))) ?_ ?_
        · rintro σ H9 ⟨due9, rfl, e9, out9⟩
          have h9 := e9 _ _ h8
          have pp9 := partN pp8 e9.fr.n
          have fres9 := fresN fres8 e9.fr.n e9.mo
          have fr9 : Fr [pw] H H9 := fr8.trans e9.fr
          have k9 : KH H9 [pw] [(pw, wl a8 b c8)] H9 := KH.start1 h9
          dsimp only
          refine r_seq ?_
          walk_at "go"
          refine ⟨pw, 10, a8, b, c8, _, rfl, by decide, by decide, h9, wo8, by omega, fun d10 a10 c10 H10 d100 d101 wo10 f10 h10 => ?_⟩
          have m10 : Mo H9 H10 := Mo.fr1 f10 h9 rfl
          have out10 : ((findC T nm).isSome = true ∧ DueIs H10 due9 "taken" (.str nm)) ∨ (findC T nm = none ∧ Ab K pw T nm as H10 cy.name fl pr due9) := out9.elim (fun z => .inl ⟨z.1, z.2.mo m10⟩) fun z => .inr ⟨z.1, abN z.2 f10.n m10⟩
          have pp10 := partN pp9 f10.n
          have fres10 := fresN fres9 f10.n m10
          clear k9
          walk_at "go"
          refine mid (fun σ H11 => ∃ (nv due11 : V) (a11 c11 : Int), σ = [some (.ref pw), some (.ref r), some (.ref td), some (.int (n : Nat)), some nv, some pr, some fl, some due11, none] ∧ Fr [pw] H10 H11 ∧ H11 pw = some (wl a11 b c11) ∧ WellOk (N + 36) b c11 ∧ PartOk K [pw] H11 nv ∧
            ((nameV nv = false ∧ DueIs H11 due11 "class" nv) ∨ (nv = .str nm ∧ (((findC T nm).isSome = true ∧ DueIs H11 due11 "taken" (.str nm)) ∨ (findC T nm = none ∧ Ab K pw T nm as H11 cy.name fl pr due11))))) ?_ ?_
          · rintro σ H11 ⟨nv, due11, a11, c11, rfl, f11, h11, wo11, pp11n, out11⟩
            have m11 : Mo H10 H11 := Mo.fr1 f11 h10 rfl
            have pp11 := partN pp10 f11.n
            have fres11 := fresN fres10 f11.n m11
            have fr11 : Fr [pw] H H11 := (fr9.trans f10).trans f11
            have mo11 : Mo H H11 := Mo.fr1 fr11 hpw rfl
            have tabs11 : LamX.Tabs [(Pt, lamQ)] H11 := tabs_fr tabs fr11 (fun a ha => by
              rw [show a = pw by simpa using ha]
              exact ⟨_, hpw, fun ps z => (by unfold wl at z; cases z), fun φ z => (by unfold wl at z; cases z)⟩)
            dsimp only
            refine r_seq ?_
            refine r_asg ?_
            refine ⟨?tb, fun H12 eN tabs12 => ?_⟩
            case tb =>
              rw [qualE]
              exact tabs11
            rw [qualE] at tabs12
            unfold TSaid
            dsimp only
            refine r_callN ?_
            walk_at "go"
            refine ⟨rfl, rfl, ?_⟩
            have fn12 : FrN [] H11 H12 := FrN.of eN
            have mo12 : Mo H11 H12 := fn12.mo (by simp)
            have fnA : FrN [pw] H H12 := fr11.n.trans (fn12.mono (by simp))
            have moA : Mo H H12 := mo11.trans mo12
            have nkp : kd ≠ pw := by
              obtain ⟨kv, hk⟩ := R.kd
              exact ne_of hk hpw (by intro z; cases z)
            have R12 : RtW CK CR H12 r kd tl T n := R.frn fnA moA (by simpa using nkp) (by simpa using ntp)
            have fres12 := fresN fres11 (fn12.mono (by simp)) mo12
            have pp12 : PartOk K [] H12 pr := partN ⟨pp11.1, by simp⟩ fn12
            have pp12n : PartOk K [] H12 nv := partN ⟨pp11n.1, by simp⟩ fn12
            obtain ⟨tn, thn⟩ := pp12n.1
            obtain ⟨tp, thp⟩ := pp12.1
            have nmok := okNames_ok _ hnm
            have ycl : clsV T (.str cy.name) = true := by
              show (nameS cy.name && (findC T cy.name).isSome) = true
              rw [(okNames_ok _ hyo).1, wf.find hcy] <;> rfl
            have hsel : ∃ tf, Th K H12 fl tf ∧ (findC T nm = none → nv = .str nm → pr = .str cy.name → cy.name ≠ "int" →
                (((tf = none ∨ ∃ xs, tf = some xs ∧ 3 < xs.length) ∧ ∃ d, due11 = .ref d ∧ H12 d = some (.tup [.str "field", fl])) ∨
                  ∃ xs vw, tf = some xs ∧ xs.length ≤ 3 ∧ vw.map (·.1) = xs ∧ (∀ q, q ∈ vw → ItemN K [pw] H12 q) ∧
                    (findC T nm = none → (due11 = .non ∧ scan T (as.map V.str) vw = none ∧ ∃ bs, PySem.Paired (FNm H12) xs bs) ∨ ∃ d x, due11 = .ref d ∧ H12 d = some (.tup [.str "field", x]) ∧ scan T (as.map V.str) vw = some x))) := by
              obtain ⟨tf0, thf0, _, _⟩ := id fres12
              rcases out11 with ⟨h0, _⟩ | ⟨_, ⟨h1, _⟩ | ⟨_, ⟨_, ⟨h4, _⟩ | ⟨_, h5⟩⟩ | ⟨_, h6⟩⟩⟩
              · exact ⟨tf0, thf0, fun _ z _ _ => by rw [z] at h0; have h0 : nameS nm = false := h0; rw [nmok.1] at h0; cases h0⟩
              · exact ⟨tf0, thf0, fun z _ _ _ => by rw [z] at h1; cases h1⟩
              · exact ⟨tf0, thf0, fun _ _ _ z => absurd h4 z⟩
              · obtain ⟨tf, th, _, alt⟩ := fresN h5 (fn12.mono (by simp)) mo12
                exact ⟨tf, th, fun _ _ _ _ => alt⟩
              · exact ⟨tf0, thf0, fun z _ w _ => by have h7 := h6 z; rw [w, ycl] at h7; cases h7⟩
            obtain ⟨tf, thf, hsel⟩ := hsel
            refine midV (S := fun QQ => spAdd K CK CR NC TK NF ([V.ref r, nv, pr] ++ [fl]) H12 QQ (Said NC TK NF QQ)) (fun told H13 => (∃ p tag v, told = .ref p ∧ H13 p = some (.tup [.str tag, v]) ∧ DueIs H13 due11 tag v ∧ DSm v v H13 ∧ Wc.Ext H12 H13) ∨
              (∃ z c xs, told = .int ((n + 1 : Nat) : Int) ∧ due11 = .non ∧ nv = .str z ∧ z = nm ∧ findC T z = none ∧ c ∈ T ∧ pr = .str c.name ∧ RtW CK CR H13 r kd tl (T ++ [⟨z, some c.name, xs, c.all ++ xs, n + 1⟩]) (n + 1) ∧ Wc.Fr [kd, tl] H12 H13 ∧ xs.length ≤ 3 ∧ (∃ hd, fl = .ref hd ∧ H13 hd = some (.tup xs)) ∧ ∃ bs, PySem.Paired (FNm H13) xs bs)) ?_ ?_
            · rintro told H13 hmid
              have nkt : kd ≠ tl := by
                obtain ⟨kv, hk⟩ := R.kd
                obtain ⟨xs0, ht, _⟩ := R.at_.tl
                exact ne_of hk ht (by intro z; cases z)
              rcases hmid with ⟨p, tag, v, rfl, hp13, ⟨d, rfl, hd13⟩, ds13, e13⟩ | ⟨z, c1, xs, rfl, rfl, rfl, rfl, hfz, hc1, rfl, R13, f13, hxl, ⟨hd, rfl, hhd⟩, bs, hbs⟩
              · have tbn : ∀ ps, wl a11 b c11 ≠ .tbl ps := fun ps z => by
                  unfold wl at z
                  cases z
                have sub : ∀ q, q ∈ [pw] → q ∈ [pw, kd, tl, td] := fun q hq => by
                  simp at hq
                  simp [hq]
                walk_at "go"
                refine ⟨rfl, ?_⟩
                walk_at "go"
                refine eqB_tup hp13 hd13 ds13 fun H14 e14 => ?_
                walk_at "go"
                have e1214 := e13.trans e14
                have R14 : RtW CK CR H14 r kd tl T n := R12.fr (A := []) e1214.fr e1214.mo (by simp) (by simp)
                refine ⟨r, kd, tl, T, n, rfl, R14.at_, ?_⟩
                walk_at "go"
                rw [if_pos (decide_eq_true rfl)]
                walk_at "go"
                exact k T n kvs a11 c11 H14 (by omega) (e1214 _ _ (fn12 _ _ (by simp) tbn h11)) (wo11.mono (by omega)) R14 (e1214 _ _ (fnA _ _ (by simpa using htp) (fun _ z => nomatch z) htd)) (bn.mono fun _ _ z => (z.mo moA).mo e1214.mo) wf ((fo.mo moA).mo e1214.mo) (LamX.Tabs.ext tabs12 e1214) ((fnA.mono sub).trans e1214.fr.n)
              · have tbn : ∀ ps, wl a11 b c11 ≠ .tbl ps := fun ps z => by
                  unfold wl at z
                  cases z
                have sub : ∀ q, q ∈ [pw] → q ∈ [pw, kd, tl, td] := fun q hq => by
                  simp at hq
                  simp [hq]
                have em : ((n : Int) + 1) = ((n + 1 : Nat) : Int) := by omega
                have htd12 : H12 td = some (.dK kvs) := fnA _ _ (by simpa using htp) (fun _ z => nomatch z) htd
                have ntl : td ≠ tl := by
                  obtain ⟨xs0, ht, _⟩ := R12.at_.tl
                  exact ne_of htd12 ht (by intro z; cases z)
                have h13td : H13 td = some (.dK kvs) := f13 _ _ (by simp; exact ⟨ntk, ntl⟩) htd12
                have mo13 : Mo H12 H13 := Mo.fr f13 (fun a ha => by
                  simp at ha
                  rcases ha with rfl | rfl
                  · obtain ⟨kv, hk⟩ := R12.kd
                    exact ⟨_, hk, rfl⟩
                  · obtain ⟨xs0, hk, _⟩ := R12.at_.tl
                    exact ⟨_, hk, rfl⟩)
                have k13 := KH.start (H := H13)
                walk_at "go"
                refine ⟨rfl, ?_⟩
                walk_at "go"
                rw [em]
                rename_i tq H14 nq k14
                have e14 := k14.extE
                have htd14 := e14 _ _ h13td
                refine ⟨td, _, rfl, DPut.k (k := .inr z) htd14 (by have := bn.length; exact sz_lt (by omega)), ?_⟩
                have mo14 : Mo H14 (upd H14 td (.dK (putK kvs (.inr z) (.ref tq)))) := Mo.upd htd14 rfl
                have fr14 : Wc.Fr [td] H14 (upd H14 td (.dK (putK kvs (.inr z) (.ref tq)))) := Fr.updE (by simp)
                have h15td : upd H14 td (.dK (putK kvs (.inr z) (.ref tq))) td = some (.dK (putK kvs (.inr z) (.ref tq))) := upd_same
                generalize upd H14 td (.dK (putK kvs (.inr z) (.ref tq))) = H15 at mo14 fr14 h15td ⊢
                have moB : Mo H13 H15 := e14.mo.trans mo14
                have R15 : RtW CK CR H15 r kd tl (T ++ [⟨z, some c1.name, xs, c1.all ++ xs, n + 1⟩]) (n + 1) := (R13.fr (A := []) e14.fr e14.mo (by simp) (by simp)).fr fr14 mo14 (by simpa using Ne.symm ntk) (by simpa using Ne.symm ntl)
                walk_at "go"
                refine eqB_int rfl ?_
                walk_at "go"
                refine ⟨r, kd, tl, _, _, rfl, R15.at_, ?_⟩
                walk_at "go"
                rw [if_pos (decide_eq_true rfl)]
                walk_at "go"
                have moC : Mo H H15 := (moA.trans mo13).trans moB
                have fo15 := fo.mo moC
                have npw : ∀ {o : HO}, o = wl a11 b c11 → H12 pw = some o := fun e => by
                  rw [e]
                  exact fn12 _ _ (by simp) tbn h11
                have h12pw := npw rfl
                have h13pw : H13 pw = some (wl a11 b c11) := f13 _ _ (by simp; exact ⟨Ne.symm nkp, Ne.symm ntp⟩) h12pw
                have h15pw : H15 pw = some (wl a11 b c11) := fr14 _ _ (by simpa using Ne.symm htp) (e14 _ _ h13pw)
                have tabs13 : LamX.Tabs [(Pt, lamQ)] H13 := tabs_fr tabs12 f13 (fun a ha => by
                  simp at ha
                  rcases ha with rfl | rfl
                  · obtain ⟨kv, hk⟩ := R12.kd
                    exact ⟨_, hk, (fun _ z => nomatch z), (fun _ z => nomatch z)⟩
                  · obtain ⟨xs0, hk, _⟩ := R12.at_.tl
                    exact ⟨_, hk, (fun _ z => nomatch z), (fun _ z => nomatch z)⟩)
                have tabs15 : LamX.Tabs [(Pt, lamQ)] H15 := tabs_fr (LamX.Tabs.ext tabs13 e14) fr14 (fun a ha => by
                  rw [show a = td by simpa using ha]
                  exact ⟨_, htd14, (fun _ z => nomatch z), (fun _ z => nomatch z)⟩)
                refine k (T ++ [⟨z, some c1.name, xs, c1.all ++ xs, n + 1⟩]) (n + 1) _ a11 c11 H15 (by omega) h15pw (wo11.mono (by omega)) R15 h15td ((bn.mono fun _ _ q => q.mo moC).put hfz ⟨tq, hd, rfl, mo14 _ _ rfl (k14.find .here), moB _ _ rfl hhd⟩) (wf.add hfz hnm (wf.find hc1) hxl) (fun c' hc' => ?_) tabs15 ?_
                · rcases List.mem_append.mp hc' with h | h
                  · exact fo15 c' h
                  · rw [show c' = ⟨z, some c1.name, xs, c1.all ++ xs, n + 1⟩ by simpa using h]
                    obtain ⟨as0, p0⟩ := fo15 c1 hc1
                    exact ⟨as0 ++ bs, pAppend p0 (Paired.mapP hbs fun _ _ q => q.mo moB)⟩
                · exact (((fnA.mono sub).trans (f13.n.mono fun q hq => by simp at hq; rcases hq with rfl | rfl <;> simp)).trans e14.fr.n).trans (fr14.n.mono fun q hq => by simp at hq; simp [hq])
            · intro QQ hQQ
              have bad : ∀ {C : Addr} {tag fld : Str} {v : V}, ((C = NC ∧ tag = "class" ∧ fld = "name") ∨ (C = TK ∧ tag = "taken" ∧ fld = "name") ∨ (C = NF ∧ tag = "field" ∧ fld = "field")) → DueIs H11 due11 tag v → (∃ tq, Th K H12 v tq) → ExTo (Said NC TK NF QQ) H12 C fld v := fun hC hd ht d H13 e13 hd0 hx =>
                ⟨_, _, _, _, d, hC, rfl, rfl, hx, fun q hq => hQQ _ _ (.inl ⟨q, _, _, rfl, upd_same, (hd.mo mo12).mo ((e13.trans (.new hq)).mo), dsm_of ht.choose_spec, e13.trans (.new hq)⟩)⟩
              refine ⟨r, kd, tl, T, n, nv, tn, pr, tp, fl, tf, rfl, R12, by omega, by omega, thn, thp, thf, ?k0, ?k1⟩
              case k0 =>
                intro hz
                rcases out11 with ⟨_, h⟩ | ⟨rfl, _⟩
                · exact bad (.inl ⟨rfl, rfl, rfl⟩) h ⟨_, thn⟩
                · have hz : nameS nm = false := hz
                  rw [(okNames_ok _ hnm).1] at hz
                  cases hz
              case k1 =>
                intro z hz1 hz2
                rcases out11 with ⟨h0, _⟩ | ⟨h0, h1⟩
                · rw [hz1] at h0
                  have h0 : nameS z = false := h0
                  rw [hz2] at h0
                  cases h0
                · obtain rfl : z = nm := V.str.inj (hz1.symm.trans h0)
                  subst h0
                  refine ⟨fun hs => ?_, fun hf => ?_⟩
                  · rcases h1 with ⟨_, h⟩ | ⟨h2, _⟩
                    · exact bad (.inr (.inl ⟨rfl, rfl, rfl⟩)) h ⟨_, thn⟩
                    · rw [h2] at hs
                      cases hs
                  · rcases h1 with ⟨h2, _⟩ | ⟨_, ab⟩
                    · rw [hf] at h2
                      cases h2
                    · refine ⟨fun hc => ?_, fun hc p hp => ⟨fun hi => ?_, fun hni c hcp => ?_⟩⟩
                      · rcases ab with ⟨h3, _⟩ | ⟨h3, _⟩
                        · rw [h3, ycl] at hc
                          cases hc
                        · exact bad (.inl ⟨rfl, rfl, rfl⟩) h3 ⟨_, thp⟩
                      · rcases ab with ⟨h3, ⟨h4, h5⟩ | ⟨h4, _⟩⟩ | ⟨h3, h4⟩
                        · rw [hp, hi]
                          rw [hp, hi] at thp
                          exact bad (.inl ⟨rfl, rfl, rfl⟩) h5 ⟨_, thp⟩
                        · exact absurd ((V.str.inj (h3.symm.trans hp)).trans hi) h4
                        · have h5 := h4 hf
                          rw [hc] at h5
                          cases h5
                      · have hpr : pr = .str cy.name := by
                          rcases ab with ⟨h3, _⟩ | ⟨_, h4⟩
                          · exact h3
                          · have h5 := h4 hf
                            rw [hc] at h5
                            cases h5
                        obtain rfl : p = cy.name := V.str.inj (hp.symm.trans hpr)
                        obtain rfl : cy = c := Option.some.inj ((wf.find hcy).symm.trans hcp)
                        have alt := hsel hf rfl hpr hni
                        have m412 : Mo H4 H12 := (((((((Mo.fr1 f5 h4 rfl).trans e6.mo).trans m7).trans m78).trans e9.mo).trans m10).trans m11).trans mo12
                        have bad2 : ∀ {v : V}, DueIs H12 due11 "field" v → (∃ tq, Th K H12 v tq) → ExTo (Said NC TK NF QQ) H12 NF "field" v := fun hd ht d H13 e13 hd0 hx =>
                          ⟨_, _, _, _, d, .inr (.inr ⟨rfl, rfl, rfl⟩), rfl, rfl, hx, fun q hq => hQQ _ _ (.inl ⟨q, _, _, rfl, upd_same, hd.mo ((e13.trans (.new hq)).mo), dsm_of ht.choose_spec, e13.trans (.new hq)⟩)⟩
                        refine ⟨as, Paired.mapP hpa fun _ _ q => q.mo m412, by omega, fun hb => ?_, fun xs hx hxl => ?_⟩
                        · rcases alt with ⟨_, h⟩ | ⟨xs, vw, h1, h2, _⟩
                          · exact bad2 h ⟨_, thf⟩
                          · rcases hb with hb | ⟨ys, hb, hb2⟩
                            · rw [h1] at hb
                              cases hb
                            · rw [h1] at hb
                              cases hb
                              omega
                        · rcases alt with ⟨hb, _⟩ | ⟨xs', vw, h1, h2, h3, h4, h5⟩
                          · rcases hb with hb | ⟨ys, hb, hb2⟩
                            · rw [hx] at hb
                              cases hb
                            · rw [hx] at hb
                              cases hb
                              omega
                          · rw [hx] at h1
                            cases h1
                            refine ⟨vw, h3, fun q hq => (h4 q hq).it, fun y hy => ?_, fun hsc H' fr' R' => hQQ _ _ (.inr ?_)⟩
                            · rcases h5 hf with ⟨_, g2, _⟩ | ⟨d, x, g1, g2, g3⟩
                              · rw [g2] at hy
                                cases hy
                              · rw [g3] at hy
                                cases hy
                                have hm : y ∈ vw.map (·.1) := scan_mem g3
                                obtain ⟨q, hq, rfl⟩ := List.mem_map.mp hm
                                exact bad2 ⟨d, g1, g2⟩ ⟨_, (h4 q hq).it.th⟩
                            · have mz : Mo H12 H' := Mo.fr fr' (fun a ha => by
                                simp at ha
                                rcases ha with rfl | rfl
                                · obtain ⟨kv, hk⟩ := R12.kd
                                  exact ⟨_, hk, rfl⟩
                                · obtain ⟨xs0, hk, _⟩ := R12.at_.tl
                                  exact ⟨_, hk, rfl⟩)
                              rcases h5 hf with ⟨g1, g2, bs, g3⟩ | ⟨d, x, _, _, g3⟩
                              · obtain ⟨hd, e1, e2⟩ := thf.tup _ hx
                                exact ⟨_, cy, _, rfl, g1, rfl, rfl, hf, hcy, hpr, R', fr', hxl, ⟨hd, e1, mz _ _ rfl e2⟩, bs, Paired.mapP g3 fun _ _ q => q.mo mz⟩
                              · rw [hsc] at g3
                                cases g3
          · intro Nx hNx
            have k10 := KH.start1 h10
            split
            · walk_at "go"
              rename_i pL HL nL kL
              refine ⟨pw, pL, _, a10, b, c10, _, rfl, kL.find (by walk_at "lk"), SqL.of (kL.find .here), by simp, by simp, ne_of_none h10 nL, wo10, by omega, fun x a12 c12 H12 hx wo12 f12 h12 => ?_⟩
              have k12 := kL.up (by walk_at "ul") f12 h12 (.inl (by simp))
              clear kL
              have frA : ∀ {q : Addr}, H10 q = none → ∀ a, a ∈ [pw] → V.ref q ≠ .ref a := fun h a ha => by
                rw [show a = pw by simpa using ha]
                exact nref h h10
              have key : PartOk K [pw] H12 x ∧ nameV x = false := by
                simp only [List.mem_cons, List.not_mem_nil, or_false] at hx
                rcases hx with rfl | rfl | rfl | rfl | rfl | rfl | rfl | rfl | rfl | rfl | rfl
                · exact ⟨partS (by decide), by decide +kernel⟩
                · exact ⟨partS (by decide), by decide +kernel⟩
                · exact ⟨partS (by decide), by decide +kernel⟩
                · exact ⟨partS (by decide), by decide +kernel⟩
                · exact ⟨partS (by decide), by decide +kernel⟩
                · exact ⟨⟨⟨_, .non⟩, fun _ _ z => nomatch z⟩, rfl⟩
                · exact ⟨⟨⟨_, .int⟩, fun _ _ z => nomatch z⟩, rfl⟩
                · exact ⟨⟨⟨_, .lst (k12.find (by walk_at "lk"))⟩, frA (by assumption)⟩, rfl⟩
                · exact ⟨⟨⟨_, .dct (k12.find (by walk_at "lk"))⟩, frA (by assumption)⟩, rfl⟩
                · exact ⟨⟨⟨_, .tupl (k12.find (by walk_at "lk"))⟩, frA (by assumption)⟩, rfl⟩
                · exact ⟨⟨⟨_, .bl⟩, fun _ _ z => nomatch z⟩, rfl⟩
              have kr := k12.rebase
              dsimp only
              walk_at "go"
              rename_i tq H13 nq k13
              have e13 := k13.extE
              exact hNx _ _ ⟨x, .ref tq, a12, c12, rfl, k12.fr.trans e13.fr, e13 _ _ h12, wo12.mono (by omega), partN key.1 e13.fr.n, .inl ⟨key.2, tq, rfl, k13.find .here⟩⟩
            · walk_at "go"
              exact hNx _ _ ⟨_, due9, a10, c10, rfl, Fr.refl _ _, h10, wo10.mono (by omega), partS (okNames_len _ hnm), .inr ⟨rfl, out10⟩⟩
        · intro Nx hNx
          have kz := KH.start (H := H8)
          walk_at "go"
          refine din_mkR (.inl htd8) ?_
          rw [bn.isSome]
          walk_at "go"
          cases q : findC T nm with
          | some c0 =>
            walk_at "go"
            rename_i tq H9 nq k9
            exact hNx _ _ ⟨_, rfl, k9.extE, .inl ⟨by rw [q] <;> rfl, tq, rfl, k9.find .here⟩⟩
          | none =>
            walk_at "go"
            exact hNx _ _ ⟨_, rfl, Wc.Ext.refl _, .inr ⟨q, ab8⟩⟩
      · intro Nx hNx
        have k7r := k7.rebase1 h7
        clear k7
        split
        · walk_at "go"
          rename_i pL HL nL kL
          refine ⟨pw, pL, _, a7, b, c7, _, rfl, kL.find (by walk_at "lk"), SqL.of (kL.find .here), by simp, by simp, ne_of_none h7 nL, wo7, by omega, fun x a9 c9 H9 hx wo9 f9 h9 => ?_⟩
          have k9 := kL.up (by walk_at "ul") f9 h9 (.inl (by simp))
          clear kL
          have frA : ∀ {q : Addr}, H7 q = none → ∀ a, a ∈ [pw] → V.ref q ≠ .ref a := fun h a ha => by
            rw [show a = pw by simpa using ha]
            exact nref h h7
          have key : PartOk K [pw] H9 x ∧ (findC T nm = none → clsV T x = false) := by
            simp only [List.mem_cons, List.not_mem_nil, or_false] at hx
            rcases hx with rfl | rfl | rfl | rfl | rfl | rfl | rfl | rfl | rfl
            · exact ⟨partS (by decide), fun _ => hcn⟩
            · exact ⟨partS (by decide), fun _ => rfl⟩
            · exact ⟨⟨⟨_, .non⟩, fun _ _ z => nomatch z⟩, fun _ => rfl⟩
            · exact ⟨⟨⟨_, .int⟩, fun _ _ z => nomatch z⟩, fun _ => rfl⟩
            · exact ⟨⟨⟨_, .lst (k9.find (by walk_at "lk"))⟩, frA (by assumption)⟩, fun _ => rfl⟩
            · exact ⟨⟨⟨_, .dct (k9.find (by walk_at "lk"))⟩, frA (by assumption)⟩, fun _ => rfl⟩
            · exact ⟨⟨⟨_, .tupl (k9.find (by walk_at "lk"))⟩, frA (by assumption)⟩, fun _ => rfl⟩
            · exact ⟨⟨⟨_, .bl⟩, fun _ _ z => nomatch z⟩, fun _ => rfl⟩
            · exact ⟨partS (okNames_len _ hnm), fun z => by show (nameS nm && (findC T nm).isSome) = false; rw [z]; simp⟩
          have kr := k9.rebase
          dsimp only
          walk_at "go"
          rename_i tq H10 nq k10
          have e10 := k10.extE
          exact hNx _ _ ⟨.ref tq, x, a9, c9, rfl, k9.fr.trans e10.fr, e10 _ _ h9, wo9.mono (by omega), partN key.1 e10.fr.n, .inr ⟨⟨tq, rfl, k10.find .here⟩, key.2⟩⟩
        · walk_at "go"
          exact hNx _ _ ⟨due6, _, a7, c7, rfl, Fr.refl _ _, h7, wo7.mono (by omega), partS (okNames_len _ hyo), ab7⟩
    · intro Nx hNx
      split
      · rename_i hint
        have kz := KH.start (H := H5)
        walk_at "go"
        rename_i tq H6 nq k6
        have hi : cy.name = "int" := V.str.inj (of_decide_eq_true hint)
        exact hNx _ _ ⟨_, rfl, k6.extE, .inl ⟨rfl, .inl ⟨hi, tq, rfl, k6.find .here⟩⟩⟩
      · rename_i hint
        walk_at "go"
        exact hNx _ _ ⟨due, rfl, Wc.Ext.refl _, .inl ⟨rfl, .inr ⟨fun z => hint (decide_eq_true (by rw [z])), fres⟩⟩⟩
end
end K01

set_option Elab.async false
set_option linter.all false
set_option maxRecDepth 100000
set_option maxHeartbeats 4000000
namespace K01
open PySem L2 Wc
local macro_rules | `(tactic| walk_at "lk") => `(tactic| first | with_reducible exact Look.here | (with_reducible apply Look.there; walk_at "lk"))
local macro_rules | `(tactic| walk_at "ul") => `(tactic| first | with_reducible exact UpL.here | (with_reducible apply UpL.there; walk_at "ul"))
local macro_rules | `(tactic| walk_at "ga") => `(tactic| first | exact GetAt.here | (apply GetAt.there; walk_at "ga"))
local macro_rules | `(tactic| walk_at "sa") => `(tactic| first | exact SetAt.here | (apply SetAt.there; walk_at "sa"))
local macro_rules | `(tactic| walk_at "hp") => `(tactic| first | assumption | (refine' KH.find ?k ?h; (case k => assumption); (case h => walk_at "lk")))
local macro_rules | `(tactic| walk_at "sql") => `(tactic| first | assumption | (refine' SqL.of ?h; (case h => walk_at "hp")) | (refine' Fr.sql (KH.fr ?k) ?n ?h; (case k => assumption); (case h => assumption); (case n => (simp; done))))
local macro_rules | `(tactic| walk_at "sqt") => `(tactic| first | assumption | (refine' SqT.of ?h; (case h => walk_at "hp")))
local macro_rules | `(tactic| walk_at "side") => `(tactic| first | exact (show (0 : Int) < _ by decide) | exact (show (0 : Int) < _ by omega) | exact ⟨by decide, by decide, by decide⟩ | exact ⟨by decide, by decide, by omega⟩ | exact ⟨by decide, by decide⟩ | exact ⟨by omega, by omega⟩ | exact Or.inl ⟨by omega, by omega⟩ | exact Or.inr ⟨by omega, by omega⟩)
local macro_rules | `(tactic| walk_at "siz") => `(tactic| first | (refine sz_of ?_; first | decide | omega | (simp; done) | (simp; omega)) | (refine sz_lt ?_; first | decide | omega | (simp; done) | (simp; omega)))
local macro_rules | `(tactic| walk_at "own") => `(tactic| first | (exact Or.inr (by assumption)) | (refine Or.inl ?_; simp; done))
local macro_rules | `(tactic| walk_at "al") => `(tactic| (refine' AllocO.mk ?k ?_; (case k => assumption); intro _ _ _ _))
local macro_rules | `(tactic| walk_at "up") => `(tactic| (refine' UpdO.mk ?k ?h ?m ?_; (case k => assumption); (case h => walk_at "ul"); (case m => walk_at "own"); intro _ _))
local macro_rules | `(tactic| walk_at "st") => `(tactic| first
  | ((with_reducible refine' r_var ?h ?_); (case h => walk_at "ga"))
  | (with_reducible refine' r_seq ?_) | (with_reducible refine' r_next ?_) | (with_reducible refine' r_asg ?_) | (with_reducible refine' r_drop ?_) | (with_reducible refine' r_ret ?_) | (with_reducible refine' r_retN ?_)
  | (with_reducible refine' r_ifs ?_) | (with_reducible refine' r_cont ?_) | (with_reducible refine' r_break ?_) | (with_reducible refine' r_c ?_) | (with_reducible refine' r_op ?_) | (with_reducible refine' r_un ?_)
  | (with_reducible refine' r_test ?_) | (with_reducible refine' r_tB ?_) | (with_reducible refine' r_not ?_) | (with_reducible refine' r_and ?_) | (with_reducible refine' r_or ?_) | (with_reducible refine' r_notV ?_)
  | (with_reducible refine' r_andV ?_) | (with_reducible refine' r_orV ?_) | (with_reducible refine' r_ifE ?_) | (with_reducible refine' r_bl ?_) | (with_reducible refine' r_nil ?_) | (with_reducible refine' r_cons ?_)
  | (with_reducible refine' r_tup ?_) | (with_reducible refine' r_lst ?_) | (with_reducible refine' r_cb ?_) | (with_reducible refine' r_call ?_) | ((with_reducible refine' r_name ?h ?_); (case h => walk_at "sa")) | (with_reducible refine' r_gnil ?_)
  | (with_reducible refine' r_gcons ?_) | (with_reducible refine' r_gsub ?_) | (with_reducible refine' r_par ?_) | (with_reducible refine' r_par2 ?_) | (with_reducible refine' r_I0 ?_) | (with_reducible refine' r_U ?_)
  | ((with_reducible refine' r_eq ?h ?_); (case h => rfl)) | ((with_reducible refine' r_ne ?h ?_); (case h => rfl))
  | ((with_reducible refine' r_ixL ?h ?a ?_); (case h => walk_at "sql"); (case a => rfl))
  | ((with_reducible refine' r_ixT ?h ?a ?_); (case h => walk_at "sqt"); (case a => rfl))
  | ((with_reducible refine' r_setL ?h ?a ?_); (case h => walk_at "hp"); (case a => rfl))
  | ((with_reducible refine' r_I ?c ?_); (case c => walk_at "side"))
  | (with_reducible refine' r_sl ?_) | (with_reducible refine' r_part ?_) | (with_reducible refine' r_nopart ?_) | (with_reducible refine' r_ii ?_)
  | ((with_reducible refine' r_slL ?h ?_); (case h => walk_at "sql"))
  | (with_reducible refine' r_bm ?_) | (with_reducible refine' r_bm0 ?_) | (with_reducible refine' r_int1 ?_) | (with_reducible refine' r_int1b ?_)
  | ((with_reducible refine' r_aug ?h ?_); (case h => walk_at "ga"))
  | ((with_reducible refine' r_cat ?a ?b ?z ?_); (case a => walk_at "hp"); (case b => walk_at "hp"); (case z => walk_at "siz"))
  | ((with_reducible refine' r_append ?a ?z ?_); (case a => walk_at "hp"); (case z => walk_at "siz"))
  | ((with_reducible refine' And.intro ?z ?_); (case z => first | walk_at "siz" | exact Or.inl ⟨rfl, _, by walk_at "sql"⟩))
  | ((with_reducible refine' r_gtup ?h ?l ?_); (case h => walk_at "sqt"); (case l => rfl))
  | (with_reducible refine' r_forL ?_) | (with_reducible refine' r_forE ?_) | (with_reducible refine' r_forR ?_) | ((with_reducible refine' r_forL2 ?h ?_); (case h => walk_at "sql")) | ((with_reducible refine' r_forE2 ?h ?_); (case h => walk_at "sql"))
  | (with_reducible refine' r_lcR ?_) | ((with_reducible refine' r_iteT ?h ?_); (case h => rfl)) | ((with_reducible refine' r_iteF ?h ?_); (case h => rfl))
  | (with_reducible refine' r_dnew ?_) | (with_reducible refine' r_vei ?_) | (with_reducible refine' r_ost ?_) | (with_reducible refine' r_mkV ?_) | (with_reducible refine' r_mkX ?_) | (with_reducible refine' r_xfld ?_)
  | ((with_reducible refine' MkG.mk ?o ?n ?k ?_); (case o => exact ErrOk.o (by assumption)); (case n => exact ErrOk.no (by assumption)); (case k => assumption); intro _ _ _ _)
  | ((with_reducible refine' AllocX.mk ?k ?_); (case k => assumption); intro _ _ _ _)
  | (with_reducible refine' r_chain ?_) | (with_reducible refine' r_lcS ?_) | (with_reducible refine' r_lcS2 ?_) | (with_reducible refine' r_lcL ?_) | (with_reducible refine' r_lcT ?_) | (with_reducible refine' r_lcI ?_) | (with_reducible refine' r_yes ?_)
  | (with_reducible refine' r_fld ?_) | (with_reducible refine' r_sfld ?_) | (with_reducible refine' r_meth ?_) | (with_reducible refine' r_make ?_) | (with_reducible refine' r_dget ?_) | (with_reducible refine' r_din ?_) | (with_reducible refine' r_dput ?_)
  | ((with_reducible refine' r_disp ?k ?_); (case k => assumption); intro _ _ _ _) | (with_reducible refine' r_pnil ?_) | (with_reducible refine' r_pcons ?_)
  | (walk_at "al") | (walk_at "up"))
local macro_rules | `(tactic| walk_at "go") => `(tactic| repeat walk_at "st")

theorem FrN.out {A : List Addr} {H0 H H' : Hp} (e : Wc.FrN [] H0 H) (f : Wc.FrN A H H') (n : ∀ a, a ∈ A → ∀ o, (∀ ps, o ≠ .tbl ps) → H0 a ≠ some o) : Wc.FrN [] H0 H' := fun a o _ t h => f a o (fun m => n a m o t h) t (e a o (by simp) t h)
theorem FrN.nn {H0 H : Hp} {a : Addr} (e : Wc.FrN [] H0 H) (h : H a = none) : ∀ o, (∀ ps, o ≠ .tbl ps) → H0 a ≠ some o := fun o t z => by
  rw [e a o (by simp) t z] at h
  cases h
section
variable {P : Program} {w : World} {K : PySem.W.Frag} {mg : Str → Option Value} {base : Heap} {f : Addr} {fd : FuncData} {CK CR NC NF TK WE Pt : Addr}
def spLaw (K : PySem.W.Frag) (Pt : Addr) : Sp := fun vs H Q _ => ∃ (a : Addr) (ns : List Int), vs = [.ref a] ∧ SqL K H a (ns.map V.int) ∧ ns.length ≤ 63 ∧ LamX.Tabs [(Pt, lamQ)] H ∧ ∀ H', Q (.bl true) H'
theorem ok_law (F : FnP K "law" s_law f fd) (T : Bt mg) (K_Runtime : MkOk P w K mg base CX0 3 "Runtime" CR ["self"] (spRuntime CK CR)) (D_l_well : DfOk P w K mg base CX0 1 "_law_well" ["_law_cell"] spWell) (D_l_draw : DfOk P w K mg base CX0 1 "_law_draw" ["_law_well_here", "_law_many"] spDraw)
    (D_l_step : DfOk P w K mg base CX0 7 "_law_step" ["_law_well_here", "_law_runtime", "_law_tree", "_law_moment"] (spStep K CK CR Pt)) (D_l_right : DfOk P w K mg base CX0 5 "_law_right" ["_law_runtime", "_law_tree"] (spRight CK CR)) :
    FnOk P w K mg base CX0 8 f fd ["_law_script"] (spLaw K Pt) := by
  refine F.ok sc_law (fun vs H Q E h => ?_) (fun cdv A outer s H vs Q E hr h => ?_)
  · obtain ⟨a, ns, rfl, _⟩ := h
    rfl
  · refine ⟨_, PSs.nox (pss_cons (ps_for PassesOwn.never rfl (pi_list (pe_op op_cat (pe_slice sl_list (pv 0) po_none (po_some pe_int)) (pe_lst (pa_cons pe_int (pa_cons pe_int pa_nil))))) (pg_name (i := 1) sc_law.nd rfl (by first | exact Or.inl rfl | exact Or.inr rfl)) (pss_cons (ps_set (i := 2) sc_law.nd rfl (by first | exact Or.inl rfl | exact Or.inr rfl) (pe_callD D_l_well hr (pa_cons (pv 1) pa_nil)))
      (pss_cons (ps_set (i := 3) sc_law.nd rfl (by first | exact Or.inl rfl | exact Or.inr rfl) (pe_makeC0 K_Runtime hr))
      (pss_cons (ps_set (i := 4) sc_law.nd rfl (by first | exact Or.inl rfl | exact Or.inr rfl) (pe_disp (pps_cons pe_str (pe_tup (pa_cons pe_non (pa_cons (pe_tup pa_nil) pa_nil))) (pps_cons pe_str (pe_tup (pa_cons pe_str (pa_cons (pe_tup pa_nil) pa_nil))) pps_nil)) rfl rfl (fun z => nomatch z) (by decide)))
      (pss_cons (ps_set (i := 5) sc_law.nd rfl (by first | exact Or.inl rfl | exact Or.inr rfl) pe_int)
      (pss_one (ps_for PassesOwn.never rfl (pi_range1 (by rfl) T.f_range (pa_cons (pe_op op_add pe_int (pe_callD D_l_draw hr (pa_cons (pv 2) (pa_cons pe_int pa_nil)))) pa_nil)) (pg_name (i := 6) sc_law.nd rfl (by first | exact Or.inl rfl | exact Or.inr rfl)) (pss_cons (ps_set (i := 5) sc_law.nd rfl (by first | exact Or.inl rfl | exact Or.inr rfl) (pe_callD D_l_step hr (pa_cons (pv 2) (pa_cons (pv 3) (pa_cons (pv 4) (pa_cons (pv 5) pa_nil))))))
      (pss_one (ps_if (PW.pt (pw_or (pt_cmpR op_isN (pv 5) pe_non (nomark _)) (pw_or1 (pt_not (pt_val (pe_callD D_l_right hr (pa_cons (pv 3) (pa_cons (pv 4) pa_nil)))))))) (pss_one (ps_ret pe_bl)) pss_nil))))))))))
      (pss_one (ps_ret pe_bl))), ?_⟩
    obtain ⟨a, ns, rfl, hS, hlen, tabs, k⟩ := h
    rw [show L2.start ["_law_script", "_law_cell", "_law_well_here", "_law_runtime", "_law_tree", "_law_moment", "_law_k"] [V.ref a] = ([some (V.ref a), none, none, none, none, none, none] : List (Option V)) from rfl]
    have kh := KH.start (H := H)
    walk_at "go"
    refine r_cat (by walk_at "hp") (by walk_at "hp") (sz_of (by have := cutV_length (ns.map V.int) none (some 8); simp at *; omega)) ?_
    walk_at "go"
    rename_i l H1 nl k1
    have tabs1 : LamX.Tabs [(Pt, lamQ)] H1 := LamX.Tabs.ext tabs k1.extE
    refine ForG.mk (xs := cutV (ns.map V.int) none (some 8) ++ [V.int 0, V.int 1]) (fun i σ H2 => (∃ v1 v2 v3 v4 v5 v6 : Option V, σ = [some (.ref a), v1, v2, v3, v4, v5, v6]) ∧ Wc.FrN [] H1 H2 ∧ LamX.Tabs [(Pt, lamQ)] H2)
      ⟨⟨_, _, _, _, _, _, rfl⟩, (Wc.Fr.refl [] H1).n, tabs1⟩ (fun i σ H2 _ z => SqL.of (z.2.1 _ _ (by simp) (fun _ z => nomatch z) (k1.find .here))) ?_ ?_
    · rintro i x σ H2 hx ⟨⟨v1, v2, v3, v4, v5, v6, rfl⟩, e2, tabs2⟩
      obtain ⟨c, rfl⟩ : ∃ c, x = V.int c := by
        rcases List.mem_append.mp (List.mem_of_getElem? hx) with z | z
        · obtain ⟨c, _, e⟩ := List.mem_map.mp (mem_cutV z)
          exact ⟨c, e.symm⟩
        · simp at z
          rcases z with rfl | rfl <;> exact ⟨_, rfl⟩
      have kh := KH.start (H := H2)
      walk_at "go"
      refine ⟨c, rfl, fun aw bw wo => ?_⟩
      walk_at "go"
      rename_i pw Hw nw kw
      intro x dx hx0 hdx0 ne0
      have kx := (kw.new (o := .own x) hdx0).new (p := x) (o := .ins CR dx []) (by rw [upd_ne (Ne.symm ne0)]; exact hx0)
      refine ⟨x, dx, rfl, upd_same, fun kd tl H3 f3 R3 nkd ntl => ⟨rfl, ?_⟩⟩
      generalize upd (upd Hw dx (.own x)) x (.ins CR dx []) = Hx at kx f3 nkd ntl
      obtain ⟨⟨dx3, fs3, h3x, _⟩, _⟩ := id R3.at_
      have nx2 := kw.fresh hx0
      have nkd2 := kx.extE.free nkd
      have ntl2 := kx.extE.free ntl
      have k3 := kx.up .here f3 h3x (.inr nx2)
      have nkp : kd ≠ pw := fun z => by
        have := kx.find (p := pw) (by walk_at "lk")
        rw [← z, nkd] at this
        cases this
      have ntp : tl ≠ pw := fun z => by
        have := kx.find (p := pw) (by walk_at "lk")
        rw [← z, ntl] at this
        cases this
      clear kx kw kh
      have e23 := k3.extE
      have k3 := k3.rebase
      walk_at "go"
      rename_i td H4 ntd k4 t1 H5 nt1 k5 t2 H6 nt2 k6 t3 H7 nt3 k7 t4 H8 nt4 k8
      refine' r_dispE [(.inr "any", .ref t2), (.inr "int", .ref t4)] ?qh ?qe ?ql ?_
      case qh => exact k8.find (by walk_at "lk")
      case qe => rfl
      case ql => simp
      have k9 := KH.up k8 (o' := .dK [(.inr "any", .ref t2), (.inr "int", .ref t4)]) (by walk_at "ul") (Fr.updE (by simp)) upd_same (.inr ntd)
      rw [show mergeK [] [(Sum.inr ("any" : Str), V.ref t2), (Sum.inr ("int" : Str), V.ref t4)] = ([(Sum.inr ("any" : Str), V.ref t2), (Sum.inr ("int" : Str), V.ref t4)] : List (Key × V)) from rfl]
      generalize upd H8 td _ = H9 at k9 ⊢
      clear k4 k5 k6 k7 k8 k3
      have h9w := k9.find (p := pw) (by walk_at "lk")
      have h9t := k9.find (p := td) (by walk_at "lk")
      have e39 := k9.extE
      have ntk : td ≠ kd := by
        obtain ⟨kv, hk⟩ := R3.kd
        exact (ne_of_none hk ntd).symm
      have ntl' : td ≠ tl := by
        obtain ⟨xs, hk, _⟩ := R3.at_.tl
        exact (ne_of_none hk ntd).symm
      have htp : td ≠ pw := ne_of h9t h9w (by intro z; cases z)
      have e29 := e23.trans e39
      have n1 : ∀ q, q ∈ [pw, kd, tl, td] → ∀ o, (∀ ps, o ≠ .tbl ps) → H1 q ≠ some o := fun q hq => by
        simp at hq
        rcases hq with rfl | rfl | rfl | rfl
        · exact FrN.nn e2 nw
        · exact FrN.nn e2 nkd2
        · exact FrN.nn e2 ntl2
        · exact FrN.nn e2 (e23.free ntd)
      walk_at "go"
      refine ⟨pw, 14, aw, bw, 0, 0, rfl, by decide, by decide, h9w, wo, by decide, fun d a10 c10 H10 d0 d1 wo10 f10 h10 => ?_⟩
      walk_at "go"
      refine ⟨_, rfl, by omega, by omega, ?_⟩
      have m910 : Mo H9 H10 := Mo.fr1 f10 h9w rfl
      have R10 : RtW CK CR H10 x kd tl T0 0 := (R3.fr (A := []) e39.fr e39.mo (by simp) (by simp)).fr f10 m910 (by simpa using nkp) (by simpa using ntp)
      have bn10 : ByN (RowAt H10) T0 [(.inr "any", .ref t2), (.inr "int", .ref t4)] := .cons ⟨rfl, t2, t1, rfl, m910 _ _ rfl (k9.find (o := .tup [.non, .ref t1]) (by walk_at "lk")), m910 _ _ rfl (k9.find (o := .tup []) (by walk_at "lk"))⟩ (.cons ⟨rfl, t4, t3, rfl, m910 _ _ rfl (k9.find (o := .tup [.str "any", .ref t3]) (by walk_at "lk")), m910 _ _ rfl (k9.find (o := .tup []) (by walk_at "lk"))⟩ .nil)
      refine ForR.mk (fun i σ H => ∃ (w6 : Option V) (n : Nat) (T : List Cl) (kvs : List (Key × V)) (a' c' : Int), n ≤ i ∧ σ = [some (.ref a), some (.int c), some (.ref pw), some (.ref x), some (.ref td), some (.int (n : Nat)), w6] ∧ H pw = some (wl a' bw c') ∧ WellOk (1 + 40 * i) bw c' ∧ RtW CK CR H x kd tl T n ∧
        H td = some (.dK kvs) ∧ ByN (RowAt H) T kvs ∧ WF T n ∧ FieldsOk H T ∧ LamX.Tabs [(Pt, lamQ)] H ∧ Wc.FrN [] H1 H) ⟨_, 0, T0, _, a10, c10, Nat.le_refl _, rfl, h10, wo10, R10, ?_, bn10, WF.start, ?_, ?_, ?_⟩ ?_ ?_
      · exact f10 _ _ (by simpa using htp) h9t
      · intro c0 hc0
        refine ⟨[], ?_⟩
        simp at hc0
        rcases hc0 with rfl | rfl <;> exact .nil
      · exact tabs_fr (LamX.Tabs.ext tabs2 e29) f10 (fun q hq => by
          rw [show q = pw by simpa using hq]
          exact ⟨_, h9w, (fun ps z => by unfold wl at z; cases z), (fun φ z => by unfold wl at z; cases z)⟩)
      · exact FrN.out (e2.trans e29.fr.n) f10.n fun q hq => n1 q (by simp at hq; simp [hq])
      · rintro j σ H11 hj ⟨w6, n, TT, kvs, a', c', hn, rfl, h11w, wo11, R11, h11t, bn11, wf, fo, tabs11, fr11⟩
        walk_at "go"
        refine ⟨pw, x, td, kd, tl, TT, n, a', bw, c', _, kvs, rfl, h11w, wo11, by omega, R11, h11t, bn11, ntk, ntp, wf, by omega, fo, tabs11, fun T' n' kvs' a'' c'' H12 hn' h12w wo12 R12 h12t bn12 wf12 fo12 tabs12 fr12 => ?_⟩
        walk_at "go"
        refine ⟨rfl, ?_⟩
        walk_at "go"
        refine ⟨x, kd, tl, td, T', n', kvs', rfl, R12, h12t, bn12, ntk, wf12, by omega, fo12, fun H13 e13 => ?_⟩
        walk_at "go"
        exact ⟨_, n', T', kvs', a'', c'', by omega, rfl, e13 _ _ h12w, wo12.mono (by omega), R12.fr (A := []) e13.fr e13.mo (by simp) (by simp), e13 _ _ h12t, bn12.mono (fun _ _ q => q.mo e13.mo), wf12, fo12.mo e13.mo, LamX.Tabs.ext tabs12 e13, (FrN.out fr11 fr12 n1).trans e13.fr.n⟩
      · rintro σ H11 ⟨w6, n, TT, kvs, a', c', hn, rfl, h11w, wo11, R11, h11t, bn11, wf, fo, tabs11, fr11⟩
        exact ⟨⟨_, _, _, _, _, _, rfl⟩, fr11, tabs11⟩
    · rintro σ H2 ⟨⟨v1, v2, v3, v4, v5, v6, rfl⟩, e2, tabs2⟩
      walk_at "go"
      exact k _
end
end K01

set_option Elab.async false
set_option linter.all false
set_option maxRecDepth 100000
set_option maxHeartbeats 8000000
namespace K01
open PySem L2 Wc
local macro_rules | `(tactic| walk_at "lk") => `(tactic| first | with_reducible exact Look.here | (with_reducible apply Look.there; walk_at "lk"))
local macro_rules | `(tactic| walk_at "ul") => `(tactic| first | with_reducible exact UpL.here | (with_reducible apply UpL.there; walk_at "ul"))
local macro_rules | `(tactic| walk_at "ga") => `(tactic| first | exact GetAt.here | (apply GetAt.there; walk_at "ga"))
local macro_rules | `(tactic| walk_at "sa") => `(tactic| first | exact SetAt.here | (apply SetAt.there; walk_at "sa"))
local macro_rules | `(tactic| walk_at "hp") => `(tactic| first | assumption | (refine' KH.find ?k ?h; (case k => assumption); (case h => walk_at "lk")))
local macro_rules | `(tactic| walk_at "sql") => `(tactic| first | assumption | (refine' SqL.of ?h; (case h => walk_at "hp")) | (refine' Fr.sql (KH.fr ?k) ?n ?h; (case k => assumption); (case h => assumption); (case n => (simp; done))))
local macro_rules | `(tactic| walk_at "sqt") => `(tactic| first | assumption | (refine' SqT.of ?h; (case h => walk_at "hp")))
local macro_rules | `(tactic| walk_at "side") => `(tactic| first | exact (show (0 : Int) < _ by decide) | exact (show (0 : Int) < _ by omega) | exact ⟨by decide, by decide, by decide⟩ | exact ⟨by decide, by decide, by omega⟩ | exact ⟨by decide, by decide⟩ | exact ⟨by omega, by omega⟩ | exact Or.inl ⟨by omega, by omega⟩ | exact Or.inr ⟨by omega, by omega⟩)
local macro_rules | `(tactic| walk_at "siz") => `(tactic| first | (refine sz_of ?_; first | decide | omega | (simp; done) | (simp; omega)) | (refine sz_lt ?_; first | decide | omega | (simp; done) | (simp; omega)))
local macro_rules | `(tactic| walk_at "own") => `(tactic| first | (exact Or.inr (by assumption)) | (refine Or.inl ?_; simp; done))
local macro_rules | `(tactic| walk_at "al") => `(tactic| (refine' AllocO.mk ?k ?_; (case k => assumption); intro _ _ _ _))
local macro_rules | `(tactic| walk_at "up") => `(tactic| (refine' UpdO.mk ?k ?h ?m ?_; (case k => assumption); (case h => walk_at "ul"); (case m => walk_at "own"); intro _ _))
local macro_rules | `(tactic| walk_at "st") => `(tactic| first
  | ((with_reducible refine' r_var ?h ?_); (case h => walk_at "ga"))
  | (with_reducible refine' r_seq ?_) | (with_reducible refine' r_next ?_) | (with_reducible refine' r_asg ?_) | (with_reducible refine' r_drop ?_) | (with_reducible refine' r_ret ?_) | (with_reducible refine' r_retN ?_)
  | (with_reducible refine' r_ifs ?_) | (with_reducible refine' r_cont ?_) | (with_reducible refine' r_break ?_) | (with_reducible refine' r_c ?_) | (with_reducible refine' r_op ?_) | (with_reducible refine' r_un ?_)
  | (with_reducible refine' r_test ?_) | (with_reducible refine' r_tB ?_) | (with_reducible refine' r_not ?_) | (with_reducible refine' r_and ?_) | (with_reducible refine' r_or ?_) | (with_reducible refine' r_notV ?_)
  | (with_reducible refine' r_andV ?_) | (with_reducible refine' r_orV ?_) | (with_reducible refine' r_ifE ?_) | (with_reducible refine' r_bl ?_) | (with_reducible refine' r_nil ?_) | (with_reducible refine' r_cons ?_)
  | (with_reducible refine' r_tup ?_) | (with_reducible refine' r_lst ?_) | (with_reducible refine' r_cb ?_) | (with_reducible refine' r_call ?_) | ((with_reducible refine' r_name ?h ?_); (case h => walk_at "sa")) | (with_reducible refine' r_gnil ?_)
  | (with_reducible refine' r_gcons ?_) | (with_reducible refine' r_gsub ?_) | (with_reducible refine' r_par ?_) | (with_reducible refine' r_par2 ?_) | (with_reducible refine' r_I0 ?_) | (with_reducible refine' r_U ?_)
  | ((with_reducible refine' r_eq ?h ?_); (case h => rfl)) | ((with_reducible refine' r_ne ?h ?_); (case h => rfl))
  | ((with_reducible refine' r_ixL ?h ?a ?_); (case h => walk_at "sql"); (case a => rfl))
  | ((with_reducible refine' r_ixT ?h ?a ?_); (case h => walk_at "sqt"); (case a => rfl))
  | ((with_reducible refine' r_setL ?h ?a ?_); (case h => walk_at "hp"); (case a => rfl))
  | ((with_reducible refine' r_I ?c ?_); (case c => walk_at "side"))
  | (with_reducible refine' r_sl ?_) | (with_reducible refine' r_part ?_) | (with_reducible refine' r_nopart ?_) | (with_reducible refine' r_ii ?_)
  | ((with_reducible refine' r_slL ?h ?_); (case h => walk_at "sql"))
  | (with_reducible refine' r_bm ?_) | (with_reducible refine' r_bm0 ?_) | (with_reducible refine' r_int1 ?_) | (with_reducible refine' r_int1b ?_)
  | ((with_reducible refine' r_aug ?h ?_); (case h => walk_at "ga"))
  | ((with_reducible refine' r_cat ?a ?b ?z ?_); (case a => walk_at "hp"); (case b => walk_at "hp"); (case z => walk_at "siz"))
  | ((with_reducible refine' r_append ?a ?z ?_); (case a => walk_at "hp"); (case z => walk_at "siz"))
  | ((with_reducible refine' And.intro ?z ?_); (case z => first | walk_at "siz" | exact Or.inl ⟨rfl, _, by walk_at "sql"⟩))
  | ((with_reducible refine' r_gtup ?h ?l ?_); (case h => walk_at "sqt"); (case l => rfl))
  | (with_reducible refine' r_forL ?_) | (with_reducible refine' r_forE ?_) | (with_reducible refine' r_forR ?_) | ((with_reducible refine' r_forL2 ?h ?_); (case h => walk_at "sql")) | ((with_reducible refine' r_forE2 ?h ?_); (case h => walk_at "sql"))
  | (with_reducible refine' r_lcR ?_) | ((with_reducible refine' r_iteT ?h ?_); (case h => rfl)) | ((with_reducible refine' r_iteF ?h ?_); (case h => rfl))
  | (with_reducible refine' r_dnew ?_) | (with_reducible refine' r_vei ?_) | (with_reducible refine' r_ost ?_) | (with_reducible refine' r_mkV ?_) | (with_reducible refine' r_mkX ?_) | (with_reducible refine' r_xfld ?_)
  | ((with_reducible refine' MkG.mk ?o ?n ?k ?_); (case o => exact ErrOk.o (by assumption)); (case n => exact ErrOk.no (by assumption)); (case k => assumption); intro _ _ _ _)
  | ((with_reducible refine' AllocX.mk ?k ?_); (case k => assumption); intro _ _ _ _)
  | (with_reducible refine' r_chain ?_) | (with_reducible refine' r_lcS ?_) | (with_reducible refine' r_lcS2 ?_) | (with_reducible refine' r_lcL ?_) | (with_reducible refine' r_lcT ?_) | (with_reducible refine' r_lcI ?_) | (with_reducible refine' r_yes ?_)
  | (with_reducible refine' r_fld ?_) | (with_reducible refine' r_sfld ?_) | (with_reducible refine' r_meth ?_) | (with_reducible refine' r_make ?_) | (with_reducible refine' r_dget ?_) | (with_reducible refine' r_din ?_) | (with_reducible refine' r_dput ?_)
  | ((with_reducible refine' r_disp ?k ?_); (case k => assumption); intro _ _ _ _) | (with_reducible refine' r_pnil ?_) | (with_reducible refine' r_pcons ?_)
  | (walk_at "al") | (walk_at "up"))
local macro_rules | `(tactic| walk_at "go") => `(tactic| repeat walk_at "st")

section
variable {P : Program} {w : World} {K : PySem.W.Frag} {mg : Str → Option Value} {base : Heap} {f : Addr} {fd : FuncData}
abbrev FnI (K : PySem.W.Frag) (q : Str) (st : Stmt) (f : Addr) (fd : FuncData) : Prop := FunD K "__init__" q (defArgs st) (defBody st) (defScope st) [] [] f fd
theorem ok_init_NoWorld {C Wa : Addr} (F : FnI K "NoWorld.__init__" s_NoWorld_init f fd) (W : BaseIn K Wa) (gW : mg "WorldError" = some (.ref Wa)) : FnOk P w K mg base CX0 1 f fd ["self", "world"] (spInit K C "world") := by
  refine F.ok sc_NoWorld_init (fun vs H Q E h => ?_) (fun cdv A outer s H vs Q E hr h => ?_)
  · obtain ⟨a, v, rfl, _⟩ := h
    rfl
  · refine ⟨_, PSs.nox (pss_cons (ps_expr (pe_winit (by rfl) gW W (pa_cons (pv 0) (pa_cons pe_str pa_nil))))
      (pss_one (ps_ost (pv 0) (pv 1)))), ?_⟩
    obtain ⟨a, v, rfl, ha, o, no, k⟩ := h
    walk_at "go"
    refine ⟨a, C, _, rfl, by simp, o, ha, ?_⟩
    walk_at "go"
    exact ⟨a, C, rfl, o, no, .inl ⟨ha, fun d hd ne => k d hd ne⟩⟩
theorem ok_init_NoClass {C Wa : Addr} (F : FnI K "NoClass.__init__" s_NoClass_init f fd) (W : BaseIn K Wa) (gW : mg "WorldError" = some (.ref Wa)) : FnOk P w K mg base CX0 1 f fd ["self", "name"] (spInit K C "name") := by
  refine F.ok sc_NoClass_init (fun vs H Q E h => ?_) (fun cdv A outer s H vs Q E hr h => ?_)
  · obtain ⟨a, v, rfl, _⟩ := h
    rfl
  · refine ⟨_, PSs.nox (pss_cons (ps_expr (pe_winit (by rfl) gW W (pa_cons (pv 0) (pa_cons pe_str pa_nil))))
      (pss_one (ps_ost (pv 0) (pv 1)))), ?_⟩
    obtain ⟨a, v, rfl, ha, o, no, k⟩ := h
    walk_at "go"
    refine ⟨a, C, _, rfl, by simp, o, ha, ?_⟩
    walk_at "go"
    exact ⟨a, C, rfl, o, no, .inl ⟨ha, fun d hd ne => k d hd ne⟩⟩
theorem ok_init_Taken {C Wa : Addr} (F : FnI K "Taken.__init__" s_Taken_init f fd) (W : BaseIn K Wa) (gW : mg "WorldError" = some (.ref Wa)) : FnOk P w K mg base CX0 1 f fd ["self", "name"] (spInit K C "name") := by
  refine F.ok sc_Taken_init (fun vs H Q E h => ?_) (fun cdv A outer s H vs Q E hr h => ?_)
  · obtain ⟨a, v, rfl, _⟩ := h
    rfl
  · refine ⟨_, PSs.nox (pss_cons (ps_expr (pe_winit (by rfl) gW W (pa_cons (pv 0) (pa_cons pe_str pa_nil))))
      (pss_one (ps_ost (pv 0) (pv 1)))), ?_⟩
    obtain ⟨a, v, rfl, ha, o, no, k⟩ := h
    walk_at "go"
    refine ⟨a, C, _, rfl, by simp, o, ha, ?_⟩
    walk_at "go"
    exact ⟨a, C, rfl, o, no, .inl ⟨ha, fun d hd ne => k d hd ne⟩⟩
theorem ok_init_NoField {C Wa : Addr} (F : FnI K "NoField.__init__" s_NoField_init f fd) (W : BaseIn K Wa) (gW : mg "WorldError" = some (.ref Wa)) : FnOk P w K mg base CX0 1 f fd ["self", "field"] (spInit K C "field") := by
  refine F.ok sc_NoField_init (fun vs H Q E h => ?_) (fun cdv A outer s H vs Q E hr h => ?_)
  · obtain ⟨a, v, rfl, _⟩ := h
    rfl
  · refine ⟨_, PSs.nox (pss_cons (ps_expr (pe_winit (by rfl) gW W (pa_cons (pv 0) (pa_cons pe_str pa_nil))))
      (pss_one (ps_ost (pv 0) (pv 1)))), ?_⟩
    obtain ⟨a, v, rfl, ha, o, no, k⟩ := h
    walk_at "go"
    refine ⟨a, C, _, rfl, by simp, o, ha, ?_⟩
    walk_at "go"
    exact ⟨a, C, rfl, o, no, .inl ⟨ha, fun d hd ne => k d hd ne⟩⟩
end
theorem facts {P : Program} {w : World} {K : PySem.W.Frag} {h : Heap} {mg : Str → Option Value} {f : Addr} (X : K.In h) (G : h.Ns mainGlobals mg) (hfa : mg ("law" : Str) = some (.ref f)) (c : SaysY fa fn tf ex h K) :
    ∃ fd : FuncData, (∀ (s : Shared) (v : Value), BindsTo s fd ⟨[v], []⟩ [("_law_script", v)]) ∧ ∀ base : Heap, K.In base → base.Ns mainGlobals mg → LamX.TabB base mg (He.cT K ("_law_step", none)).1 (He.cT K ("_law_step", none)).2 → FnOk P w K mg base CX0 8 f fd ["_law_script"] (spLaw K (He.cT K ("_law_step", none)).2) := by
  have inF : ∀ {f : He.Fa}, f ∈ fa → f.ok K = true := fun hf => c.fact hf
  have glo : ∀ x : Str, x ∈ gloL → mg x = some (.ref (He.ga K x)) := fun x hx => He.glo_ok X G (inF (List.mem_append_left _ (List.mem_map_of_mem hx)))
  have free : ∀ x : Str, x ∈ freeL → mg x = none := fun x hx => He.free_ok X G (inF (List.mem_append_right _ (List.mem_append_left _ (List.mem_map_of_mem hx))))
  have intc : ∀ (x : Str) (i : Int), (x, i) ∈ intL → ∃ t, mg x = some (.int i t) := fun x i hx => He.int_ok X G (inF (List.mem_append_right _ (List.mem_append_right _ (List.mem_append_right _ (List.mem_append_left _ (List.mem_map_of_mem (f := fun p : Str × Int => He.Fa.int p.1 p.2) hx))))))
  have strc : ∀ (x z : Str), (x, z) ∈ strL → ∃ t, mg x = some (.str z t) := fun x z hx => He.str_ok X G (inF (List.mem_append_right _ (List.mem_append_right _ (List.mem_append_right _ (List.mem_append_right _ (List.mem_append_left _ (List.mem_map_of_mem (f := fun p : Str × Str => He.Fa.str p.1 p.2) hx)))))))
  have cl : ∀ x : Str, x ∈ clsL → Cls K (He.ga K x) := fun x hx => He.cls_ok (inF (List.mem_append_right _ (List.mem_append_right _ (List.mem_append_right _ (List.mem_append_right _ (List.mem_append_right _ (List.mem_append_left _ (List.mem_map_of_mem hx))))))))
  have mkr : ∀ x : Str, x ∈ clsL → Mk K (He.ga K x) (He.ma K (He.ga K x) "__init__") := fun x hx => He.mkr_ok (inF (List.mem_append_right _ (List.mem_append_right _ (List.mem_append_right _ (List.mem_append_right _ (List.mem_append_right _ (List.mem_append_right _ (List.mem_append_left _ (List.mem_map_of_mem hx)))))))))
  have na : ∀ x y : Str, (x, y) ∈ noatL → NoAttr K (He.ga K x) y := fun x y hx => He.noat_ok (inF (List.mem_append_right _ (List.mem_append_right _ (List.mem_append_right _ (List.mem_append_right _ (List.mem_append_right _ (List.mem_append_right _ (List.mem_append_right _ (List.mem_append_left _ (List.mem_map_of_mem (f := fun p : Str × Str => He.Fa.noat p.1 p.2) hx))))))))))
  have mth : ∀ x y : Str, (x, y) ∈ methL → Meth K (He.ga K x) y (He.ma K (He.ga K x) y) := fun x y hx => He.meth_ok (inF (List.mem_append_right _ (List.mem_append_right _ (List.mem_append_right _ (List.mem_append_right _ (List.mem_append_right _ (List.mem_append_right _ (List.mem_append_right _ (List.mem_append_right _ (List.mem_map_of_mem (f := fun p : Str × Str => He.Fa.meth p.1 p.2) hx))))))))))
  obtain ⟨x1, x2⟩ := He.ba c.more
  obtain ⟨x2, x3⟩ := He.ba x2
  obtain ⟨x3, x4⟩ := He.ba x3
  have W := baseB_ok x1
  have up : ∀ x, x ∈ kinds → _ := fun x hx => List.all_eq_true.mp x3 x hx
  have kit : ∀ (x y : Str) (b : Bool), x ∈ kinds → y ∈ kinds → decide (x = y) = b → PySem.W.exmOne K (.ref (He.ga K x)) (.ref (He.ga K y)) = some b := fun x y b hx hy e => by
    rw [← e]
    exact of_decide_eq_true (List.all_eq_true.mp (List.all_eq_true.mp x2 x hx) y hy)
  have xf : ∀ x : Str, x ∈ kinds → XfC K (He.ga K x) := fun x hx => by
    obtain ⟨u1, u2⟩ := He.ba (up x hx)
    obtain ⟨u2, u3⟩ := He.ba u2
    obtain ⟨u3, u4⟩ := He.ba u3
    have r := exRdB_ok u3
    exact ⟨r.ga, r.gg, of_decide_eq_true u1, r.hd⟩
  have we : ∀ x : Str, x ∈ kinds → PySem.W.exmOne K (.ref (He.ga K x)) (.ref (He.ga K "WorldError")) = some true := fun x hx => of_decide_eq_true (He.ba (He.ba (He.ba (up x hx)).2).2).2
  have own_ : ∀ p, p ∈ own → OexC K (He.ga K p.1) ∧ ExIn K (He.ga K p.1) (He.ma K (He.ga K p.1) "__init__") ∧ PySem.W.findIn K (.ref (He.ga K p.1)) p.2 = some none := fun p hp => by
    obtain ⟨z1, z2⟩ := He.ba (List.all_eq_true.mp x4 p hp)
    obtain ⟨z2, z3⟩ := He.ba z2
    exact ⟨exB_ok z1, exInB_ok z2, of_decide_eq_true z3⟩
  have gW := glo "WorldError" (by decide +kernel)
  have T : Bt mg := ⟨free _ (by decide +kernel), free _ (by decide +kernel), free _ (by decide +kernel), free _ (by decide +kernel), free _ (by decide +kernel), free _ (by decide +kernel), free _ (by decide +kernel), free _ (by decide +kernel), free _ (by decide +kernel), free _ (by decide +kernel), strc "LETTERS" _ (by decide +kernel), intc "MOST_FIELDS" _ (by decide +kernel)⟩
  have C : Cs K (He.ga K "Kind") (He.ga K "Runtime") := ⟨cl "Kind" (by decide +kernel), cl "Runtime" (by decide +kernel), na "Kind" "parent" (by decide +kernel), na "Kind" "fields" (by decide +kernel), na "Kind" "since" (by decide +kernel), na "Runtime" "kinds" (by decide +kernel), na "Runtime" "tables" (by decide +kernel)⟩
  have C2 : Cs2 K (He.ga K "Runtime") := ⟨na "Runtime" "entries" (by decide +kernel), na "Runtime" "tasks" (by decide +kernel), na "Runtime" "solutions" (by decide +kernel), na "Runtime" "shapes" (by decide +kernel), na "Runtime" "made" (by decide +kernel)⟩
  generalize eCK : He.ga K "Kind" = CK at C
  generalize eCR : He.ga K "Runtime" = CR at C C2
  obtain ⟨fd_NoClass, F_NoClass⟩ := c.def_ (d := d_NoClass_init) (by simp [fn])
  have E_NoClass : ∀ base, ErrOk P w K mg base "NoClass" (He.ga K "NoClass") "name" := fun base => ⟨glo "NoClass" (by decide +kernel), (own_ ("NoClass", "name") (by decide +kernel)).1, (own_ ("NoClass", "name") (by decide +kernel)).2.2, _, fd_NoClass, ["self", "name"], (own_ ("NoClass", "name") (by decide +kernel)).2.1,
    FunD.bindsN F_NoClass (fun _ _ _ _ _ _ us hl => match us, hl with | [_, _], _ => rfl), ok_init_NoClass F_NoClass W gW⟩
  obtain ⟨fd_Taken, F_Taken⟩ := c.def_ (d := d_Taken_init) (by simp [fn])
  have E_Taken : ∀ base, ErrOk P w K mg base "Taken" (He.ga K "Taken") "name" := fun base => ⟨glo "Taken" (by decide +kernel), (own_ ("Taken", "name") (by decide +kernel)).1, (own_ ("Taken", "name") (by decide +kernel)).2.2, _, fd_Taken, ["self", "name"], (own_ ("Taken", "name") (by decide +kernel)).2.1,
    FunD.bindsN F_Taken (fun _ _ _ _ _ _ us hl => match us, hl with | [_, _], _ => rfl), ok_init_Taken F_Taken W gW⟩
  obtain ⟨fd_NoField, F_NoField⟩ := c.def_ (d := d_NoField_init) (by simp [fn])
  have E_NoField : ∀ base, ErrOk P w K mg base "NoField" (He.ga K "NoField") "field" := fun base => ⟨glo "NoField" (by decide +kernel), (own_ ("NoField", "field") (by decide +kernel)).1, (own_ ("NoField", "field") (by decide +kernel)).2.2, _, fd_NoField, ["self", "field"], (own_ ("NoField", "field") (by decide +kernel)).2.1,
    FunD.bindsN F_NoField (fun _ _ _ _ _ _ us hl => match us, hl with | [_, _], _ => rfl), ok_init_NoField F_NoField W gW⟩
  obtain ⟨fd_is_name, F_is_name⟩ := c.def_ (d := d_is_name) (by simp [fn])
  have D_is_name : ∀ base, DfOk P w K mg base CX0 1 "is_name" ["thing"] (spIsName K) := fun base => ⟨_, fd_is_name, glo "is_name" (by decide +kernel), F_is_name.kp, FunD.bindsN F_is_name (fun _ _ _ _ _ _ us hl => match us, hl with | [_], _ => rfl), ok_is_name F_is_name T⟩
  obtain ⟨fd_is_class, F_is_class⟩ := c.def_ (d := d_is_class) (by simp [fn])
  have D_is_class : ∀ base, DfOk P w K mg base CX0 2 "is_class" ["runtime", "name"] (spIsClass K CK CR) := fun base => ⟨_, fd_is_class, glo "is_class" (by decide +kernel), F_is_class.kp, FunD.bindsN F_is_class (fun _ _ _ _ _ _ us hl => match us, hl with | [_, _], _ => rfl), ok_is_class F_is_class T C (D_is_name base)⟩
  obtain ⟨fd_check_class, F_check_class⟩ := c.def_ (d := d_check_class) (by simp [fn])
  have D_check_class : ∀ base, DfOk P w K mg base (L2.CX P w) 3 "check_class" ["runtime", "name"] (spCheck K CK CR (He.ga K "NoClass")) := fun base => ⟨_, fd_check_class, glo "check_class" (by decide +kernel), F_check_class.kp, FunD.bindsN F_check_class (fun _ _ _ _ _ _ us hl => match us, hl with | [_, _], _ => rfl), ok_check_class F_check_class T C (E_NoClass base) (D_is_class base)⟩
  obtain ⟨fd_line_of, F_line_of⟩ := c.def_ (d := d_line_of) (by simp [fn])
  have D_line_of : ∀ base, DfOk P w K mg base CX0 1 "line_of" ["runtime", "name"] (spLineOf CK CR) := fun base => ⟨_, fd_line_of, glo "line_of" (by decide +kernel), F_line_of.kp, FunD.bindsN F_line_of (fun _ _ _ _ _ _ us hl => match us, hl with | [_, _], _ => rfl), ok_line_of F_line_of T C⟩
  obtain ⟨fd_known, F_known⟩ := c.def_ (d := d_known) (by simp [fn])
  have D_known : ∀ base, DfOk P w K mg base CX0 1 "known" ["runtime", "world"] (spKnown CK CR) := fun base => ⟨_, fd_known, glo "known" (by decide +kernel), F_known.kp, FunD.bindsN F_known (fun _ _ _ _ _ _ us hl => match us, hl with | [_, _], _ => rfl), ok_known F_known T C⟩
  obtain ⟨fd_below, F_below⟩ := c.def_ (d := d_below) (by simp [fn])
  have D_below : ∀ base, DfOk P w K mg base CX0 2 "below" ["runtime", "one", "other"] (spBelow CK CR) := fun base => ⟨_, fd_below, glo "below" (by decide +kernel), F_below.kp, FunD.bindsN F_below (fun _ _ _ _ _ _ us hl => match us, hl with | [_, _, _], _ => rfl), ok_below F_below T (D_line_of base)⟩
  obtain ⟨fd_Kind_init, F_Kind_init⟩ := c.def_ (d := d_Kind_init) (by simp [fn])
  have K_Kind : ∀ base, MkOk P w K mg base CX0 1 "Kind" CK ["self", "parent", "fields", "since"] (spKind CK) := fun base => ⟨by rw [← eCK]; exact glo "Kind" (by decide +kernel), _, fd_Kind_init, by rw [← eCK]; exact mkr "Kind" (by decide +kernel), FunD.bindsN F_Kind_init (fun _ _ _ _ _ _ us hl => match us, hl with | [_, _, _, _], _ => rfl), ok_kind F_Kind_init C⟩
  obtain ⟨fd_Runtime_init, F_Runtime_init⟩ := c.def_ (d := d_Runtime_init) (by simp [fn])
  have K_Runtime : ∀ base, MkOk P w K mg base CX0 3 "Runtime" CR ["self"] (spRuntime CK CR) := fun base => ⟨by rw [← eCR]; exact glo "Runtime" (by decide +kernel), _, fd_Runtime_init, by rw [← eCR]; exact mkr "Runtime" (by decide +kernel), FunD.bindsN F_Runtime_init (fun _ _ _ _ _ _ us hl => match us, hl with | [_], _ => rfl), ok_runtime F_Runtime_init C C2 (K_Kind base)⟩
  obtain ⟨fd_Runtime_newest, F_Runtime_newest⟩ := c.def_ (d := d_Runtime_newest) (by simp [fn])
  have M_newest : ∀ base, MtOk P w K mg base CX0 1 CR "newest" ["self"] (spNewest CK CR) := fun base => ⟨by rw [← eCR]; exact cl "Runtime" (by decide +kernel), _, fd_Runtime_newest, by rw [← eCR]; exact mth "Runtime" "newest" (by decide +kernel), FunD.bindsN F_Runtime_newest (fun _ _ _ _ _ _ us hl => match us, hl with | [_], _ => rfl), ok_newest F_Runtime_newest T C⟩
  obtain ⟨fd_Runtime_table, F_Runtime_table⟩ := c.def_ (d := d_Runtime_table) (by simp [fn])
  have M_table : ∀ base, MtOk P w K mg base CX0 1 CR "table" ["self", "world"] (spTable CK CR) := fun base => ⟨by rw [← eCR]; exact cl "Runtime" (by decide +kernel), _, fd_Runtime_table, by rw [← eCR]; exact mth "Runtime" "table" (by decide +kernel), FunD.bindsN F_Runtime_table (fun _ _ _ _ _ _ us hl => match us, hl with | [_, _], _ => rfl), ok_table F_Runtime_table T C⟩
  obtain ⟨fd_Runtime_add_world, F_Runtime_add_world⟩ := c.def_ (d := d_Runtime_add_world) (by simp [fn])
  have M_add_world : ∀ base, MtOk P w K mg base CX0 2 CR "add_world" ["self", "table"] (spAddWorld CK CR) := fun base => ⟨by rw [← eCR]; exact cl "Runtime" (by decide +kernel), _, fd_Runtime_add_world, by rw [← eCR]; exact mth "Runtime" "add_world" (by decide +kernel), FunD.bindsN F_Runtime_add_world (fun _ _ _ _ _ _ us hl => match us, hl with | [_, _], _ => rfl), ok_add_world F_Runtime_add_world T C (M_newest base)⟩
  obtain ⟨fd_now, F_now⟩ := c.def_ (d := d_now) (by simp [fn])
  have D_now : ∀ base, DfOk P w K mg base CX0 2 "now" ["runtime"] (spNow CK CR) := fun base => ⟨_, fd_now, glo "now" (by decide +kernel), F_now.kp, FunD.bindsN F_now (fun _ _ _ _ _ _ us hl => match us, hl with | [_], _ => rfl), ok_now F_now (M_newest base)⟩
  obtain ⟨fd_world_of, F_world_of⟩ := c.def_ (d := d_world_of) (by simp [fn])
  have D_world_of : ∀ base, DfOk P w K mg base CX0 2 "world_of" ["runtime", "world"] (spWorldN CK CR) := fun base => ⟨_, fd_world_of, glo "world_of" (by decide +kernel), F_world_of.kp, FunD.bindsN F_world_of (fun _ _ _ _ _ _ us hl => match us, hl with | [_, _], _ => rfl), ok_worldN F_world_of (M_newest base)⟩
  obtain ⟨fd_classes, F_classes⟩ := c.def_ (d := d_classes) (by simp [fn])
  have D_classes : ∀ base, DfOkD P w K mg base CX0 3 "classes" ["runtime", "world"] [.non] (spClasses CK CR) := fun base => by
    obtain ⟨ds, hv, hb⟩ := FunD.binds0 (ps := ["runtime", "world"]) F_classes 1 (by intro z; cases z) rfl (fun D doc pm an cdv ct us ks h1 h2 => match us, ks, h1, h2 with | [_], [_], _, _ => ⟨_, _, _, _, _, _, rfl, rfl, rfl⟩)
    exact ⟨_, fd_classes, ds, glo "classes" (by decide +kernel), F_classes.kp, hv, hb, ok_classes F_classes (D_known base) (D_world_of base)⟩
  obtain ⟨fd_parent, F_parent⟩ := c.def_ (d := d_parent) (by simp [fn])
  have D_parent : ∀ base, DfOk P w K mg base CX0 4 "parent" ["runtime", "name"] (spParent CK CR) := fun base => ⟨_, fd_parent, glo "parent" (by decide +kernel), F_parent.kp, FunD.bindsN F_parent (fun _ _ _ _ _ _ us hl => match us, hl with | [_, _], _ => rfl), ok_parent F_parent C (D_check_class base)⟩
  obtain ⟨fd_fields, F_fields⟩ := c.def_ (d := d_fields) (by simp [fn])
  have D_fields : ∀ base, DfOk P w K mg base CX0 4 "fields" ["runtime", "name"] (spFields CK CR) := fun base => ⟨_, fd_fields, glo "fields" (by decide +kernel), F_fields.kp, FunD.bindsN F_fields (fun _ _ _ _ _ _ us hl => match us, hl with | [_, _], _ => rfl), ok_fields F_fields T C (D_check_class base)⟩
  obtain ⟨fd_is_below, F_is_below⟩ := c.def_ (d := d_is_below) (by simp [fn])
  have D_is_below : ∀ base, DfOk P w K mg base CX0 4 "is_below" ["runtime", "one", "other"] (spIsBelow CK CR) := fun base => ⟨_, fd_is_below, glo "is_below" (by decide +kernel), F_is_below.kp, FunD.bindsN F_is_below (fun _ _ _ _ _ _ us hl => match us, hl with | [_, _, _], _ => rfl), ok_is_below F_is_below (D_check_class base) (D_below base)⟩
  obtain ⟨fd_own_fields, F_own_fields⟩ := c.def_ (d := d_own_fields) (by simp [fn])
  have D_own_fields : ∀ base, DfOk P w K mg base (L2.CX P w) 3 "own_fields" ["runtime", "parent", "fields"] (spOwn K CK CR (He.ga K "NoField")) := fun base => ⟨_, fd_own_fields, glo "own_fields" (by decide +kernel), F_own_fields.kp, FunD.bindsN F_own_fields (fun _ _ _ _ _ _ us hl => match us, hl with | [_, _, _], _ => rfl), ok_own_fields F_own_fields T C (E_NoField base) (D_is_name base) (D_is_class base)⟩
  obtain ⟨fdA, F_add_class⟩ := c.def_ (d := d_add_class) (by simp [fn])
  have FA : ∀ base, FnOk P w K mg base (L2.CX P w) 4 (He.fAd K ("add_class", none)) fdA ["runtime", "name", "parent", "fields"] (spAdd K CK CR (He.ga K "NoClass") (He.ga K "Taken") (He.ga K "NoField")) := fun base => ok_add_class F_add_class T C (E_NoClass base) (E_Taken base) (D_is_name base) (D_check_class base) (D_own_fields base) (M_newest base) (M_table base) (M_add_world base) (K_Kind base)
  have KB : KBn K fdA ["runtime", "name", "parent", "fields"] 3 ["fields"] (fun us ws => us ++ ws) (fun vs zs => vs ++ zs) := by
    obtain ⟨oc, od, dV, kV, doc, pm, an, cdv, ct, osl, rfl, lk, hcd, hD, _⟩ := F_add_class.ex
    obtain rfl : dV = .none := hD.elim (fun z => z.2) fun z => absurd rfl z.1
    exact ⟨fun s us ws _ h1 h2 => match us, ws, h1, h2 with | [_, _, _], [_], _, _ => BindsTo.of_eq rfl, fun a b => Vals.append a b⟩
  have gA := glo "add_class" (by decide +kernel)
  obtain ⟨fd_l_well, F_l_well⟩ := c.def_ (d := d_l_well) (by simp [fn])
  have D_l_well : ∀ base, DfOk P w K mg base CX0 1 "_law_well" ["_law_cell"] spWell := fun base => ⟨_, fd_l_well, glo "_law_well" (by decide +kernel), F_l_well.kp, FunD.bindsN F_l_well (fun _ _ _ _ _ _ us hl => match us, hl with | [_], _ => rfl), ok_well F_l_well T⟩
  obtain ⟨fd_l_draw, F_l_draw⟩ := c.def_ (d := d_l_draw) (by simp [fn])
  have D_l_draw : ∀ base, DfOk P w K mg base CX0 1 "_law_draw" ["_law_well_here", "_law_many"] spDraw := fun base => ⟨_, fd_l_draw, glo "_law_draw" (by decide +kernel), F_l_draw.kp, FunD.bindsN F_l_draw (fun _ _ _ _ _ _ us hl => match us, hl with | [_, _], _ => rfl), ok_draw F_l_draw T⟩
  obtain ⟨fd_l_one, F_l_one⟩ := c.def_ (d := d_l_one) (by simp [fn])
  have D_l_one : ∀ base, DfOk P w K mg base CX0 2 "_law_one" ["_law_well_here", "_law_some"] (spOne K) := fun base => ⟨_, fd_l_one, glo "_law_one" (by decide +kernel), F_l_one.kp, FunD.bindsN F_l_one (fun _ _ _ _ _ _ us hl => match us, hl with | [_, _], _ => rfl), ok_one F_l_one T (D_l_draw base)⟩
  obtain ⟨fd_l_line, F_l_line⟩ := c.def_ (d := d_l_line) (by simp [fn])
  have D_l_line : ∀ base, DfOk P w K mg base CX0 1 "_law_line" ["_law_tree", "_law_name"] spLLine := fun base => ⟨_, fd_l_line, glo "_law_line" (by decide +kernel), F_l_line.kp, FunD.bindsN F_l_line (fun _ _ _ _ _ _ us hl => match us, hl with | [_, _], _ => rfl), ok_lline F_l_line T⟩
  obtain ⟨fd_l_all_fields, F_l_all_fields⟩ := c.def_ (d := d_l_all_fields) (by simp [fn])
  have D_l_all_fields : ∀ base, DfOk P w K mg base CX0 2 "_law_all_fields" ["_law_tree", "_law_name"] spLAll := fun base => ⟨_, fd_l_all_fields, glo "_law_all_fields" (by decide +kernel), F_l_all_fields.kp, FunD.bindsN F_l_all_fields (fun _ _ _ _ _ _ us hl => match us, hl with | [_, _], _ => rfl), ok_lall F_l_all_fields T (D_l_line base)⟩
  obtain ⟨fd_l_right, F_l_right⟩ := c.def_ (d := d_l_right) (by simp [fn])
  have D_l_right : ∀ base, DfOk P w K mg base CX0 5 "_law_right" ["_law_runtime", "_law_tree"] (spRight CK CR) := fun base => ⟨_, fd_l_right, glo "_law_right" (by decide +kernel), F_l_right.kp, FunD.bindsN F_l_right (fun _ _ _ _ _ _ us hl => match us, hl with | [_, _], _ => rfl), ok_right F_l_right T (D_classes base) (D_parent base) (D_fields base) (D_is_below base) (D_l_line base) (D_l_all_fields base)⟩
  obtain ⟨fd_l_fields, F_l_fields⟩ := c.def_ (d := d_l_fields) (by simp [fn])
  have D_l_fields : ∀ base, DfOk P w K mg base CX0 3 "_law_fields" ["_law_well_here", "_law_tree", "_law_above", "_law_name"] (spLFields K) := fun base => ⟨_, fd_l_fields, glo "_law_fields" (by decide +kernel), F_l_fields.kp, FunD.bindsN F_l_fields (fun _ _ _ _ _ _ us hl => match us, hl with | [_, _, _, _], _ => rfl), ok_lfields F_l_fields T (D_l_draw base) (D_l_one base) (D_l_all_fields base)⟩
  obtain ⟨fdS, F_l_said⟩ := c.def_ (d := d_l_said) (by simp [fn])
  obtain ⟨oc2, od2, dV2, kV2, doc2, pm2, an2, cdv2, ct2, osl2, eS, lkS, hcS, _, _⟩ := F_l_said.ex
  have bS := FunD.bindsN (ps := ["_law_ask"]) F_l_said (fun _ _ _ _ _ _ us hl => match us, hl with | [_], _ => rfl)
  rw [eS] at bS lkS
  obtain ⟨fdT, F_l_step⟩ := c.def_ (d := d_l_step) (by simp [fn])
  obtain ⟨oc, od, dV, kV, doc, pm, an, cdv, ct, osl, eT, lkT, hcT, _, _⟩ := F_l_step.ex
  have bT := FunD.bindsN (ps := ["_law_well_here", "_law_runtime", "_law_tree", "_law_moment"]) F_l_step (fun _ _ _ _ _ _ us hl => match us, hl with | [_, _, _, _], _ => rfl)
  rw [eT] at bT lkT
  obtain ⟨cc, rfl⟩ := He.codeIn_ref hcT
  have ecc : (He.cT K ("_law_step", none)).1 = cc := He.codeOf_eq lkT rfl
  have h3 : ThreeX K (He.ga K "NoClass") (He.ga K "Taken") (He.ga K "NoField") (He.ga K "WorldError") := ⟨kit "NoClass" "NoClass" true (by decide +kernel) (by decide +kernel) rfl, kit "Taken" "NoClass" false (by decide +kernel) (by decide +kernel) rfl, kit "Taken" "Taken" true (by decide +kernel) (by decide +kernel) rfl,
    kit "NoField" "NoClass" false (by decide +kernel) (by decide +kernel) rfl, kit "NoField" "Taken" false (by decide +kernel) (by decide +kernel) rfl, kit "NoField" "NoField" true (by decide +kernel) (by decide +kernel) rfl, xf "NoClass" (by decide +kernel), xf "Taken" (by decide +kernel), xf "NoField" (by decide +kernel),
    (own_ ("NoClass", "name") (by decide +kernel)).2.2, (own_ ("Taken", "name") (by decide +kernel)).2.2, (own_ ("NoField", "field") (by decide +kernel)).2.2⟩
  obtain ⟨fd, F⟩ := c.def_ (d := d_law) (by simp [fn])
  have e := hfa.symm.trans (glo "law" (by decide +kernel))
  cases e
  have b := FunD.bindsA (ps := ["_law_script"]) F fun _ _ _ _ _ _ us hl => match us, hl with | [_], _ => rfl
  refine ⟨fd, fun s v => b s [v] rfl, fun base _ _ TB => ?_⟩
  rw [ecc] at TB
  have D_l_step : DfOk P w K mg base CX0 7 "_law_step" ["_law_well_here", "_law_runtime", "_law_tree", "_law_moment"] (spStep K CK CR (He.cT K ("_law_step", none)).2) := ⟨_, _, glo "_law_step" (by decide +kernel), F_l_step.kp, bT,
    ok_step lkT hcT TB (glo "_law_said" (by decide +kernel)) F_l_said.kp lkS hcS bS h3 (glo "NoClass" (by decide +kernel)) (glo "Taken" (by decide +kernel)) (glo "NoField" (by decide +kernel)) gW gA F_add_class.kp KB (FA base) T (D_l_draw base) (D_l_one base) (D_l_fields base) (D_now base)⟩
  exact ok_law F T (K_Runtime base) (D_l_well base) (D_l_draw base) D_l_step (D_l_right base)
end K01
open PySem PySem.W PySem.Calls PyProof.Rows
theorem PySem.Challenge.cw_worldcalls_k01_classes_added_holds : PySem.Challenge.rw_worldcalls_k01_classes_added.Holds := by
  w_on; o_law
  refine HandSHeadRun.head_any (r := OpenLaw.row PySem.Challenge.rw_worldcalls_k01_classes_added) (q := view (OpenLaw.row PySem.Challenge.rw_worldcalls_k01_classes_added).prog [41]) (H := K01.hk) (ob := K01.ob) (M := 20000) (loose := K01.loose) (d := HandSHeadRun.topDef (OpenLaw.row PySem.Challenge.rw_worldcalls_k01_classes_added).prog 41) (kwd := []) K01.ob_eq
    (by kernel_rfl) (fun s => by kernel_rfl) K01.run (by kernel_rfl) (by kernel_rfl) (by kernel_rfl) (by rfl) (by first | assumption | decide +kernel) (by decide +kernel) ⟨rfl, rfl, rfl, rfl, rfl, by decide +kernel⟩ ?hw ?hc
  case hw => w_witness2
  case hc =>
    refine LamX.walk_ofTsE (l := PySem.Challenge.rw_worldcalls_k01_classes_added) (n := 63) (k := 8) (x := "_law_script") (CX := fun _ => L2.CX0) rfl (by decide) (by kernel_rfl) ⟨rfl, by decide, by decide⟩ ?F (fun _ _ _ _ _ z => z)
    intro w mg fa h Y G hmg0
    obtain ⟨K, KX, c⟩ := Y
    have hmg : mg ("law" : PySem.Str) = some (.ref fa) := by
      have e : (HandSHeadRun.topDef (OpenLaw.row PySem.Challenge.rw_worldcalls_k01_classes_added).prog 41).name = ("law" : PySem.Str) := by kernel_rfl
      rw [← e]
      exact hmg0
    obtain ⟨fd, hb, hF⟩ := K01.facts (P := (PySem.Challenge.rw_worldcalls_k01_classes_added).prog) (w := w) KX G hmg c
    refine ⟨K, KX, fd, K01.tf.map (He.cT K), K01.spLaw K (He.cT K ("_law_step", none)).2, fun p hp => ?_, fun p hp => ?_, fun p hp => ?_, hb, fun H a ns hl _ hT hS => ⟨a, ns, rfl, hS, hl, fun p hp => ?_, fun _ => rfl⟩, fun base hK hN hT => hF base hK hN (hT _ (List.mem_map_of_mem (List.mem_singleton.mpr rfl)))⟩
    · obtain ⟨q, hq, rfl⟩ := List.mem_map.mp hp
      exact c.empty q hq
    · obtain ⟨q, hq, rfl⟩ := List.mem_map.mp hp
      exact c.out q hq
    · obtain ⟨q, hq, rfl⟩ := List.mem_map.mp hp
      exact PySem.W.codeHd_of_K KX (c.hd q hq)
    · rw [List.mem_singleton.mp hp]
      exact LamX.TabS.nil (hT _ (List.mem_map_of_mem (List.mem_singleton.mpr rfl)))
#print axioms PySem.Challenge.cw_worldcalls_k01_classes_added_holds

