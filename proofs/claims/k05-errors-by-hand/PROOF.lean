import PyProof.Rows.All
import Wide.All
import OpenK.AllK
import Wide.FinOn
import KE.KExcIs
import HandS.ForExc
import HandS.ForMost
import HandS.More
import HandS.Defaults
import HandS.ExcInit
import HandS.ExcValue
import HandS.RaiseMore
import HandS.IsInst
import HandS.ClsMeth
import HandS.Head0
import HandS.Head1
import HandS.Head2
import HandS.HeadEnd
import HandS.HeadHook1
import HandS.HeadHook2
import HandS.HeadHook3
import HandS.HeadHook4
import PySem.Challenge.RW_worldcalls_k05_errors_by_hand
set_option Elab.async false
set_option linter.all false
set_option maxRecDepth 100000
set_option maxHeartbeats 4000000
namespace Wc
open PySem PySem.Spec PyProof.Rows L2
/-! ### what the written part says of an own exception class, as one Bool -/
def excClsB (K : PySem.W.Frag) (C : Addr) : Bool := match K.lookup C with
  | some ⟨.type t, dd, .cls cd, sl⟩ => decide (t = "type") && (match cd.mro, sl.toList with
    | .ref C' :: bm, [_, _, _, _, some (.builtin n), _] => decide (C' = C) && (decide (n = "ValueError.__new__") && (!cd.hasDel && (cd.hasDict && PySem.HandSPX.refsVE bm)))
    | _, _ => false)
  | _ => false
def exB (K : PySem.W.Frag) (C : Addr) : Bool := excClsB K C && (decide (PySem.W.findIn K (.ref C) "__setattr__" = some (some (.builtin "object.__setattr__"))) &&
  (decide (PySem.W.subIn K (.ref C) (.type "BaseException") = some true) && (decide (PySem.W.typeIn K (.ref C) = some (.type "type")) && PySem.W.keepIn K (.ref C))))
theorem excClsB_ok {K : PySem.W.Frag} {C : Addr} (h : excClsB K C = true) : ∃ nm q N bs bm sn sub ab col dd k0 k1 k2 k3 k5, K.lookup C = some (excClassObj nm q C N bs bm true sn sub ab col dd k0 k1 k2 k3 k5 "ValueError.__new__") ∧ PySem.HandSPX.refsVE bm = true := by
  unfold excClsB at h
  split at h
  · rename_i t dd cd sl lk
    obtain ⟨h1, h2⟩ := He.ba h
    have et := of_decide_eq_true h1
    subst et
    split at h2
    · rename_i C' bm k0 k1 k2 k3 n k5 hm hs
      obtain ⟨h3, h4⟩ := He.ba h2
      obtain ⟨h5, h6⟩ := He.ba h4
      obtain ⟨h7, h8⟩ := He.ba h6
      obtain ⟨h9, h10⟩ := He.ba h8
      have e1 := of_decide_eq_true h3
      have e2 := of_decide_eq_true h5
      subst e1 e2
      obtain ⟨nm, bs, mro, ns, qn, hd, sn, sub, ab, col, del⟩ := cd
      dsimp only at hm h7 h9
      subst hm
      have e3 : del = false := by simpa using h7
      subst e3 h9
      have hsl : sl = #[k0, k1, k2, k3, some (.builtin "ValueError.__new__"), k5] := by
        obtain ⟨l⟩ := sl
        simp only at hs
        rw [hs]
      subst hsl
      exact ⟨nm, qn, ns, bs, bm, sn, sub, ab, col, dd, k0, k1, k2, k3, k5, lk, h10⟩
    · cases h2
  · cases h
theorem exB_ok {K : PySem.W.Frag} {C : Addr} (h : exB K C = true) : OexC K C := by
  obtain ⟨h1, h⟩ := He.ba h
  obtain ⟨h2, h⟩ := He.ba h
  obtain ⟨h3, h⟩ := He.ba h
  obtain ⟨h4, h5⟩ := He.ba h
  exact ⟨excClsB_ok h1, of_decide_eq_true h2, of_decide_eq_true h3, of_decide_eq_true h4, h5⟩
/-- reading an attribute of an exception: no hooks -/
structure ExRd (K : PySem.W.Frag) (C : Addr) : Prop where
  ga : PySem.W.findIn K (.ref C) "__getattribute__" = some (some (.builtin "BaseException.__getattribute__"))
  gg : PySem.W.findIn K (.ref C) "__getattr__" = some none
  hd : PySem.W.hasDictIn K C = true
def exRdB (K : PySem.W.Frag) (C : Addr) : Bool := decide (PySem.W.findIn K (.ref C) "__getattribute__" = some (some (.builtin "BaseException.__getattribute__"))) &&
  (decide (PySem.W.findIn K (.ref C) "__getattr__" = some none) && PySem.W.hasDictIn K C)
theorem exRdB_ok {K : PySem.W.Frag} {C : Addr} (h : exRdB K C = true) : ExRd K C := by
  obtain ⟨h1, h⟩ := He.ba h
  obtain ⟨h2, h3⟩ := He.ba h
  exact ⟨of_decide_eq_true h1, of_decide_eq_true h2, h3⟩
/-- its own __init__ is the def at f -/
structure ExIn (K : PySem.W.Frag) (C f : Addr) : Prop where
  at_ : PySem.W.findIn K (.ref C) "__init__" = some (some (.ref f))
  ty : PySem.W.typeIn K (.ref f) = some (.type "function")
def exInB (K : PySem.W.Frag) (C f : Addr) : Bool := decide (PySem.W.findIn K (.ref C) "__init__" = some (some (.ref f))) && decide (PySem.W.typeIn K (.ref f) = some (.type "function"))
theorem exInB_ok {K : PySem.W.Frag} {C f : Addr} (h : exInB K C f = true) : ExIn K C f := by
  obtain ⟨h1, h2⟩ := He.ba h
  exact ⟨of_decide_eq_true h1, of_decide_eq_true h2⟩
/-- the base class's __init__ read off the class -/
structure BaseIn (K : PySem.W.Frag) (W : Addr) : Prop where
  sp : PySem.W.specialIn K (.ref W) "__getattribute__" = some (some (.builtin "type.__getattribute__"))
  rd : PySem.W.readsIn K W (.type "type") = true
  at_ : PySem.W.findCls K (.ref W) (.type "type") "__init__" = some (.val (.builtin "ValueError.__init__"))
def baseB (K : PySem.W.Frag) (W : Addr) : Bool := decide (PySem.W.specialIn K (.ref W) "__getattribute__" = some (some (.builtin "type.__getattribute__"))) &&
  (PySem.W.readsIn K W (.type "type") && (match PySem.W.findCls K (.ref W) (.type "type") "__init__" with
    | some (.val (.builtin n)) => decide (n = "ValueError.__init__")
    | _ => false))
theorem baseB_ok {K : PySem.W.Frag} {W : Addr} (h : baseB K W = true) : BaseIn K W := by
  obtain ⟨h1, h⟩ := He.ba h
  obtain ⟨h2, h3⟩ := He.ba h
  refine ⟨of_decide_eq_true h1, h2, ?_⟩
  split at h3
  · rename_i n e
    rw [e, of_decide_eq_true h3]
  · cases h3
/-- isinstance of such an exception -/
structure ExIs (K : PySem.W.Frag) (C : Addr) : Prop where
  cl : (PySem.W.clsIn K C).isSome = true
  at_ : PySem.W.findIn K (.ref C) "__class__" = some (some (.builtin "object.__class__"))
  sp : PySem.W.specialIn K (.builtin "object.__class__") "__get__" = some (some (.builtin "getset_descriptor.__get__"))
  tk : PySem.W.takesIn K (.builtin "object.__class__") = some true
  ob : PySem.W.mroIn K C (.type "object") = some true
def exIsB (K : PySem.W.Frag) (C : Addr) : Bool := (PySem.W.clsIn K C).isSome && (decide (PySem.W.findIn K (.ref C) "__class__" = some (some (.builtin "object.__class__"))) &&
  (decide (PySem.W.specialIn K (.builtin "object.__class__") "__get__" = some (some (.builtin "getset_descriptor.__get__"))) && (decide (PySem.W.takesIn K (.builtin "object.__class__") = some true) &&
  decide (PySem.W.mroIn K C (.type "object") = some true))))
theorem exIsB_ok {K : PySem.W.Frag} {C : Addr} (h : exIsB K C = true) : ExIs K C := by
  obtain ⟨h1, h⟩ := He.ba h
  obtain ⟨h2, h⟩ := He.ba h
  obtain ⟨h3, h⟩ := He.ba h
  obtain ⟨h4, h5⟩ := He.ba h
  exact ⟨h1, of_decide_eq_true h2, of_decide_eq_true h3, of_decide_eq_true h4, of_decide_eq_true h5⟩

/-! ### the head's look: the module's names and the model's own table of statics, so many steps; facts, defs, one Bool more -/
def asC (g : Addr → Option Obj) (n : Nat) : List Addr := cStatics :: He.asD g n
abbrev AlC : Type := He.AlD × Bool
def obsC (n : Nat) (fa : List He.Fa) (fn : List He.DefD) (ex : PySem.W.Frag → Bool) (g : Addr → Option Obj) : AlC := (He.obsD fa fn (He.frG g (asC g n)), ex (He.frG g (asC g n)))
def valC (fn : List He.DefD) : AlC := (He.valD fn, true)
structure SaysC (fa : List He.Fa) (fn : List He.DefD) (ex : PySem.W.Frag → Bool) (K : PySem.W.Frag) : Prop where
  d : He.SaysD fa fn K
  more : ex K = true
theorem saysC_of {fa : List He.Fa} {fn : List He.DefD} {ex : PySem.W.Frag → Bool} {n : Nat} {g : Addr → Option Obj} (e : obsC n fa fn ex g = valC fn) : SaysC fa fn ex (He.frG g (asC g n)) :=
  ⟨congrArg (fun z : AlC => z.1) e, congrArg (fun z : AlC => z.2) e⟩
def hookC (n : Nat) (fa : List He.Fa) (fn : List He.DefD) (ex : PySem.W.Frag → Bool) : PySem.W.Hook where
  α := AlC
  obs := fun s => obsC n fa fn ex s.heap.get?
  val := fun _ => valC fn
  says := fun _ h => ∃ K : PySem.W.Frag, K.In h ∧ SaysC fa fn ex K
  of := fun _ _ e => ⟨_, He.frG_in, saysC_of e⟩
  keeps := fun _ _ _ ⟨K, hK, c⟩ k => ⟨K, PySem.W.Frag.In.keeps hK k, c⟩
theorem obsC_eq {n : Nat} {fa : List He.Fa} {fn : List He.DefD} {ex : PySem.W.Frag → Bool} {g : Addr → Option Obj} {s : Shared} (h : ∀ a, g a = s.heap.get? a) : obsC n fa fn ex g = (hookC n fa fn ex).obs s := by
  have e : g = s.heap.get? := funext h
  rw [e] <;> rfl
theorem SaysC.fact {fa : List He.Fa} {fn : List He.DefD} {ex : PySem.W.Frag → Bool} {K : PySem.W.Frag} (c : SaysC fa fn ex K) {f : He.Fa} (h : f ∈ fa) : f.ok K = true := by
  obtain ⟨i, hi, e⟩ := List.mem_iff_getElem.mp h
  exact c.d.fact i (f := f) (by rw [List.getElem?_eq_getElem hi, e])
theorem SaysC.def_ {fa : List He.Fa} {fn : List He.DefD} {ex : PySem.W.Frag → Bool} {K : PySem.W.Frag} (c : SaysC fa fn ex K) {d : He.DefD} (h : d ∈ fn) : ∃ fd, FunD K d.name d.qual d.params d.body d.scope (d.dvs K) (d.kws K) (He.fAd K d.at_) fd := by
  obtain ⟨i, hi, e⟩ := List.mem_iff_getElem.mp h
  exact c.d.def_ i (d := d) (by rw [List.getElem?_eq_getElem hi, e])
end Wc

set_option Elab.async false
set_option linter.all false
set_option maxRecDepth 100000
set_option maxHeartbeats 4000000
/-! own exceptions held as values: making, reading, isinstance, str -/
namespace Wc
open PySem PySem.Spec PyProof.Rows L2
section
variable {X : Cx} {o e : Expr} {es : List Expr} {to te : TE} {ta : TA} {f : Str} {p p' p1 p2 pos : Pos}
/-- W.__init__(self, ..), W an own class over ValueError -/
theorem pe_winit {x : Str} {W : Addr} {pl : Sem Bool} (hg : Gl X x) (hm : X.mg x = some (.ref W)) (B : BaseIn X.K W) (ha : PA X (e :: es) ta) (hdb : (x == ("__debug__" : Str)) = false := by decide)
    (hc : eval (.Call (.Attribute (.Name x p1) "__init__" p2) (e :: es) [] pos) X.env = (do
      let ov ← eval (.Name x p1) X.env
      standAt p2.atName
      let (f, first) ← holding [ov] (getMethod ov "__init__" pl)
      callWith pos f first (backTo pos (starEach (e :: es) X.env)) (backToKw pos (keywordEach [] X.env))) := by rfl)
    (he : starEach (e :: es) X.env = (false, eval e X.env) :: starEach es X.env := by rfl) (hpl : (backTo pos (starEach es X.env)).any (·.1) = false := by rfl) :
    PE X (.Call (.Attribute (.Name x p1) "__init__" p2) (e :: es) [] pos) (tVeI X.K ta) := by
  refine ⟨fun pins s σ H Q I h => ?_⟩
  refine PySem.W.methodCall_KW (ld_glob I hg hm ?_ hdb) hc
  refine PySem.W.method_cls I.kIn B.sp ?_
  refine PySem.W.cls_value I.kIn B.rd B.at_ (by rfl) ?_
  show wpAny _ _ (callWith pos (Value.builtin "ValueError.__init__") [] (backTo pos (starEach (e :: es) X.env)) []) _ _ _
  refine PyProof.Rows.callWith_method1 (thn (ha.run pos pins _ σ H _ (I.tok _) h) fun us s1 ⟨vs, H1, I1, r1, a, C, ws, ev, hl, T, ea, q⟩ => ?_) he hpl
  subst ev
  cases r1 with
  | @cons _ u0 _ ur ra rw' =>
    obtain rfl : u0 = Value.ref a := ra
    have hlen : ur.length ≤ sizeLine := by
      rw [← Paired.length rw', sizeLine_eq]
      omega
    exact oinit_ok T I1 ea hlen fun s' J => ⟨.non, H1, J, rfl, q⟩
/-- C(e, ..) as a value, C's own __init__ keeping sp -/
def tMkV (C : Addr) (sp : Sp) (ta : TA) : TE := fun σ H Q => ta σ H fun vs H1 => vs.length ≤ 1000 ∧ ∀ a, H1 a = none → sp (.ref a :: vs) (upd H1 a (exo a C none)) (fun v H2 => v = .non ∧ Q (.ref a) H2) E0
theorem pe_mkv {CX : CXT} {x : Str} {C fI : Addr} {k : Nat} {fd : FuncData} {ps : List Str} {sp : Sp} (T : OexC X.K C) (J : ExIn X.K C fI)
    (F1 : FnOk X.prog X.w X.K X.mg X.base CX k fI fd ps sp) (hr : Room (k + 1) X.A) (hb : Binds X.K fd ps []) (hx : Passes CX X E0) (hg : Gl X x) (hm : X.mg x = some (.ref C)) (ha : PA X (e :: es) ta)
    (hdb : (x == ("__debug__" : Str)) = false := by decide) (he : starEach (e :: es) X.env = (false, eval e X.env) :: starEach es X.env := by rfl) (hpl : (backTo pos (starEach es X.env)).any (·.1) = false := by rfl) :
    PE X (.Call (.Name x p) (e :: es) [] pos) (tMkV C sp ta) := by
  refine ⟨fun pins s σ H Q I h => ?_⟩
  obtain ⟨nm, q, N, bs, bm, sn, sub, ab, col, dd, k0, k1, k2, k3, k5, hC, hbm⟩ := T.cls
  refine wpAny_Call_Name_kw (ld_glob I hg hm ?_ hdb)
  refine PySem.W.callWith_K (h₀ := X.base) I.ok.mod.kin T.kC (thn (ha.run pos pins s σ H _ I h) fun us s1 ⟨vs, H1, I1, r1, hz, q1⟩ => ⟨I1.kIn, ?_⟩) he hpl
  show wpAny _ _ (call (.ref C) us) _ _ _
  obtain ⟨hp, g, dr, tk, os⟩ := s1
  have hsz : hp.objs.size ≤ hp.objs.size + 1 := Nat.le_succ _
  have hn : H1 (hp.objs.size + 1) = none := I1.hok.fresh hsz
  have hq := q1 (hp.objs.size + 1) hn
  have kk : ∀ b o, hp.get? b = some o → ((hp.push (PySem.W.kdv_tup us)).push (PySem.HandSPX.excO C hp.objs.size)).get? b = some o := fun b o e => Heap.get?_push_of_some _ (Heap.get?_push_of_some _ e)
  have hget : ((hp.push (PySem.W.kdv_tup us)).push (PySem.HandSPX.excO C hp.objs.size)).get? (hp.objs.size + 1) = some (PySem.HandSPX.excO C hp.objs.size) := by heap_get
  have I2 : Inv X pins σ (upd H1 (hp.objs.size + 1) (exo (hp.objs.size + 1) C none)) ⟨(hp.push (PySem.W.kdv_tup us)).push (PySem.HandSPX.excO C hp.objs.size), g, dr, tk, os⟩ :=
    I1.laid (t' := tk) (a := hp.objs.size + 1) (o := exo (hp.objs.size + 1) C none) (h' := (hp.push (PySem.W.kdv_tup us)).push (PySem.HandSPX.excO C hp.objs.size)) kk hsz (exo_ok hget)
  have r2 : Vals (V.ref (hp.objs.size + 1) :: vs) (Value.ref (hp.objs.size + 1) :: us) := .cons rfl r1
  have hl : (Value.ref (hp.objs.size + 1) :: us).length = ps.length := by
    have e := r2.length
    rw [F1.len _ _ _ _ hq] at e
    exact e.symm
  have hus : us.length ≤ sizeLine := by
    rw [← Paired.length r1, sizeLine_eq]
    omega
  have b := hb _ (Value.ref (hp.objs.size + 1) :: us) I2.kIn (by rw [List.append_nil]; exact hl)
  rw [List.append_nil] at b
  refine wpAny_call (PySem.HandSPX.call_own F.excBase_ValueError (fun Y => PySem.HandSPX.refsVE_contains Y bm hbm) (I1.kIn _ _ hC) (PySem.W.looks_findIn I1.kIn J.at_) (fun self => PySem.W.bind_fn I1.kIn self J.ty) hus
    (codeAny_mono (F1.run _ X.stack _ _ ⟨Value.ref (hp.objs.size + 1) :: us, []⟩ (Value.ref (hp.objs.size + 1) :: us) _ _ E0 (hr.make C us []) (I2.env0.make C us []) b r2 hq) fun r s' hq' => ?_))
  cases r with
  | error er => exact hx pins σ _ _ er s' I2 hq'
  | ok fl =>
    cases fl with
    | ret u =>
      obtain ⟨v, H2, I3, rv, ev, q2⟩ := I2.after hq'
      subst ev
      exact ⟨rv, .ref (hp.objs.size + 1), H2, I3, rfl, q2⟩
    | next => exact False.elim hq'
    | brk => exact False.elim hq'
    | cont => exact False.elim hq'
/-- e.f, e an exception with a dict of its own -/
def tXfld (K : PySem.W.Frag) (te : TE) (f : Str) : TE := fun σ H Q => te σ H fun x H1 => ∃ (a C d : Addr) (fs : List (Str × V)) (v : V), x = .ref a ∧ H1 a = some (exo a C (some d)) ∧ H1 d = some (exd d fs) ∧ ExRd K C ∧ OexC K C ∧ NoAttr K C f ∧ fs.lookup f = some v ∧ Q v H1
theorem pe_xfld (he : PE X e te) (hb : attributeBase e f X.env (eval e X.env) = eval e X.env) : PE X (.Attribute e f pos) (tXfld X.K te f) := by
  refine ⟨fun pins s σ H Q I h => ?_⟩
  refine attr_of hb (thn (he.run pins s σ H _ I h) fun u s1 hh => ?_)
  obtain ⟨x, H1, I1, rx, a, C, d, fs, v, ex, ea, ed, R, T, n, l, q⟩ := hh
  subst ex
  obtain rfl : u = Value.ref a := rx
  obtain ⟨t1, ho⟩ := exo_at I1.hok ea
  obtain ⟨mA, hns, rel⟩ := exd_at I1.hok ed
  obtain ⟨od, hod, hl⟩ := lookIn_ns hns
  obtain ⟨u, hu, ru⟩ := RelO.some_of (v := v) (o := mA f) (by rw [← l]; exact rel f)
  have J : PySem.W.InstAt s1.heap a _ C (some od) := ⟨ho, rfl, rfl, hod⟩
  exact PySem.HandSPX.exc_get I1.kIn J R.ga R.gg T.exC (PySem.W.findObj_own R.hd n rfl (by rw [hl, hu])) (handed_of ru) ⟨v, H1, I1.tok _, ru, q⟩
/-- an exception made with arguments (the tuple at t), no dict -/
def exo1 (e C t : Addr) : HO := .ext fun h => h.get? e = some ({ cls := .ref C, dict := none, data := .fields #[.ref t, .none, .none, .none, .bool false, .none] } : Obj)
theorem exo1_ok {P : Program} {w : World} {H : Hp} {h : Heap} {e C t : Addr} (he : h.get? e = some ({ cls := .ref C, dict := none, data := .fields #[.ref t, .none, .none, .none, .bool false, .none] } : Obj)) : ObjOk P w H h e (exo1 e C t) :=
  ⟨he, ⟨_, he⟩, fun h1 h2 z k => k _ z⟩
theorem exo1_at {P : Program} {w : World} {H : Hp} {h : Heap} {e C t : Addr} (hok : HOk P w H h) (he : H e = some (exo1 e C t)) : h.get? e = some ({ cls := .ref C, dict := none, data := .fields #[.ref t, .none, .none, .none, .bool false, .none] } : Obj) := by
  have x : ObjOk P w H h e (.ext _) := hok e _ he
  exact x.1
/-- an exception of the class at C stands at a -/
def ExAt (H : Hp) (a C : Addr) : Prop := (∃ d fs, H a = some (exo a C (some d)) ∧ H d = some (exd d fs)) ∨ ∃ t, H a = some (exo1 a C t)
theorem ExAt.inst {P : Program} {w : World} {H : Hp} {h : Heap} {a C : Addr} (x : ExAt H a C) (hok : HOk P w H h) : ∃ ox od, PySem.W.InstAt h a ox C od := by
  rcases x with ⟨d, fs, ea, ed⟩ | ⟨t, ea⟩
  · obtain ⟨t1, ho⟩ := exo_at hok ea
    obtain ⟨mA, hns, rel⟩ := exd_at hok ed
    obtain ⟨od, hod, hl⟩ := lookIn_ns hns
    exact ⟨_, some od, ho, rfl, rfl, hod⟩
  · exact ⟨_, none, exo1_at hok ea, rfl, rfl, trivial⟩
/-- isinstance(e, c), e such an exception -/
def rIsiE (K : PySem.W.Frag) : List V → Hp → VK → Prop := fun xs H Q => ∃ (a C : Addr) (c : V) (u : Value) (b : Bool), xs = [.ref a, c] ∧ ClsV c u ∧ ExAt H a C ∧ ExIs K C ∧ ExRd K C ∧ PySem.W.subIn K (.ref C) (.type "BaseException") = some true ∧ PySem.W.kitOne K (.ref C) u = some b ∧ Q (.bl b) H
theorem call_isiE : CallR X (.builtin "isinstance") (rIsiE X.K) := by
  intro pins s σ H xs us Q I r h
  obtain ⟨a, C, c, u, b, rfl, k, ex, S, R, sb, e, q⟩ := h
  obtain ⟨u1, u2, rfl, r1, r2⟩ := vals2 r
  obtain rfl : u1 = Value.ref a := r1
  have e2 := k.eq r2
  subst e2
  obtain ⟨ox, od, J⟩ := ex.inst I.hok
  exact PySem.W.kia_one (PySem.W.kitx_exc (x := a) (ox := ox) (od := od) S.cl R.ga R.gg sb S.at_ S.sp S.tk S.ob) I.kIn J e (by intro z; cases z) fun tk => ⟨.bl b, H, I.tok tk, rfl, q⟩
/-- X(e), an own exception class without own __init__, as a value: a new exception object and its tuple of arguments -/
theorem pe_exc1t {C : Addr} {bmB : List Value} {B newId initId : String} {x : Str} {p pos : Pos} (F : ExcBaseFacts B newId initId bmB) (q : PySem.W.excIn X.K C bmB newId = true) (gC : X.mg x = some (.ref C)) (kC : PySem.W.keepIn X.K (.ref C) = true) (hg : Gl X x)
    (he : PE X e te) (hs : starEach [e] X.env = (false, eval e X.env) :: starEach [] X.env := by rfl) (hdb : (x == ("__debug__" : Str)) = false := by decide) :
    PE X (.Call (.Name x p) [e] [] pos) (fun σ H Q => te σ H fun v H1 => ∀ a t, H1 a = none → H1 t = none → a ≠ t → Q (.ref a) (upd (upd H1 t (.tup [v])) a (exo1 a C t))) := by
  refine ⟨fun pins s σ H Q I h => ?_⟩
  refine wpAny_Call_Name_kw (ld_glob I hg gC ?_ hdb)
  refine PySem.W.callWith_K (h₀ := X.base) I.ok.mod.kin kC ?_ hs (by rfl)
  rw [hs]
  show wpAny _ _ (spliced ((false, eval e X.env) :: backTo pos (starEach [] X.env))) _ _ s
  refine Calls.spliced_cons (thn (he.run pins s σ H _ I h) fun u s1 ⟨v, H1, I1, r1, q1⟩ => ?_)
  refine Calls.spliced_nil ⟨I1.kIn, ?_⟩
  show wpAny _ _ (call (.ref C) [u]) _ _ _
  obtain ⟨bm, N, nm, qn, bs, hdct, sn, sub, ab, col, dd, k0, k1, k2, k3, k5, mN, hC, hN, hni, T⟩ := exc_obj I1.kIn q
  refine wpAny_call_exc_subT F T hC hN hni (fun h' a hm => ?_) (by show 1 ≤ sizeLine; rw [sizeLine_eq]; omega)
  obtain ⟨t, ht, ht0, htup⟩ := hm.there
  have hna : H1 a = none := I1.hok.gone hm.new
  have hnt : H1 t = none := I1.hok.gone ht0
  have hne : t ≠ a := fun z => by
    rw [z, ht] at htup
    cases htup
  obtain ⟨G, g1, g2⟩ := restrict h' fun b => decide (b ≠ a)
  have gk : ∀ b, b ≠ a → G.get? b = h'.get? b := fun b hb => g1 b (decide_eq_true hb)
  have ge : G.get? a = none := g2 a (by simp)
  have gs : ∀ b o, G.get? b = some o → h'.get? b = some o := fun b o e => by
    by_cases hb : b = a
    · rw [hb, ge] at e
      cases e
    · rw [← gk b hb]
      exact e
  have k1 : ∀ b o, s1.heap.get? b = some o → G.get? b = some o := fun b o e => by
    have hb : b ≠ a := fun z => by
      have z2 := hm.new
      rw [← z] at z2
      have e' : s1.heap.get? b = some o := e
      have z3 : s1.heap.get? b = none := z2
      rw [z3] at e'
      cases e'
    rw [gk b hb]
    exact hm.keeps b o e
  have ob1 : ObjOk X.prog X.w (upd H1 t (.tup [v])) G t (.tup [v]) := ⟨by show 1 ≤ sizeLine; rw [sizeLine_eq]; omega, [u], .cons r1 .nil, _, (gk t hne).trans htup, rfl, _, rfl⟩
  have J1 : Inv X pins σ (upd H1 t (.tup [v])) { s1 with heap := G } := I1.laidN (t' := s1.toks) k1 ht0 hnt ob1
  have hna2 : upd H1 t (.tup [v]) a = none := by
    rw [upd_ne (Ne.symm hne)]
    exact hna
  have J2 : Inv X pins σ (upd (upd H1 t (.tup [v])) a (exo1 a C t)) { s1 with heap := h' } := J1.laidN (t' := s1.toks) gs ge hna2 (exo1_ok ht)
  exact ⟨.ref a, _, J2, rfl, q1 a t hna hnt (Ne.symm hne)⟩
/-- str(e), e made with one text -/
theorem call_str_exc (hu : X.A.units + 2 < cLine) : CallR X (.type "str") (fun xs H Q => ∃ (a C t : Addr) (m : Str), xs = [.ref a] ∧ H a = some (exo1 a C t) ∧ H t = some (.tup [.str m]) ∧ PySem.W.findIn X.K (.ref C) "__str__" = some (some (.builtin "BaseException.__str__")) ∧
    PySem.W.subIn X.K (.ref C) (.type "BaseException") = some true ∧ Q (.str m) H) := by
  intro pins s σ H xs us Q I r h
  obtain ⟨a, C, t, m, rfl, ea, et, fs, sb, q⟩ := h
  obtain ⟨u1, rfl, r1⟩ := vals1 r
  obtain rfl : u1 = Value.ref a := r1
  have ho := exo1_at I.hok ea
  obtain ⟨_, its, rv, o, h1, h2, n, h3⟩ := (show ObjOk X.prog X.w H s.heap t (.tup [.str m]) from I.hok t _ et)
  cases rv with
  | cons ra rn =>
    cases rn
    obtain ⟨tk, rfl⟩ := ra
    exact PySem.P.str_of_C_one hu ⟨I.kIn, _, _, ho, rfl, rfl, rfl⟩ ⟨o, n, h1, h2, by simpa using h3⟩ fs sb ⟨.str m, H, I, ⟨_, rfl⟩, q⟩
end
end Wc

set_option Elab.async false
set_option linter.all false
set_option maxRecDepth 100000
set_option maxHeartbeats 4000000
/-! steps through readings; what is known of the heap as a list -/
namespace Wc
open PySem PySem.Spec PyProof.Rows L2
abbrev Ext (H H' : Hp) : Prop := ∀ a o, H a = some o → H' a = some o
theorem Ext.refl (H : Hp) : Ext H H := fun _ _ h => h
theorem Ext.trans {H H1 H2 : Hp} (a : Ext H H1) (b : Ext H1 H2) : Ext H H2 := fun x o h => b x o (a x o h)
theorem Ext.new {H : Hp} {p : Addr} {o : HO} (h : H p = none) : Ext H (upd H p o) := fun a u e => by
  rw [upd_ne (ne_of_none e h)]
  exact e
theorem Ext.free {H H' : Hp} (e : Ext H H') {l : Addr} (h : H' l = none) : H l = none := by
  cases q : H l with
  | none => rfl
  | some o =>
    rw [e l o q] at h
    cases h
theorem Ext.l {K : PySem.W.Frag} {H H' : Hp} {a : Addr} {xs : List V} (e : Ext H H') (h : SqL K H a xs) : SqL K H' a xs := by
  rcases h with (h | ⟨o, h⟩) | h
  · exact .inl (.inl (e _ _ h))
  · exact .inl (.inr ⟨o, e _ _ h⟩)
  · exact .inr h
theorem Ext.t {K : PySem.W.Frag} {H H' : Hp} {a : Addr} {xs : List V} (e : Ext H H') (h : SqT K H a xs) : SqT K H' a xs := by
  rcases h with (h | ⟨o, h⟩) | h
  · exact .inl (.inl (e _ _ h))
  · exact .inl (.inr ⟨o, e _ _ h⟩)
  · exact .inr h
/-- the heap beside the addresses A is as it was -/
def Fr (A : List Addr) (H H' : Hp) : Prop := ∀ a o, a ∉ A → H a = some o → H' a = some o
theorem Ext.fr {H H' : Hp} {A : List Addr} (e : Ext H H') : Fr A H H' := fun a o _ h => e a o h
theorem Fr.trans {A : List Addr} {H H1 H2 : Hp} (a : Fr A H H1) (b : Fr A H1 H2) : Fr A H H2 := fun x o n h => b x o n (a x o n h)
theorem Fr.updE {A : List Addr} {H : Hp} {p : Addr} {o : HO} (h : p ∈ A) : Fr A H (upd H p o) := fun a u n e => by
  rw [upd_ne (fun z => n (by rw [z]; exact h))]
  exact e
theorem Fr.refl (A : List Addr) (H : Hp) : Fr A H H := fun _ _ _ h => h
theorem Fr.sql {K : PySem.W.Frag} {A : List Addr} {H H' : Hp} {a : Addr} {xs : List V} (e : Fr A H H') (n : a ∉ A) (h : SqL K H a xs) : SqL K H' a xs := by
  rcases h with (h | ⟨o, h⟩) | h
  · exact .inl (.inl (e _ _ n h))
  · exact .inl (.inr ⟨o, e _ _ n h⟩)
  · exact .inr h
theorem Fr.mono {A B : List Addr} {H H' : Hp} (e : Fr A H H') (h : ∀ a, a ∈ A → a ∈ B) : Fr B H H' := fun a o n x => e a o (fun z => n (h a z)) x
/-- what is known: these addresses, no two alike, hold these; what H0 held stands but at M -/
structure KH (H0 : Hp) (M : List Addr) (L : List (Addr × HO)) (H : Hp) : Prop where
  at_ : ∀ (j : Nat) (p : Addr) (o : HO), L[j]? = some (p, o) → H p = some o
  nd : (L.map (·.1)).Nodup
  fr : Fr M H0 H
  md : ∀ a, a ∈ M → ∃ o, H a = some o
section
variable {H0 H H' : Hp} {M : List Addr} {L : List (Addr × HO)} {p : Addr} {o o' : HO}
theorem KH.start : KH H [] [] H := ⟨fun j p o h => by simp at h, List.nodup_nil, Fr.refl _ _, fun a h => by simp at h⟩
theorem KH.start1 (h : H p = some o) : KH H [p] [(p, o)] H := ⟨fun j q u e => by
    cases j with
    | zero =>
      simp at e
      obtain ⟨rfl, rfl⟩ := e
      exact h
    | succ j => simp at e, by simp, Fr.refl _ _, fun a q => by
    have e : a = p := by simpa using q
    exact ⟨o, by rw [e]; exact h⟩⟩
theorem KH.get (k : KH H0 M L H) (j : Nat) (h : L[j]? = some (p, o)) : H p = some o := k.at_ j p o h
theorem KH.mem (k : KH H0 M L H) (h : p ∈ L.map (·.1)) : ∃ o, H p = some o := by
  obtain ⟨q, hq, rfl⟩ := List.mem_map.mp h
  obtain ⟨j, hj⟩ := List.getElem?_of_mem hq
  exact ⟨q.2, k.at_ j q.1 q.2 hj⟩
theorem KH.ext (k : KH H0 M L H) (e : Ext H H') : KH H0 M L H' := ⟨fun j p o h => e p o (k.at_ j p o h), k.nd, k.fr.trans e.fr, fun a h => by
  obtain ⟨o, z⟩ := k.md a h
  exact ⟨o, e _ _ z⟩⟩
theorem KH.fresh (k : KH H0 M L H) (h : H p = none) : H0 p = none := by
  cases q : H0 p with
  | none => rfl
  | some o =>
    have n : p ∉ M := fun z => by
      obtain ⟨u, e⟩ := k.md p z
      rw [h] at e
      cases e
    have z := k.fr p o n q
    rw [h] at z
    cases z
theorem KH.cons (k : KH H0 M L H) (h : H p = some o) (n : p ∉ L.map (·.1)) : KH H0 M ((p, o) :: L) H := by
  refine ⟨fun j q u e => ?_, ?_, k.fr, k.md⟩
  · cases j with
    | zero =>
      simp at e
      obtain ⟨rfl, rfl⟩ := e
      exact h
    | succ j =>
      simp at e
      exact k.at_ j q u e
  · rw [List.map_cons, List.nodup_cons]
    exact ⟨n, k.nd⟩
theorem KH.new (k : KH H0 M L H) (h : H p = none) : KH H0 M ((p, o) :: L) (upd H p o) := by
  refine (k.ext (Ext.new h)).cons upd_same fun m => ?_
  obtain ⟨o', z⟩ := k.mem m
  rw [h] at z
  cases z
theorem KH.tail {q : Addr × HO} (k : KH H0 M (q :: L) H) : KH H0 M L H :=
  ⟨fun j q u e => k.at_ (j + 1) q u (by simpa using e), by have z := k.nd; rw [List.map_cons, List.nodup_cons] at z; exact z.2, k.fr, k.md⟩
theorem KH.forget (k : KH H0 M L H) : KH H0 M [] H := ⟨fun j p o h => by simp at h, List.nodup_nil, k.fr, k.md⟩
theorem KH.take (k : KH H0 M L H) (n : Nat) : KH H0 M (L.take n) H := by
  refine ⟨fun j q u e => k.at_ j q u ?_, ?_, k.fr, k.md⟩
  · rw [List.getElem?_take] at e
    split at e
    · exact e
    · cases e
  · rw [List.map_take]
    exact List.Nodup.sublist (List.take_sublist _ _) k.nd
theorem KH.consN (k : KH H0 M L H) (e : Ext H H') (n : H p = none) (h : H' p = some o) : KH H0 M ((p, o) :: L) H' := (k.ext e).cons h fun m => by
  obtain ⟨u, z⟩ := k.mem m
  rw [n] at z
  cases z
theorem KH.rebaseM (k : KH H0 M L H) (M' : List Addr) (h : ∀ a, a ∈ M' → ∃ o, H a = some o) : KH H M' L H := ⟨k.at_, k.nd, Fr.refl _ _, h⟩
theorem KH.rebase1 (k : KH H0 M L H) {q : Addr} {u : HO} (h : H q = some u) : KH H [q] L H := ⟨k.at_, k.nd, Fr.refl _ _, fun a z => by
  have e : a = q := by simpa using z
  exact ⟨u, by rw [e]; exact h⟩⟩
theorem KH.rebase (k : KH H0 M L H) : KH H [] L H := ⟨k.at_, k.nd, Fr.refl _ _, fun a h => by simp at h⟩
theorem KH.ne (k : KH H0 M L H) (i j : Nat) {p q : Addr} {o u : HO} (hi : L[i]? = some (p, o)) (hj : L[j]? = some (q, u)) (hn : i ≠ j) : p ≠ q := fun e => by
  have h1 : (L.map (·.1))[i]? = some p := by rw [List.getElem?_map, hi] <;> rfl
  have h2 : (L.map (·.1))[j]? = some q := by rw [List.getElem?_map, hj] <;> rfl
  rw [← e] at h2
  exact hn (nd_ix k.nd h1 h2)
theorem map_set_fst {j : Nat} (hj : L[j]? = some (p, o)) : (L.set j (p, o')).map (·.1) = L.map (·.1) := by
  apply List.ext_getElem?
  intro i
  rw [List.getElem?_map, List.getElem?_map, List.getElem?_set]
  by_cases e : j = i
  · subst e
    rw [if_pos rfl]
    obtain ⟨hlt, _⟩ := List.getElem?_eq_some_iff.mp hj
    rw [if_pos hlt, hj]
    rfl
  · rw [if_neg e]
/-- behind a change of one known address (one of M, or a new one) -/
theorem KH.setE (k : KH H0 M L H) (j : Nat) (hj : L[j]? = some (p, o)) (f : Fr [p] H H') (h : H' p = some o') (hm : p ∈ M ∨ H0 p = none) : KH H0 M (L.set j (p, o')) H' := by
  refine ⟨fun i q u e => ?_, by rw [map_set_fst hj]; exact k.nd, fun a u n z => ?_, fun a ha => ?_⟩
  · rw [List.getElem?_set] at e
    by_cases c : j = i
    · subst c
      obtain ⟨hlt, _⟩ := List.getElem?_eq_some_iff.mp hj
      rw [if_pos rfl, if_pos hlt] at e
      have e2 := Option.some.inj e
      injection e2 with e3 e4
      subst e3 e4
      exact h
    · rw [if_neg c] at e
      have ne := k.ne i j e hj (fun z => c z.symm)
      exact f q u (by simpa using ne) (k.at_ i q u e)
  · have ne : a ≠ p := fun q => by
      rcases hm with m | m
      · exact n (by rw [q]; exact m)
      · rw [q, m] at z
        cases z
    exact f a u (by simpa using ne) (k.fr a u n z)
  · by_cases c : a = p
    · exact ⟨o', by rw [c]; exact h⟩
    · obtain ⟨u, z⟩ := k.md a ha
      exact ⟨u, f a u (by simpa using c) z⟩
theorem KH.set (k : KH H0 M L H) (j : Nat) (hj : L[j]? = some (p, o)) (hm : p ∈ M ∨ H0 p = none) : KH H0 M (L.set j (p, o')) (upd H p o') := k.setE j hj (Fr.updE (by simp)) upd_same hm
end
/-- where it stands, found step by step -/
inductive Look : List (Addr × HO) → Addr → HO → Prop where
  | here {L : List (Addr × HO)} {p : Addr} {o : HO} : Look ((p, o) :: L) p o
  | there {q : Addr × HO} {L : List (Addr × HO)} {p : Addr} {o : HO} (h : Look L p o) : Look (q :: L) p o
theorem Look.ix {L : List (Addr × HO)} {p : Addr} {o : HO} (l : Look L p o) : ∃ j : Nat, L[j]? = some (p, o) := by
  induction l with
  | here => exact ⟨0, rfl⟩
  | there _ ih =>
    obtain ⟨j, e⟩ := ih
    exact ⟨j + 1, by simpa using e⟩
theorem KH.find {H0 H : Hp} {M : List Addr} {L : List (Addr × HO)} {p : Addr} {o : HO} (k : KH H0 M L H) (l : Look L p o) : H p = some o := by
  obtain ⟨j, e⟩ := l.ix
  exact k.get j e
inductive UpL : List (Addr × HO) → Addr → HO → HO → List (Addr × HO) → Prop where
  | here {L : List (Addr × HO)} {p : Addr} {o o' : HO} : UpL ((p, o) :: L) p o o' ((p, o') :: L)
  | there {q : Addr × HO} {L L' : List (Addr × HO)} {p : Addr} {o o' : HO} (h : UpL L p o o' L') : UpL (q :: L) p o o' (q :: L')
theorem UpL.ix {L L' : List (Addr × HO)} {p : Addr} {o o' : HO} (l : UpL L p o o' L') : ∃ j : Nat, L[j]? = some (p, o) ∧ L' = L.set j (p, o') := by
  induction l with
  | here => exact ⟨0, rfl, rfl⟩
  | there _ ih =>
    obtain ⟨j, e, e2⟩ := ih
    exact ⟨j + 1, by simpa using e, by rw [e2] <;> rfl⟩
theorem KH.up {H0 H H' : Hp} {M : List Addr} {L L' : List (Addr × HO)} {p : Addr} {o o' : HO} (k : KH H0 M L H) (l : UpL L p o o' L') (f : Fr [p] H H') (h : H' p = some o') (hm : p ∈ M ∨ H0 p = none) : KH H0 M L' H' := by
  obtain ⟨j, e, e2⟩ := l.ix
  rw [e2]
  exact k.setE j e f h hm
inductive SetAt : List (Option V) → Nat → V → List (Option V) → Prop where
  | here {x : Option V} {l : List (Option V)} {v : V} : SetAt (x :: l) 0 v (some v :: l)
  | there {x : Option V} {l l' : List (Option V)} {i : Nat} {v : V} (h : SetAt l i v l') : SetAt (x :: l) (i + 1) v (x :: l')
theorem SetAt.eq {l l' : List (Option V)} {i : Nat} {v : V} (h : SetAt l i v l') : l.set i (some v) = l' := by
  induction h with
  | here => rfl
  | there _ ih => rw [List.set_cons_succ, ih]
inductive GetAt : List (Option V) → Nat → V → Prop where
  | here {l : List (Option V)} {v : V} : GetAt (some v :: l) 0 v
  | there {x : Option V} {l : List (Option V)} {i : Nat} {v : V} (h : GetAt l i v) : GetAt (x :: l) (i + 1) v
theorem GetAt.eq {l : List (Option V)} {i : Nat} {v : V} (h : GetAt l i v) : l[i]? = some (some v) := by
  induction h with
  | here => rfl
  | there _ ih => simpa using ih
/-- a new object o is laid and handed on; an object of ours becomes o -/
def AllocO (o : HO) (Q : VK) (H : Hp) : Prop := ∀ p, H p = none → Q (.ref p) (upd H p o)
def UpdO (p : Addr) (o : HO) (R : Hp → Prop) (H : Hp) : Prop := R (upd H p o)
theorem AllocO.mk {o : HO} {Q : VK} {H0 H : Hp} {M : List Addr} {L : List (Addr × HO)} (k : KH H0 M L H) (h : ∀ p H', H0 p = none → KH H0 M ((p, o) :: L) H' → Q (.ref p) H') : AllocO o Q H := fun p hp => h p _ (k.fresh hp) (k.new hp)
theorem UpdO.mk {o o' : HO} {p : Addr} {R : Hp → Prop} {H0 H : Hp} {M : List Addr} {L L' : List (Addr × HO)} (k : KH H0 M L H) (hj : UpL L p o o' L') (hm : p ∈ M ∨ H0 p = none) (h : ∀ H', KH H0 M L' H' → R H') : UpdO p o' R H := h _ (k.up hj (Fr.updE (by simp)) upd_same hm)
theorem sz_of {n : Nat} (h : n ≤ 100000) : n ≤ sizeLine := Nat.le_trans h (by decide)
theorem sz_lt {n : Nat} (h : n < 100000) : n < sizeLine := Nat.lt_of_lt_of_le h (by decide)
section
variable {D : Ends} {σ : L2.St} {H : Hp} {Q : VK} {K : PySem.W.Frag}
theorem r_iteT {c : Bool} {A B : Prop} (hc : c = true) (h : A) : if c = true then A else B := by
  rw [if_pos hc]
  exact h
theorem r_iteF {c : Bool} {A B : Prop} (hc : c = false) (h : B) : if c = true then A else B := by
  rw [hc, if_neg Bool.false_ne_true]
  exact h
theorem r_seq {t u : TS} (h : t { D with nx := u D } σ H) : tSeq t u D σ H := h
theorem r_next (h : D.nx σ H) : tNext D σ H := h
theorem r_asg {te : TE} {g : TG} (h : te σ H fun x H1 => g x σ H1 D.nx) : tAsg te g D σ H := h
theorem r_drop {te : TE} (h : te σ H fun _ H1 => D.nx σ H1) : tDrop te D σ H := h
theorem r_ret {te : TE} (h : te σ H D.rt) : tRet te D σ H := h
theorem r_retN (h : D.rt .non H) : tRetN D σ H := h
theorem r_ifs {c : TT} {t u : TS} (h : c σ H fun b H1 => if b = true then t D σ H1 else u D σ H1) : tIfS c t u D σ H := h
theorem r_cont (h : D.ct σ H) : tCont D σ H := h
theorem r_break (h : D.bk σ H) : tBreak D σ H := h
theorem r_var {i : Nat} {v : V} (h : GetAt σ i v) (q : Q v H) : tVar i σ H Q := ⟨v, h.eq, q⟩
theorem r_c {v : V} (q : Q v H) : tC v σ H Q := q
theorem r_op {r : R2} {ta tb : TE} (h : ta σ H fun x H1 => tb σ H1 fun y H2 => r x y H2 Q) : tOp r ta tb σ H Q := h
theorem r_un {r : V → Hp → VK → Prop} {ta : TE} (h : ta σ H fun x H1 => r x H1 Q) : tUn r ta σ H Q := h
theorem r_test {te : TE} {R : Bool → Hp → Prop} (h : te σ H fun x H' => ∃ k, x = .bl k ∧ R k H') : tTest te σ H R := h
theorem r_tB {te : TE} {R : Bool → Hp → Prop} (h : te σ H fun x H' => ∃ k, x = .bl k ∧ R k H') : tB te σ H R := h
theorem r_not {t : TT} {R : Bool → Hp → Prop} (h : t σ H fun c H1 => R (!c) H1) : tNot t σ H R := h
theorem r_and {t u : TT} {R : Bool → Hp → Prop} (h : t σ H fun c H1 => if c = true then u σ H1 R else R false H1) : tAnd t u σ H R := h
theorem r_or {t u : TT} {R : Bool → Hp → Prop} (h : t σ H fun c H1 => if c = true then R true H1 else u σ H1 R) : tOr t u σ H R := h
theorem r_notV {ta : TE} (h : ta σ H fun x H1 => ∃ c, x = .bl c ∧ Q (.bl (!c)) H1) : tNotV ta σ H Q := h
theorem r_andV {ta tb : TE} (h : ta σ H fun x H1 => ∃ c, x = .bl c ∧ if c = true then tb σ H1 Q else Q (.bl false) H1) : tAndV ta tb σ H Q := h
theorem r_orV {ta tb : TE} (h : ta σ H fun x H1 => ∃ c, x = .bl c ∧ if c = true then Q (.bl true) H1 else tb σ H1 Q) : tOrV ta tb σ H Q := h
theorem r_ifE {t : TT} {ta tb : TE} (h : t σ H fun c H1 => if c = true then ta σ H1 Q else tb σ H1 Q) : tIf t ta tb σ H Q := h
theorem r_bl {k : Bool} {R : Bool → Prop} (h : R k) : ∃ k', V.bl k = .bl k' ∧ R k' := ⟨k, rfl, h⟩
theorem r_nil {R : List V → Hp → Prop} (h : R [] H) : tNil σ H R := h
theorem r_cons {ta : TE} {tr : TA} {R : List V → Hp → Prop} (h : ta σ H fun x H1 => tr σ H1 fun xs H2 => R (x :: xs) H2) : tCons ta tr σ H R := h
theorem r_tup {ta : TA} (h : ta σ H fun xs H1 => xs.length ≤ sizeLine ∧ AllocO (.tup xs) Q H1) : tTup ta σ H Q := h
theorem r_lst {ta : TA} (h : ta σ H fun xs H1 => xs.length ≤ sizeLine ∧ AllocO (.lst xs) Q H1) : tLst ta σ H Q := h
theorem r_cb {r : List V → Hp → VK → Prop} {ta : TA} (h : ta σ H fun vs H1 => r vs H1 Q) : tCB r ta σ H Q := h
theorem r_call {sp : Sp} {dvs : List V} {E : XK} {ta : TA} (h : ta σ H fun vs H1 => sp (vs ++ dvs) H1 Q E) : tCall sp dvs E ta σ H Q := h
theorem r_name {i : Nat} {v : V} {σ' : L2.St} {R : L2.St → Hp → Prop} (hs : SetAt σ i v σ') (h : R σ' H) : gName i v σ H R := by
  show R (σ.set i (some v)) H
  rw [hs.eq]
  exact h
theorem r_gnil {R : L2.St → Hp → Prop} (h : R σ H) : gNil [] σ H R := ⟨rfl, h⟩
theorem r_gcons {t : TG} {u : TGs} {v : V} {r : List V} {R : L2.St → Hp → Prop} (h : t v σ H fun σ' H' => u r σ' H' R) : gCons t u (v :: r) σ H R := ⟨v, r, rfl, h⟩
theorem r_gtup {n : Nat} {t : TGs} {a : Addr} {xs : List V} {R : L2.St → Hp → Prop} (hx : SqT K H a xs) (hl : xs.length = n) (h : t xs σ H R) : gTup K n t (.ref a) σ H R := ⟨a, xs, rfl, hx, hl, h⟩
theorem r_gsub {to ti : TE} {t : TSet} {v : V} {R : L2.St → Hp → Prop} (h : to σ H fun o H1 => ti σ H1 fun i H2 => t o i v H2 fun H3 => R σ H3) : gSub to ti t v σ H R := h
theorem r_par {i j : Nat} {ta : TA} (h : ta σ H fun vs H1 => ∃ v w, vs = [v, w] ∧ D.nx ((σ.set i (some v)).set j (some w)) H1) : tPar i j ta D σ H := h
theorem r_par2 {i j : Nat} {v w : V} {R : V → V → Prop} (h : R v w) : ∃ v' w', [v, w] = [v', w'] ∧ R v' w' := ⟨v, w, rfl, h⟩
theorem r_aug {i : Nat} {te : TE} {ti : TIp} {x : V} (hx : GetAt σ i x) (h : te σ H fun y H1 => ti x y H1 fun z H2 => D.nx (σ.set i (some z)) H2) : tAug i te ti D σ H := ⟨x, hx.eq, h⟩
theorem r_I0 {g : Int → Int → V} {i j : Int} (h : Q (g i j) H) : rI0 g (.int i) (.int j) H Q := ⟨i, j, rfl, rfl, h⟩
theorem r_I {C : Int → Int → Prop} {g : Int → Int → V} {i j : Int} (hc : C i j) (h : Q (g i j) H) : rI C g (.int i) (.int j) H Q := ⟨i, j, rfl, rfl, hc, h⟩
theorem r_U {g : Int → V} {i : Int} (h : Q (g i) H) : rU g (.int i) H Q := ⟨i, rfl, h⟩
theorem r_eq {x y : V} (hs : scal x y = true) (h : Q (.bl (decide (x = y))) H) : rEq x y H Q := ⟨hs, h⟩
theorem r_ne {x y : V} (hs : scal x y = true) (h : Q (.bl (!decide (x = y))) H) : rNe x y H Q := ⟨hs, h⟩
theorem r_ixL {p : Addr} {xs : List V} {i : Int} {v : V} (h : SqL K H p xs) (ha : atI xs i = some v) (q : Q v H) : rIxL K (.ref p) (.int i) H Q := ⟨p, xs, i, v, rfl, rfl, h, ha, q⟩
theorem r_ixT {p : Addr} {xs : List V} {i : Int} {v : V} (h : SqT K H p xs) (ha : atI xs i = some v) (q : Q v H) : rIxT K (.ref p) (.int i) H Q := ⟨p, xs, i, v, rfl, rfl, h, ha, q⟩
theorem r_setL {p : Addr} {xs : List V} {i : Int} {j : Nat} {v : V} {R : Hp → Prop} (h : H p = some (.lst xs)) (hj : ixN xs.length i = some j) (q : UpdO p (.lst (xs.set j v)) R H) : rSetL (.ref p) (.int i) v H R := ⟨p, xs, i, j, rfl, rfl, h, hj, q⟩
theorem r_part {te : TE} {R : Option Int → Hp → Prop} (h : te σ H fun x H1 => ∃ i, x = .int i ∧ R (some i) H1) : tPart te σ H R := h
theorem r_nopart {R : Option Int → Hp → Prop} (h : R none H) : tNoPart σ H R := h
theorem r_ii {i : Int} {R : Int → Prop} (h : R i) : ∃ i', V.int i = .int i' ∧ R i' := ⟨i, rfl, h⟩
theorem r_sl {r : V → Option Int → Option Int → Hp → VK → Prop} {te : TE} {tl th : TO} (h : te σ H fun x H1 => tl σ H1 fun l H2 => th σ H2 fun u H3 => r x l u H3 Q) : tSl r te tl th σ H Q := h
theorem r_slL {a : Addr} {xs : List V} {lo hi : Option Int} (h : SqL K H a xs) (q : AllocO (.lst (cutV xs lo hi)) Q H) : rSlL K (.ref a) lo hi H Q := ⟨a, xs, rfl, h, q⟩
theorem r_cat {a b : Addr} {xs ys : List V} (h1 : H a = some (.lst xs)) (h2 : H b = some (.lst ys)) (hz : xs.length + ys.length ≤ sizeLine) (q : AllocO (.lst (xs ++ ys)) Q H) : rCat (.ref a) (.ref b) H Q := ⟨a, b, xs, ys, rfl, rfl, h1, h2, hz, q⟩
theorem r_bm {T : String} {r : V → List V → Hp → VK → Prop} {to : TE} {t : TA} (h : to σ H fun x H1 => tyV K T x H1 ∧ t σ H1 fun xs H2 => r x xs H2 Q) : tBM K T r to t σ H Q := h
theorem r_bm0 {T : String} {r : V → List V → Hp → VK → Prop} {to : TE} (h : to σ H fun x H1 => tyV K T x H1 ∧ r x [] H1 Q) : tBM0 K T r to σ H Q := h
theorem r_append {l : Addr} {xs : List V} {y : V} (h : H l = some (.lst xs)) (hz : xs.length < sizeLine) (q : UpdO l (.lst (xs ++ [y])) (Q .non) H) : rAppend (.ref l) [y] H Q := ⟨l, xs, y, rfl, rfl, h, hz, q⟩
theorem r_int1 {i : Int} {k : Prop} {R : Int → Prop} (h : R i) : (∃ i', [V.int i] = [.int i'] ∧ R i') ∨ k := .inl ⟨i, rfl, h⟩
theorem r_int1b {b : Bool} {k : Prop} {R : Bool → Prop} (h : R b) : k ∨ (∃ b', [V.bl b] = [.bl b'] ∧ R b') := .inr ⟨b, rfl, h⟩
end
/-! ### loops -/
theorem for_enum {K : PySem.W.Frag} {a : Addr} {xs : List V} {g : TG} {tb : TS} {D : Ends} {σ : L2.St} {H : Hp} (Pv : Nat → L2.St → Hp → Prop) (h0 : Pv 0 σ H) (hl : ∀ i σ H, i ≤ xs.length → Pv i σ H → SqL K H a xs)
    (hs : ∀ (i : Nat) x σ H, xs[i]? = some x → Pv i σ H → AllocO (.tup [.int (i : Int), x]) (fun v H' => g v σ H' fun σ2 H2 => tb { D with nx := Pv (i + 1), ct := Pv (i + 1), bk := D.nx } σ2 H2) H) (hd : ∀ σ H, Pv xs.length σ H → D.nx σ H) :
    ∃ W : Nat → Nat → L2.St → Hp → Prop, (∃ m, W 0 m σ H) ∧ ∀ i m σ H, W i m σ H →
      ((Ite K a).stop i H ∧ D.nx σ H) ∨ ((Ite K a).go i H ∧ ∃ N : L2.St → Hp → Prop, (∀ σ' H', N σ' H' → ∃ m', m' < m ∧ W (i + 1) m' σ' H') ∧ ∀ x H', (Ite K a).yld i H x H' → g x σ H' fun σ2 H2 => tb { D with nx := N, ct := N, bk := D.nx } σ2 H2) := by
  refine ⟨fun i m σ H => m = xs.length - i ∧ i ≤ xs.length ∧ Pv i σ H, ⟨xs.length, by simp, Nat.zero_le _, h0⟩, ?_⟩
  rintro i m σ H ⟨rfl, hi, p⟩
  have q := hl i σ H hi p
  by_cases hlt : i < xs.length
  · refine .inr ⟨⟨xs, xs[i], q, by simp [hlt]⟩, Pv (i + 1), fun σ' H' p' => ⟨xs.length - (i + 1), by omega, rfl, hlt, p'⟩, fun x H' y => ?_⟩
    obtain ⟨T, z, rfl, hT, rfl, hz⟩ := y
    exact hs i z σ H (hz xs q) p T hT
  · have e : i = xs.length := by omega
    subst e
    exact .inl ⟨⟨xs, q, Nat.le_refl _⟩, hd σ H p⟩
/-- the turns of a for over a list, over enumerate(list), as one wish -/
def ForG (K : PySem.W.Frag) (a : Addr) (g : TG) (tb : TS) (D : Ends) (σ : L2.St) (H : Hp) : Prop := ∃ W : Nat → Nat → L2.St → Hp → Prop, (∃ m, W 0 m σ H) ∧ ∀ i m σ H, W i m σ H →
  ((Itl K a).stop i H ∧ D.nx σ H) ∨ ((Itl K a).go i H ∧ ∃ N : L2.St → Hp → Prop, (∀ σ' H', N σ' H' → ∃ m', m' < m ∧ W (i + 1) m' σ' H') ∧ ∀ x H', (Itl K a).yld i H x H' → g x σ H' fun σ2 H2 => tb { D with nx := N, ct := N, bk := D.nx } σ2 H2)
def ForE (K : PySem.W.Frag) (a : Addr) (g : TG) (tb : TS) (D : Ends) (σ : L2.St) (H : Hp) : Prop := ∃ W : Nat → Nat → L2.St → Hp → Prop, (∃ m, W 0 m σ H) ∧ ∀ i m σ H, W i m σ H →
  ((Ite K a).stop i H ∧ D.nx σ H) ∨ ((Ite K a).go i H ∧ ∃ N : L2.St → Hp → Prop, (∀ σ' H', N σ' H' → ∃ m', m' < m ∧ W (i + 1) m' σ' H') ∧ ∀ x H', (Ite K a).yld i H x H' → g x σ H' fun σ2 H2 => tb { D with nx := N, ct := N, bk := D.nx } σ2 H2)
def ForR (lo : Int) (n : Nat) (g : TG) (tb : TS) (D : Ends) (σ : L2.St) (H : Hp) : Prop := ∃ W : Nat → Nat → L2.St → Hp → Prop, (∃ m, W 0 m σ H) ∧ ∀ i m σ H, W i m σ H →
  ((Itr lo n).stop i H ∧ D.nx σ H) ∨ ((Itr lo n).go i H ∧ ∃ N : L2.St → Hp → Prop, (∀ σ' H', N σ' H' → ∃ m', m' < m ∧ W (i + 1) m' σ' H') ∧ ∀ x H', (Itr lo n).yld i H x H' → g x σ H' fun σ2 H2 => tb { D with nx := N, ct := N, bk := D.nx } σ2 H2)
section
variable {K : PySem.W.Frag} {D : Ends} {σ : L2.St} {H : Hp} {g : TG} {tb : TS}
theorem r_forL {tl : TE} (h : tl σ H fun x H1 => ∃ a, x = .ref a ∧ (∃ xs, SqL K H1 a xs) ∧ ForG K a g tb D σ H1) : tFor (iList K tl) g tb D σ H := h
theorem r_forE {ta : TA} (h : ta σ H fun vs H1 => ∃ a xs, vs = [.ref a] ∧ SqL K H1 a xs ∧ ForE K a g tb D σ H1) : tFor (iEnum K ta) g tb D σ H := h
theorem r_forR {ta : TA} (h : ta σ H fun vs H1 => ∃ j : Int, vs = [.int j] ∧ -(2 ^ 62) ≤ j ∧ j < 2 ^ 62 ∧ ForR 0 j.toNat g tb D σ H1) : tFor (iRng1 ta) g tb D σ H := h
theorem r_forL2 {a : Addr} {xs : List V} (h : SqL K H a xs) (q : ForG K a g tb D σ H) : ∃ a', V.ref a = .ref a' ∧ (∃ xs, SqL K H a' xs) ∧ ForG K a' g tb D σ H := ⟨a, rfl, ⟨xs, h⟩, q⟩
theorem r_forE2 {a : Addr} {xs : List V} (h : SqL K H a xs) (q : ForE K a g tb D σ H) : ∃ a' xs, [V.ref a] = [.ref a'] ∧ SqL K H a' xs ∧ ForE K a' g tb D σ H := ⟨a, xs, rfl, h, q⟩
end
theorem ForG.mk {K : PySem.W.Frag} {a : Addr} {xs : List V} {g : TG} {tb : TS} {D : Ends} {σ : L2.St} {H : Hp} (Pv : Nat → L2.St → Hp → Prop) (h0 : Pv 0 σ H) (hl : ∀ i σ H, i ≤ xs.length → Pv i σ H → SqL K H a xs)
    (hs : ∀ i x σ H, xs[i]? = some x → Pv i σ H → g x σ H fun σ2 H2 => tb { D with nx := Pv (i + 1), ct := Pv (i + 1), bk := D.nx } σ2 H2) (hd : ∀ σ H, Pv xs.length σ H → D.nx σ H) : ForG K a g tb D σ H := for_list Pv h0 hl hs hd
theorem ForE.mk {K : PySem.W.Frag} {a : Addr} {xs : List V} {g : TG} {tb : TS} {D : Ends} {σ : L2.St} {H : Hp} (Pv : Nat → L2.St → Hp → Prop) (h0 : Pv 0 σ H) (hl : ∀ i σ H, i ≤ xs.length → Pv i σ H → SqL K H a xs)
    (hs : ∀ (i : Nat) x σ H, xs[i]? = some x → Pv i σ H → AllocO (.tup [.int (i : Int), x]) (fun v H' => g v σ H' fun σ2 H2 => tb { D with nx := Pv (i + 1), ct := Pv (i + 1), bk := D.nx } σ2 H2) H) (hd : ∀ σ H, Pv xs.length σ H → D.nx σ H) : ForE K a g tb D σ H := for_enum Pv h0 hl hs hd
theorem ForR.mk {lo : Int} {n : Nat} {g : TG} {tb : TS} {D : Ends} {σ : L2.St} {H : Hp} (Pv : Nat → L2.St → Hp → Prop) (h0 : Pv 0 σ H)
    (hs : ∀ i σ H, i < n → Pv i σ H → g (.int (lo + i)) σ H fun σ2 H2 => tb { D with nx := Pv (i + 1), ct := Pv (i + 1), bk := D.nx } σ2 H2) (hd : ∀ σ H, Pv n σ H → D.nx σ H) : ForR lo n g tb D σ H := for_range Pv h0 hs hd
theorem mem_cutV {xs : List V} {lo hi : Option Int} {x : V} (h : x ∈ cutV xs lo hi) : x ∈ xs := by
  unfold cutV at h
  exact List.mem_of_mem_drop (List.mem_of_mem_take h)
theorem Ext.frN {H0 H H' : Hp} {p : Addr} (e : Ext H0 H) (f : Fr [p] H H') (n : H0 p = none) : Ext H0 H' := fun a o h => f a o (by
  have : a ≠ p := ne_of_none h n
  simpa using this) (e a o h)
/-- a comprehension over range(n), its element a value each -/
def LcR (lo : Int) (n : Nat) (g : TG) (tt : TT) (te : TE) (vs : List Nat) (σ : L2.St) (Q : VK) (H1 : Hp) : Prop := ∀ D, H1 D = none → ∃ W : Nat → Nat → Hp → Prop, (∃ m, W 0 m (upd H1 D (.lst []))) ∧ ∀ i m H, W i m H →
  ((Itr lo n).stop i H ∧ Q (.ref D) H) ∨ ((Itr lo n).go i H ∧ ∃ Nx : Hp → Prop, (∀ H', Nx H' → ∃ m', m' < m ∧ W (i + 1) m' H') ∧ ∀ x H', (Itr lo n).yld i H x H' → g x (wipe σ vs) H' fun σ2 H2 => wipe σ2 vs = wipe σ vs ∧ tt σ2 H2 fun b H3 =>
    if b = true then te σ2 H3 fun y H4 => ∃ acc, H4 D = some (.lst acc) ∧ acc.length < sizeLine ∧ Nx (upd H4 D (.lst (acc ++ [y]))) else Nx H3)
theorem r_lcR {g : TG} {tt : TT} {te : TE} {vs : List Nat} {ta : TA} {σ : L2.St} {H : Hp} {Q : VK} (h : ta σ H fun us H1 => ∃ j : Int, us = [.int j] ∧ -(2 ^ 62) ≤ j ∧ j < 2 ^ 62 ∧ LcR 0 j.toNat g tt te vs σ Q H1) : tLc (iRng1 ta) g tt te vs σ H Q := by
  show ta σ H _
  exact h
theorem lcR_pure {lo : Int} {n : Nat} {g : TG} {tt : TT} {te : TE} {vs : List Nat} {σ : L2.St} {Q : VK} {H : Hp} (f : Nat → V) (hn : n ≤ 100000)
    (hs : ∀ (i : Nat) (H' : Hp) (R : VK) (N : Hp → Prop), i < n → Ext H H' → (∀ H4, Ext H' H4 → R (f i) H4) → g (.int (lo + (i : Int))) (wipe σ vs) H' fun σ2 H2 => wipe σ2 vs = wipe σ vs ∧ tt σ2 H2 fun b H3 => if b = true then te σ2 H3 R else N H3)
    (q : ∀ p H', H p = none → Ext H H' → H' p = some (.lst ((List.range n).map f)) → Q (.ref p) H') : LcR lo n g tt te vs σ Q H := fun D hD =>
  lc_range (fun i H' => Ext H H' ∧ H' D = some (.lst ((List.range i).map f))) ⟨.new hD, upd_same⟩ (fun i H' hi ⟨e, hd⟩ => hs i H' _ _ hi e fun H4 e4 => by
      refine ⟨_, e4 _ _ hd, ?_, fun a o z => ?_, ?_⟩
      · refine sz_lt ?_
        rw [List.length_map, List.length_range]
        omega
      · rw [upd_ne (ne_of_none z hD)]
        exact e4 _ _ (e _ _ z)
      · rw [upd_same, List.range_succ, List.map_append]
        rfl) fun H' ⟨e, hd⟩ => q D H' hD e hd
theorem r_dnew {σ : L2.St} {H : Hp} {Q : VK} (h : AllocO (.dK []) Q H) : tDNewK σ H Q := h
theorem KH.extE {H0 H : Hp} {L : List (Addr × HO)} (k : KH H0 [] L H) : Ext H0 H := fun a o h => k.fr a o (by simp) h
/-! ### a def by its name -/
structure DfOk (P : Program) (w : World) (K : PySem.W.Frag) (mg : Str → Option Value) (base : Heap) (CX : CXT) (k : Nat) (x : Str) (ps : List Str) (sp : Sp) : Prop where
  ex : ∃ (f : Addr) (fd : FuncData), mg x = some (.ref f) ∧ PySem.W.keepIn K (.ref f) = true ∧ Binds K fd ps [] ∧ FnOk P w K mg base CX k f fd ps sp
theorem pe_callD {X : Cx} {CX : CXT} {k j : Nat} {x : Str} {ps : List Str} {sp : Sp} {p pos : Pos} {e : Expr} {es : List Expr} {t : TA} (Df : DfOk X.prog X.w X.K X.mg X.base CX k x ps sp) (hr : Room j X.A) (ha : PA X (e :: es) t)
    (hk : k ≤ j := by decide) (hx : Passes CX X E0 := by first | exact pass0 | exact passL) (hg : Gl X x := by rfl) (hdb : (x == ("__debug__" : Str)) = false := by decide)
    (he : starEach (e :: es) X.env = (false, eval e X.env) :: starEach es X.env := by rfl) (hpl : (backTo pos (starEach es X.env)).any (·.1) = false := by rfl) :
    PE X (.Call (.Name x p) (e :: es) [] pos) (tCall sp [] E0 t) := by
  obtain ⟨f, fd, hm, hkp, hb, F⟩ := Df.ex
  exact pe_call F (hr.mono hk) hg hm hkp hb .nil hx ha hdb he hpl
end Wc

set_option Elab.async false
set_option linter.all false
set_option maxRecDepth 100000
set_option maxHeartbeats 4000000
/-! own exceptions with one field, made as values; plain ones -/
namespace Wc
open PySem PySem.Spec PyProof.Rows L2
def spInit (K : PySem.W.Frag) (C : Addr) (fld : Str) : Sp := fun vs H Q _ => ∃ (a : Addr) (v : V), vs = [.ref a, v] ∧ H a = some (exo a C none) ∧ OexC K C ∧ PySem.W.findIn K (.ref C) fld = some none ∧
  ∀ d, H d = none → d ≠ a → Q .non (upd (upd H d (exd d [(fld, v)])) a (exo a C (some d)))
theorem r_vei {K : PySem.W.Frag} {ta : TA} {σ : L2.St} {H : Hp} {Q : VK} (h : ta σ H fun vs H1 => ∃ (a C : Addr) (ws : List V), vs = .ref a :: ws ∧ ws.length ≤ 1000 ∧ OexC K C ∧ H1 a = some (exo a C none) ∧ Q .non H1) : tVeI K ta σ H Q := h
theorem r_ost {K : PySem.W.Frag} {f : Str} {to te : TE} {D : Ends} {σ : L2.St} {H : Hp} (h : te σ H fun y H1 => to σ H1 fun x H2 => ∃ a C : Addr, x = .ref a ∧ OexC K C ∧ PySem.W.findIn K (.ref C) f = some none ∧
  ((H2 a = some (exo a C none) ∧ ∀ dx, H2 dx = none → dx ≠ a → D.nx σ (upd (upd H2 dx (exd dx [(f, y)])) a (exo a C (some dx)))) ∨
    ∃ (dx : Addr) (fs : List (Str × V)), H2 a = some (exo a C (some dx)) ∧ H2 dx = some (exd dx fs) ∧ fs.length ≤ 900 ∧ D.nx σ (upd H2 dx (exd dx ((f, y) :: fs))))) : tOst K f to te D σ H := h
/-- an exception of the class at C with its one field stands at a -/
def ExF (H : Hp) (a C : Addr) (f : Str) (v : V) : Prop := ∃ d, H a = some (exo a C (some d)) ∧ H d = some (exd d [(f, v)])
theorem ExF.at_ {H : Hp} {a C : Addr} {f : Str} {v : V} (h : ExF H a C f v) : ExAt H a C := by
  obtain ⟨d, h1, h2⟩ := h
  exact .inl ⟨d, _, h1, h2⟩
theorem ExF.ext {H H' : Hp} {a C : Addr} {f : Str} {v : V} (h : ExF H a C f v) (e : Ext H H') : ExF H' a C f v := by
  obtain ⟨d, h1, h2⟩ := h
  exact ⟨d, e _ _ h1, e _ _ h2⟩
theorem ExAt.ext {H H' : Hp} {a C : Addr} (h : ExAt H a C) (e : Ext H H') : ExAt H' a C := by
  rcases h with ⟨d, fs, h1, h2⟩ | ⟨t, h⟩
  · exact .inl ⟨d, fs, e _ _ h1, e _ _ h2⟩
  · exact .inr ⟨t, e _ _ h⟩
/-- .. where one list (or dict) changes -/
theorem ExAt.fr {H H' : Hp} {a C p : Addr} {xs : List V} (h : ExAt H a C) (hp : H p = some (.lst xs)) (e : Fr [p] H H') : ExAt H' a C := by
  have ne : ∀ {b : Addr} {φ : Heap → Prop}, H b = some (.ext φ) → b ∉ [p] := fun {b φ} hb => by
    have : b ≠ p := ne_of hb hp (by intro z; cases z)
    simpa using this
  rcases h with ⟨d, fs, h1, h2⟩ | ⟨t, h⟩
  · exact .inl ⟨d, fs, e _ _ (ne h1) h1, e _ _ (ne h2) h2⟩
  · exact .inr ⟨t, e _ _ (ne h) h⟩
/-- NoX(v) as a value -/
structure ErrOk (P : Program) (w : World) (K : PySem.W.Frag) (mg : Str → Option Value) (base : Heap) (x : Str) (C : Addr) (fld : Str) : Prop where
  g : mg x = some (.ref C)
  o : OexC K C
  no : PySem.W.findIn K (.ref C) fld = some none
  ex : ∃ (f : Addr) (fd : FuncData) (ps : List Str), ExIn K C f ∧ Binds K fd ps [] ∧ FnOk P w K mg base CX0 1 f fd ps (spInit K C fld)
/-- C(v): what is asked behind the argument -/
def MkG (K : PySem.W.Frag) (C : Addr) (fld : Str) (Q : VK) (vs : List V) (H : Hp) : Prop := vs.length ≤ 1000 ∧ ∀ a, H a = none → spInit K C fld (.ref a :: vs) (upd H a (exo a C none)) (fun v H2 => v = .non ∧ Q (.ref a) H2) E0
theorem MkG.mk {K : PySem.W.Frag} {C : Addr} {fld : Str} {v : V} {Q : VK} {H0 H : Hp} {M : List Addr} {L : List (Addr × HO)} (o : OexC K C) (no : PySem.W.findIn K (.ref C) fld = some none) (k : KH H0 M L H)
    (h : ∀ a d H', KH H0 M ((a, exo a C (some d)) :: (d, exd d [(fld, v)]) :: L) H' → Q (.ref a) H') : MkG K C fld Q [v] H := by
  refine ⟨by simp, fun a ha => ⟨a, v, rfl, upd_same, o, no, fun d hd ne => ⟨rfl, ?_⟩⟩⟩
  rw [upd_ne ne] at hd
  have e : upd (upd (upd H a (exo a C none)) d (exd d [(fld, v)])) a (exo a C (some d)) = upd (upd H d (exd d [(fld, v)])) a (exo a C (some d)) := by
    funext b
    by_cases c : b = a
    · rw [c, upd_same, upd_same]
    · rw [upd_ne c, upd_ne c]
      by_cases c2 : b = d
      · rw [c2, upd_same, upd_same]
      · rw [upd_ne c2, upd_ne c2, upd_ne c]
  rw [e]
  exact h a d _ ((k.new hd).new (by rw [upd_ne (Ne.symm ne)]; exact ha))
theorem r_mkV {K : PySem.W.Frag} {C : Addr} {fld : Str} {ta : TA} {σ : L2.St} {H : Hp} {Q : VK} (h : ta σ H fun vs H1 => MkG K C fld Q vs H1) : tMkV C (spInit K C fld) ta σ H Q := h
theorem pe_mkE {X : Cx} {x fld : Str} {C : Addr} {j : Nat} {p pos : Pos} {e : Expr} {te : TE} (Er : ErrOk X.prog X.w X.K X.mg X.base x C fld) (hr : Room j X.A) (he : PE X e te)
    (hk : 2 ≤ j := by decide) (hg : Gl X x := by rfl) (hdb : (x == ("__debug__" : Str)) = false := by decide)
    (hs : starEach [e] X.env = (false, eval e X.env) :: starEach [] X.env := by rfl) : PE X (.Call (.Name x p) [e] [] pos) (tMkV C (spInit X.K C fld) (tCons te tNil)) := by
  obtain ⟨f, fd, ps, I, b, F⟩ := Er.ex
  exact pe_mkv (p := p) (pos := pos) Er.o I F (hr.mono hk) b pass0 hg Er.g (pa_cons he pa_nil hs) hdb hs (by rfl)
/-- e.f -/
theorem r_xfld {K : PySem.W.Frag} {te : TE} {f : Str} {σ : L2.St} {H : Hp} {Q : VK} (h : te σ H fun x H1 => ∃ (a C d : Addr) (fs : List (Str × V)) (v : V), x = .ref a ∧ H1 a = some (exo a C (some d)) ∧ H1 d = some (exd d fs) ∧ ExRd K C ∧ OexC K C ∧ NoAttr K C f ∧ fs.lookup f = some v ∧ Q v H1) : tXfld K te f σ H Q := h
theorem r_xf {K : PySem.W.Frag} {f : Str} {H : Hp} {R : V → Prop} {a C d : Addr} {v : V} (h1 : H a = some (exo a C (some d))) (h2 : H d = some (exd d [(f, v)])) (hr : ExRd K C) (ho : OexC K C) (hn : PySem.W.findIn K (.ref C) f = some none) (q : R v) :
    ∃ (a' C d : Addr) (fs : List (Str × V)) (v : V), V.ref a = .ref a' ∧ H a' = some (exo a' C (some d)) ∧ H d = some (exd d fs) ∧ ExRd K C ∧ OexC K C ∧ NoAttr K C f ∧ fs.lookup f = some v ∧ R v :=
  ⟨a, C, d, _, v, rfl, h1, h2, hr, ho, hn, by simp [List.lookup], q⟩
/-- isinstance(e, c) -/
theorem r_isiE {K : PySem.W.Frag} {H : Hp} {Q : VK} {a C : Addr} {c : V} {u : Value} {b : Bool} (hc : ClsV c u) (hx : ExAt H a C) (S : ExIs K C) (R : ExRd K C) (sb : PySem.W.subIn K (.ref C) (.type "BaseException") = some true) (e : PySem.W.kitOne K (.ref C) u = some b) (q : Q (.bl b) H) :
    rIsiE K [.ref a, c] H Q := ⟨a, C, c, u, b, rfl, hc, hx, S, R, sb, e, q⟩
/-- a plain one: X(text) -/
structure PlainOk (K : PySem.W.Frag) (mg : Str → Option Value) (x : Str) (C : Addr) : Prop where
  g : mg x = some (.ref C)
  x : PySem.W.excIn K C He.veBase "ValueError.__new__" = true
  k : PySem.W.keepIn K (.ref C) = true
def AllocX (C : Addr) (v : V) (Q : VK) (H : Hp) : Prop := ∀ a t, H a = none → H t = none → a ≠ t → Q (.ref a) (upd (upd H t (.tup [v])) a (exo1 a C t))
def tMkX (C : Addr) (te : TE) : TE := fun σ H Q => te σ H fun v H1 => AllocX C v Q H1
theorem r_mkX {C : Addr} {te : TE} {σ : L2.St} {H : Hp} {Q : VK} (h : te σ H fun v H1 => AllocX C v Q H1) : tMkX C te σ H Q := h
theorem pe_mkX {X : Cx} {x : Str} {C : Addr} {p pos : Pos} {e : Expr} {te : TE} (Px : PlainOk X.K X.mg x C) (he : PE X e te) (hg : Gl X x := by rfl)
    (hdb : (x == ("__debug__" : Str)) = false := by decide) (hs : starEach [e] X.env = (false, eval e X.env) :: starEach [] X.env := by rfl) : PE X (.Call (.Name x p) [e] [] pos) (tMkX C te) :=
  pe_exc1t PySem.F.excBase_ValueError Px.x Px.g Px.k hg he hs hdb
def ExT (H : Hp) (a C : Addr) (v : V) : Prop := ∃ t, H a = some (exo1 a C t) ∧ H t = some (.tup [v])
theorem ExT.at_ {H : Hp} {a C : Addr} {v : V} (h : ExT H a C v) : ExAt H a C := by
  obtain ⟨t, h1, _⟩ := h
  exact .inr ⟨t, h1⟩
theorem ExT.ext {H H' : Hp} {a C : Addr} {v : V} (h : ExT H a C v) (e : Ext H H') : ExT H' a C v := by
  obtain ⟨d, h1, h2⟩ := h
  exact ⟨d, e _ _ h1, e _ _ h2⟩
theorem AllocX.mk {C : Addr} {v : V} {Q : VK} {H0 H : Hp} {M : List Addr} {L : List (Addr × HO)} (k : KH H0 M L H) (h : ∀ a t H', KH H0 M ((a, exo1 a C t) :: (t, .tup [v]) :: L) H' → Q (.ref a) H') : AllocX C v Q H := fun a t ha ht ne =>
  h a t _ ((k.new ht).new (by rw [upd_ne ne]; exact ha))
/-- x != y: data, or one empty dict with itself -/
def rNeT (K : PySem.W.Frag) : R2 := fun x y H Q => rNeD K x y H Q ∨ ∃ a, x = .ref a ∧ y = .ref a ∧ H a = some (.dK []) ∧ Q (.bl false) H
theorem op_neT {X : Cx} (hu : X.A.units + 64 < cLine) : OpR X (compareOp .NotEq) (rNeT X.K) := by
  intro pins s σ H x y v u Q I rx ry h
  rcases h with h | ⟨a, rfl, rfl, ha, q⟩
  · exact op_neD hu pins s σ H x y v u Q I rx ry h
  · obtain rfl : v = Value.ref a := rx
    obtain rfl : u = Value.ref a := ry
    obtain ⟨_, hm, vs, rv, hd⟩ := (show ObjOk X.prog X.w H s.heap a (.dK []) from I.hok a _ ha)
    cases rv
    exact PySem.W.keq_ne hm hm hd hd (by omega) (fun _ => .nil) ⟨.bl false, H, I, rfl, q⟩
end Wc

set_option Elab.async false
set_option linter.all false
set_option maxRecDepth 100000
set_option maxHeartbeats 4000000
/-! flat data -/
namespace Wc
open PySem PySem.Spec PyProof.Rows L2
def fD : V → PyData
  | .bl b => .bool b
  | .int i => .int i
  | .str s => .str s
  | _ => .none
def FlatOk (v : V) : Prop := v = .non ∨ (∃ b, v = .bl b) ∨ (∃ i, v = .int i) ∨ ∃ s, v = .str s ∧ PyData.strOk s = true
theorem flat_dp {K : PySem.W.Frag} {H : Hp} {v : V} (h : FlatOk v) : Dp K H v (fD v) := by
  rcases h with rfl | ⟨b, rfl⟩ | ⟨i, rfl⟩ | ⟨s, rfl, _⟩
  · exact .non
  · exact .bl b
  · exact .int i
  · exact .str s
theorem flat_lay {v : V} (h : FlatOk v) : (fD v).canLay0 = true ∧ (fD v).depth = 0 := by
  rcases h with rfl | ⟨b, rfl⟩ | ⟨i, rfl⟩ | ⟨s, rfl, hs⟩
  · exact ⟨rfl, rfl⟩
  · exact ⟨rfl, rfl⟩
  · exact ⟨rfl, rfl⟩
  · exact ⟨by simpa [fD, PyData.canLay0] using hs, rfl⟩
theorem flat_shaped {v : V} (h : FlatOk v) : SeqAt.shaped (fD v) = true := by
  obtain ⟨h1, h2⟩ := flat_lay h
  unfold SeqAt.shaped
  rw [h1, h2] <;> rfl
theorem flats_dp {K : PySem.W.Frag} {H : Hp} : ∀ {xs : List V}, (∀ v, v ∈ xs → FlatOk v) → DpAll K H xs (xs.map fD)
  | [], _ => .nil
  | v :: xs, h => .cons (flat_dp (h v (by simp))) (flats_dp fun u hu => h u (by simp [hu]))
theorem flats_lay : ∀ {xs : List V}, (∀ v, v ∈ xs → FlatOk v) → PyData.canLayAll0 (xs.map fD) = true ∧ PyData.depthAll (xs.map fD) = 0
  | [], _ => ⟨rfl, rfl⟩
  | v :: xs, h => by
    obtain ⟨h1, h2⟩ := flat_lay (h v (by simp))
    obtain ⟨h3, h4⟩ := flats_lay (xs := xs) fun u hu => h u (by simp [hu])
    refine ⟨?_, ?_⟩
    · show ((fD v).canLay0 && PyData.canLayAll0 (xs.map fD)) = true
      rw [h1, h3] <;> rfl
    · show max (fD v).depth (PyData.depthAll (xs.map fD)) = 0
      rw [h2, h4] <;> rfl
theorem lst_shaped {xs : List V} (h : ∀ v, v ∈ xs → FlatOk v) : SeqAt.shaped (.list (xs.map fD)) = true := by
  obtain ⟨h1, h2⟩ := flats_lay h
  show ((PyData.canLay0 (.list (xs.map fD))) && decide (PyData.depth (.list (xs.map fD)) ≤ 64)) = true
  have e1 : PyData.canLay0 (.list (xs.map fD)) = true := by simpa [PyData.canLay0] using h1
  have e2 : PyData.depth (.list (xs.map fD)) = 1 := by
    show PyData.depthAll (xs.map fD) + 1 = 1
    rw [h2]
  rw [e1, e2] <;> rfl
theorem tup_shaped {xs : List V} (h : ∀ v, v ∈ xs → FlatOk v) : SeqAt.shaped (.tuple (xs.map fD)) = true := by
  obtain ⟨h1, h2⟩ := flats_lay h
  show ((PyData.canLay0 (.tuple (xs.map fD))) && decide (PyData.depth (.tuple (xs.map fD)) ≤ 64)) = true
  have e1 : PyData.canLay0 (.tuple (xs.map fD)) = true := by simpa [PyData.canLay0] using h1
  have e2 : PyData.depth (.tuple (xs.map fD)) = 1 := by
    show PyData.depthAll (xs.map fD) + 1 = 1
    rw [h2]
  rw [e1, e2] <;> rfl
theorem shaped_refl {d : PyData} (h : SeqAt.shaped d = true) : PyData.eqv d d = true := SeqAt.eqv_refl d (SeqAt.canLay_of_shaped h)
theorem flat_bl (b : Bool) : FlatOk (.bl b) := .inr (.inl ⟨b, rfl⟩)
theorem flat_int (i : Int) : FlatOk (.int i) := .inr (.inr (.inl ⟨i, rfl⟩))
/-- data that != finds alike -/
theorem ne_same {K : PySem.W.Frag} {H : Hp} {x y : V} {d : PyData} {Q : VK} (h1 : Dp K H x d) (h2 : Dp K H y d) (hs : SeqAt.shaped d = true) (q : Q (.bl false) H) : rNeD K x y H Q := ⟨d, d, h1, h2, hs, hs, by rw [shaped_refl hs]; exact q⟩
end Wc

set_option Elab.async false
set_option linter.all false
set_option maxRecDepth 100000
set_option maxHeartbeats 0
namespace K05
open PySem PySem.Spec PyProof.Rows L2 Wc
def top (i : Nat) : Stmt := PySem.Challenge.pw_worldcalls_k05_errors_by_hand.main.body.getD i (.Pass ⟨0, 0, 0, 0⟩)
abbrev s_NoWorld_init : Stmt := inClass (top 2) 0
theorem sc_NoWorld_init : FnScope ["self", "world"] ["self", "world"] (defScope s_NoWorld_init) := ⟨rfl, rfl, rfl, by decide +kernel, rfl, by decide +kernel, by decide +kernel⟩
def d_NoWorld_init : He.DefD := ⟨("NoWorld", some "__init__"), "__init__", "NoWorld.__init__", defArgs s_NoWorld_init, defBody s_NoWorld_init, defScope s_NoWorld_init, [], []⟩
abbrev s_NoClass_init : Stmt := inClass (top 3) 0
theorem sc_NoClass_init : FnScope ["self", "name"] ["self", "name"] (defScope s_NoClass_init) := ⟨rfl, rfl, rfl, by decide +kernel, rfl, by decide +kernel, by decide +kernel⟩
def d_NoClass_init : He.DefD := ⟨("NoClass", some "__init__"), "__init__", "NoClass.__init__", defArgs s_NoClass_init, defBody s_NoClass_init, defScope s_NoClass_init, [], []⟩
abbrev s_Taken_init : Stmt := inClass (top 4) 0
theorem sc_Taken_init : FnScope ["self", "name"] ["self", "name"] (defScope s_Taken_init) := ⟨rfl, rfl, rfl, by decide +kernel, rfl, by decide +kernel, by decide +kernel⟩
def d_Taken_init : He.DefD := ⟨("Taken", some "__init__"), "__init__", "Taken.__init__", defArgs s_Taken_init, defBody s_Taken_init, defScope s_Taken_init, [], []⟩
abbrev s_NoField_init : Stmt := inClass (top 5) 0
theorem sc_NoField_init : FnScope ["self", "field"] ["self", "field"] (defScope s_NoField_init) := ⟨rfl, rfl, rfl, by decide +kernel, rfl, by decide +kernel, by decide +kernel⟩
def d_NoField_init : He.DefD := ⟨("NoField", some "__init__"), "__init__", "NoField.__init__", defArgs s_NoField_init, defBody s_NoField_init, defScope s_NoField_init, [], []⟩
abbrev s_NoCount_init : Stmt := inClass (top 6) 0
theorem sc_NoCount_init : FnScope ["self", "count"] ["self", "count"] (defScope s_NoCount_init) := ⟨rfl, rfl, rfl, by decide +kernel, rfl, by decide +kernel, by decide +kernel⟩
def d_NoCount_init : He.DefD := ⟨("NoCount", some "__init__"), "__init__", "NoCount.__init__", defArgs s_NoCount_init, defBody s_NoCount_init, defScope s_NoCount_init, [], []⟩
abbrev s_NoBody_init : Stmt := inClass (top 7) 0
theorem sc_NoBody_init : FnScope ["self", "path"] ["self", "path"] (defScope s_NoBody_init) := ⟨rfl, rfl, rfl, by decide +kernel, rfl, by decide +kernel, by decide +kernel⟩
def d_NoBody_init : He.DefD := ⟨("NoBody", some "__init__"), "__init__", "NoBody.__init__", defArgs s_NoBody_init, defBody s_NoBody_init, defScope s_NoBody_init, [], []⟩
abbrev s_NoParts_init : Stmt := inClass (top 8) 0
theorem sc_NoParts_init : FnScope ["self", "parts"] ["self", "parts"] (defScope s_NoParts_init) := ⟨rfl, rfl, rfl, by decide +kernel, rfl, by decide +kernel, by decide +kernel⟩
def d_NoParts_init : He.DefD := ⟨("NoParts", some "__init__"), "__init__", "NoParts.__init__", defArgs s_NoParts_init, defBody s_NoParts_init, defScope s_NoParts_init, [], []⟩
abbrev s_NoFit_init : Stmt := inClass (top 9) 0
theorem sc_NoFit_init : FnScope ["self", "field"] ["self", "field"] (defScope s_NoFit_init) := ⟨rfl, rfl, rfl, by decide +kernel, rfl, by decide +kernel, by decide +kernel⟩
def d_NoFit_init : He.DefD := ⟨("NoFit", some "__init__"), "__init__", "NoFit.__init__", defArgs s_NoFit_init, defBody s_NoFit_init, defScope s_NoFit_init, [], []⟩
abbrev s_NoFunction_init : Stmt := inClass (top 11) 0
theorem sc_NoFunction_init : FnScope ["self", "function"] ["self", "function"] (defScope s_NoFunction_init) := ⟨rfl, rfl, rfl, by decide +kernel, rfl, by decide +kernel, by decide +kernel⟩
def d_NoFunction_init : He.DefD := ⟨("NoFunction", some "__init__"), "__init__", "NoFunction.__init__", defArgs s_NoFunction_init, defBody s_NoFunction_init, defScope s_NoFunction_init, [], []⟩
abbrev s_NoSignature_init : Stmt := inClass (top 12) 0
theorem sc_NoSignature_init : FnScope ["self", "signature"] ["self", "signature"] (defScope s_NoSignature_init) := ⟨rfl, rfl, rfl, by decide +kernel, rfl, by decide +kernel, by decide +kernel⟩
def d_NoSignature_init : He.DefD := ⟨("NoSignature", some "__init__"), "__init__", "NoSignature.__init__", defArgs s_NoSignature_init, defBody s_NoSignature_init, defScope s_NoSignature_init, [], []⟩
abbrev s_NotThere_init : Stmt := inClass (top 13) 0
theorem sc_NotThere_init : FnScope ["self", "signature"] ["self", "signature"] (defScope s_NotThere_init) := ⟨rfl, rfl, rfl, by decide +kernel, rfl, by decide +kernel, by decide +kernel⟩
def d_NotThere_init : He.DefD := ⟨("NotThere", some "__init__"), "__init__", "NotThere.__init__", defArgs s_NotThere_init, defBody s_NotThere_init, defScope s_NotThere_init, [], []⟩
abbrev s_NoMethod_init : Stmt := inClass (top 14) 0
theorem sc_NoMethod_init : FnScope ["self", "call"] ["self", "call"] (defScope s_NoMethod_init) := ⟨rfl, rfl, rfl, by decide +kernel, rfl, by decide +kernel, by decide +kernel⟩
def d_NoMethod_init : He.DefD := ⟨("NoMethod", some "__init__"), "__init__", "NoMethod.__init__", defArgs s_NoMethod_init, defBody s_NoMethod_init, defScope s_NoMethod_init, [], []⟩
abbrev s_Ambiguous_init : Stmt := inClass (top 15) 0
theorem sc_Ambiguous_init : FnScope ["self", "call"] ["self", "call"] (defScope s_Ambiguous_init) := ⟨rfl, rfl, rfl, by decide +kernel, rfl, by decide +kernel, by decide +kernel⟩
def d_Ambiguous_init : He.DefD := ⟨("Ambiguous", some "__init__"), "__init__", "Ambiguous.__init__", defArgs s_Ambiguous_init, defBody s_Ambiguous_init, defScope s_Ambiguous_init, [], []⟩
abbrev s_NoValues_init : Stmt := inClass (top 16) 0
theorem sc_NoValues_init : FnScope ["self", "given"] ["self", "given"] (defScope s_NoValues_init) := ⟨rfl, rfl, rfl, by decide +kernel, rfl, by decide +kernel, by decide +kernel⟩
def d_NoValues_init : He.DefD := ⟨("NoValues", some "__init__"), "__init__", "NoValues.__init__", defArgs s_NoValues_init, defBody s_NoValues_init, defScope s_NoValues_init, [], []⟩
abbrev s_NoSteps_init : Stmt := inClass (top 17) 0
theorem sc_NoSteps_init : FnScope ["self", "steps"] ["self", "steps"] (defScope s_NoSteps_init) := ⟨rfl, rfl, rfl, by decide +kernel, rfl, by decide +kernel, by decide +kernel⟩
def d_NoSteps_init : He.DefD := ⟨("NoSteps", some "__init__"), "__init__", "NoSteps.__init__", defArgs s_NoSteps_init, defBody s_NoSteps_init, defScope s_NoSteps_init, [], []⟩
abbrev s_NoTask_init : Stmt := inClass (top 20) 0
theorem sc_NoTask_init : FnScope ["self", "task"] ["self", "task"] (defScope s_NoTask_init) := ⟨rfl, rfl, rfl, by decide +kernel, rfl, by decide +kernel, by decide +kernel⟩
def d_NoTask_init : He.DefD := ⟨("NoTask", some "__init__"), "__init__", "NoTask.__init__", defArgs s_NoTask_init, defBody s_NoTask_init, defScope s_NoTask_init, [], []⟩
abbrev s_NoEntry_init : Stmt := inClass (top 22) 0
theorem sc_NoEntry_init : FnScope ["self", "number"] ["self", "number"] (defScope s_NoEntry_init) := ⟨rfl, rfl, rfl, by decide +kernel, rfl, by decide +kernel, by decide +kernel⟩
def d_NoEntry_init : He.DefD := ⟨("NoEntry", some "__init__"), "__init__", "NoEntry.__init__", defArgs s_NoEntry_init, defBody s_NoEntry_init, defScope s_NoEntry_init, [], []⟩
abbrev s_NoChange_init : Stmt := inClass (top 23) 0
theorem sc_NoChange_init : FnScope ["self", "at"] ["self", "at"] (defScope s_NoChange_init) := ⟨rfl, rfl, rfl, by decide +kernel, rfl, by decide +kernel, by decide +kernel⟩
def d_NoChange_init : He.DefD := ⟨("NoChange", some "__init__"), "__init__", "NoChange.__init__", defArgs s_NoChange_init, defBody s_NoChange_init, defScope s_NoChange_init, [], []⟩
abbrev s_NoStep_init : Stmt := inClass (top 25) 0
theorem sc_NoStep_init : FnScope ["self", "at"] ["self", "at"] (defScope s_NoStep_init) := ⟨rfl, rfl, rfl, by decide +kernel, rfl, by decide +kernel, by decide +kernel⟩
def d_NoStep_init : He.DefD := ⟨("NoStep", some "__init__"), "__init__", "NoStep.__init__", defArgs s_NoStep_init, defBody s_NoStep_init, defScope s_NoStep_init, [], []⟩
abbrev s_l_cell_at : Stmt := top 27
theorem sc_l_cell_at : FnScope ["_law_script", "_law_k"] ["_law_script", "_law_k"] (defScope s_l_cell_at) := ⟨rfl, rfl, rfl, by decide +kernel, rfl, by decide +kernel, by decide +kernel⟩
def d_l_cell_at : He.DefD := ⟨("_law_cell_at", none), "_law_cell_at", "_law_cell_at", defArgs s_l_cell_at, defBody s_l_cell_at, defScope s_l_cell_at, [], []⟩
abbrev s_l_well : Stmt := top 28
theorem sc_l_well : FnScope ["_law_cell"] ["_law_cell"] (defScope s_l_well) := ⟨rfl, rfl, rfl, by decide +kernel, rfl, by decide +kernel, by decide +kernel⟩
def d_l_well : He.DefD := ⟨("_law_well", none), "_law_well", "_law_well", defArgs s_l_well, defBody s_l_well, defScope s_l_well, [], []⟩
abbrev s_l_draw : Stmt := top 29
theorem sc_l_draw : FnScope ["_law_well_here", "_law_many", "_law_digit", "_law_prime", "_law_number"] ["_law_well_here", "_law_many"] (defScope s_l_draw) := ⟨rfl, rfl, rfl, by decide +kernel, rfl, by decide +kernel, by decide +kernel⟩
def d_l_draw : He.DefD := ⟨("_law_draw", none), "_law_draw", "_law_draw", defArgs s_l_draw, defBody s_l_draw, defScope s_l_draw, [], []⟩
abbrev s_l_one : Stmt := top 30
theorem sc_l_one : FnScope ["_law_well_here", "_law_some"] ["_law_well_here", "_law_some"] (defScope s_l_one) := ⟨rfl, rfl, rfl, by decide +kernel, rfl, by decide +kernel, by decide +kernel⟩
def d_l_one : He.DefD := ⟨("_law_one", none), "_law_one", "_law_one", defArgs s_l_one, defBody s_l_one, defScope s_l_one, [], []⟩
abbrev s_l_errors : Stmt := top 31
theorem sc_l_errors : FnScope ["_law_thing", "_law_one_here", "_law_two", "_law_three", "_law_four", "_law_five", "_law_found"] ["_law_thing"] (defScope s_l_errors) := ⟨rfl, rfl, rfl, by decide +kernel, rfl, by decide +kernel, by decide +kernel⟩
def d_l_errors : He.DefD := ⟨("_law_errors", none), "_law_errors", "_law_errors", defArgs s_l_errors, defBody s_l_errors, defScope s_l_errors, [], []⟩
abbrev s_l_kinds : Stmt := top 32
theorem sc_l_kinds : FnScope ["_law_error", "_law_found"] ["_law_error"] (defScope s_l_kinds) := ⟨rfl, rfl, rfl, by decide +kernel, rfl, by decide +kernel, by decide +kernel⟩
def d_l_kinds : He.DefD := ⟨("_law_kinds", none), "_law_kinds", "_law_kinds", defArgs s_l_kinds, defBody s_l_kinds, defScope s_l_kinds, [], []⟩
abbrev s_law : Stmt := top 33
theorem sc_law : FnScope ["_law_script", "_law_cell", "_law_well_here", "_law_thing", "_law_rows", "_law_text", "_law_error", "_law_k", "_law_row", "_law_kept", "_law_spot"] ["_law_script"] (defScope s_law) := ⟨rfl, rfl, rfl, by decide +kernel, rfl, by decide +kernel, by decide +kernel⟩
def d_law : He.DefD := ⟨("law", none), "law", "law", defArgs s_law, defBody s_law, defScope s_law, [], []⟩
def fn : List He.DefD := [d_NoWorld_init, d_NoClass_init, d_Taken_init, d_NoField_init, d_NoCount_init, d_NoBody_init, d_NoParts_init, d_NoFit_init, d_NoFunction_init, d_NoSignature_init, d_NotThere_init, d_NoMethod_init, d_Ambiguous_init, d_NoValues_init, d_NoSteps_init, d_NoTask_init, d_NoEntry_init, d_NoChange_init, d_NoStep_init, d_l_cell_at, d_l_well, d_l_draw, d_l_one, d_l_errors, d_l_kinds, d_law]
-- globals: WorldError NoWorld NoClass Taken NoField NoCount NoBody NoParts NoFit TooDeep NoFunction NoSignature NotThere NoMethod Ambiguous NoValues NoSteps NotInt TooLong NoTask NotEnded NoEntry NoChange NoRows NoStep _law_cell_at _law_well _law_draw _law_one _law_errors _law_kinds law
-- law at 33, row worldcalls_k05_errors_by_hand

def own : List (Str × Str) := [("NoWorld", "world"), ("NoClass", "name"), ("Taken", "name"), ("NoField", "field"), ("NoCount", "count"), ("NoBody", "path"), ("NoParts", "parts"), ("NoFit", "field"), ("NoFunction", "function"), ("NoSignature", "signature"), ("NotThere", "signature"), ("NoMethod", "call"), ("Ambiguous", "call"), ("NoValues", "given"), ("NoSteps", "steps"), ("NoTask", "task"), ("NoEntry", "number"), ("NoChange", "at"), ("NoStep", "at")]
def plain : List Str := ["NotInt", "TooLong", "TooDeep", "NotEnded", "NoRows"]
def kinds : List Str := own.map (·.1) ++ plain
def kindsB (K : PySem.W.Frag) (l : List Str) : Bool := l.all fun x => l.all fun y => decide (PySem.W.kitOne K (.ref (He.ga K x)) (.ref (He.ga K y)) = some (decide (x = y)))
def upB (K : PySem.W.Frag) (l : List Str) : Bool := l.all fun x => decide (PySem.W.subIn K (.ref (He.ga K x)) (.type "BaseException") = some true) && (exIsB K (He.ga K x) && (exRdB K (He.ga K x) && (decide (PySem.W.kitOne K (.ref (He.ga K x)) (.ref (He.ga K "WorldError")) = some true) && decide (PySem.W.kitOne K (.ref (He.ga K x)) (.type "ValueError") = some true))))
def ownB (K : PySem.W.Frag) : Bool := own.all fun p => exB K (He.ga K p.1) && (exInB K (He.ga K p.1) (He.ma K (He.ga K p.1) "__init__") && decide (PySem.W.findIn K (.ref (He.ga K p.1)) p.2 = some none))
def strB (K : PySem.W.Frag) : Bool := plain.all fun x => decide (PySem.W.findIn K (.ref (He.ga K x)) "__str__" = some (some (.builtin "BaseException.__str__")))
def ex (K : PySem.W.Frag) : Bool := baseB K (He.ga K "WorldError") && (kindsB K kinds && (upB K kinds && (ownB K && strB K)))
def gloL : List Str := ["WorldError", "NoWorld", "NoClass", "Taken", "NoField", "NoCount", "NoBody", "NoParts", "NoFit", "TooDeep", "NoFunction", "NoSignature", "NotThere", "NoMethod", "Ambiguous", "NoValues", "NoSteps", "NotInt", "TooLong", "NoTask", "NotEnded", "NoEntry", "NoChange", "NoRows", "NoStep", "_law_cell_at", "_law_well", "_law_draw", "_law_one", "_law_errors", "_law_kinds", "law"]
def freeL : List Str := ["len", "int", "isinstance", "str", "ValueError", "bool", "list", "enumerate", "range"]
def fa : List He.Fa := gloL.map He.Fa.glo ++ (freeL.map He.Fa.free ++ plain.map He.Fa.exc)
def loose : List Str := (["WorldError", "NoWorld", "NoClass", "Taken", "NoField", "NoCount", "NoBody", "NoParts", "NoFit", "TooDeep", "NoFunction", "NoSignature", "NotThere", "NoMethod", "Ambiguous", "NoValues", "NoSteps", "NotInt", "TooLong", "NoTask", "NotEnded", "NoEntry", "NoChange", "NoRows", "NoStep", "_law_cell_at", "_law_well", "_law_draw", "_law_one", "_law_errors"] : List Str) ++ (["_law_kinds"] : List Str)
abbrev R : PySem.W.OpenRow := PySem.W.OpenLaw.row PySem.Challenge.rw_worldcalls_k05_errors_by_hand
abbrev hk : PySem.W.Hook := hookC 5 fa fn ex
def ob (s : PySem.W.SharedT) : AlC := obsC 5 fa fn ex (HandSHeadRun.getT s)
theorem ob_eq (s : PySem.W.SharedT) : ob s = hk.obs s.abs := obsC_eq (HandSHeadRun.getT_eq s)
theorem run (w : World) : HandSHeadRun.RunEq R (PySem.W.view R.prog [33]) hk ob 12000 loose w := by
  intro os
  kernel_rfl
end K05

set_option Elab.async false
set_option linter.all false
set_option maxRecDepth 100000
set_option maxHeartbeats 4000000
namespace K05
open PySem L2 Wc
local macro_rules | `(tactic| walk_at "lk") => `(tactic| first | with_reducible exact Look.here | (with_reducible apply Look.there; walk_at "lk"))
local macro_rules | `(tactic| walk_at "ul") => `(tactic| first | with_reducible exact UpL.here | (with_reducible apply UpL.there; walk_at "ul"))
local macro_rules | `(tactic| walk_at "ga") => `(tactic| first | exact GetAt.here | (apply GetAt.there; walk_at "ga"))
local macro_rules | `(tactic| walk_at "sa") => `(tactic| first | exact SetAt.here | (apply SetAt.there; walk_at "sa"))
local macro_rules | `(tactic| walk_at "hp") => `(tactic| first | assumption | (refine' KH.find ?k ?h; (case k => assumption); (case h => walk_at "lk")))
local macro_rules | `(tactic| walk_at "sql") => `(tactic| first | assumption | (refine' SqL.of ?h; (case h => walk_at "hp")) | (refine' Fr.sql (KH.fr ?k) ?n ?h; (case k => assumption); (case h => assumption); (case n => (simp; done))))
local macro_rules | `(tactic| walk_at "sqt") => `(tactic| first | assumption | (refine' SqT.of ?h; (case h => walk_at "hp")))
local macro_rules | `(tactic| walk_at "side") => `(tactic| first | exact (show (0 : Int) < _ by decide) | exact (show (0 : Int) < _ by omega) | exact ⟨by decide, by decide, by decide⟩ | exact ⟨by decide, by decide, by omega⟩ | exact ⟨by decide, by decide⟩ | exact ⟨by omega, by omega⟩ | exact Or.inl ⟨by omega, by omega⟩ | exact Or.inr ⟨by omega, by omega⟩)
local macro_rules | `(tactic| walk_at "siz") => `(tactic| first | (refine sz_of ?_; first | decide | omega | (simp; done) | (simp; omega)) | (refine sz_lt ?_; first | decide | omega | (simp; done) | (simp; omega)))
local macro_rules | `(tactic| walk_at "own") => `(tactic| first | (exact Or.inr (by assumption)) | (refine Or.inl ?_; simp; done))
local macro_rules | `(tactic| walk_at "al") => `(tactic| (refine' AllocO.mk ?k ?_; (case k => assumption); intro _ _ _ _))
local macro_rules | `(tactic| walk_at "up") => `(tactic| (refine' UpdO.mk ?k ?h ?m ?_; (case k => assumption); (case h => walk_at "ul"); (case m => walk_at "own"); intro _ _))
local macro_rules | `(tactic| walk_at "st") => `(tactic| first
  | ((with_reducible refine' r_var ?h ?_); (case h => walk_at "ga"))
  | (with_reducible refine' r_seq ?_) | (with_reducible refine' r_next ?_) | (with_reducible refine' r_asg ?_) | (with_reducible refine' r_drop ?_) | (with_reducible refine' r_ret ?_) | (with_reducible refine' r_retN ?_)
  | (with_reducible refine' r_ifs ?_) | (with_reducible refine' r_cont ?_) | (with_reducible refine' r_break ?_) | (with_reducible refine' r_c ?_) | (with_reducible refine' r_op ?_) | (with_reducible refine' r_un ?_)
  | (with_reducible refine' r_test ?_) | (with_reducible refine' r_tB ?_) | (with_reducible refine' r_not ?_) | (with_reducible refine' r_and ?_) | (with_reducible refine' r_or ?_) | (with_reducible refine' r_notV ?_)
  | (with_reducible refine' r_andV ?_) | (with_reducible refine' r_orV ?_) | (with_reducible refine' r_ifE ?_) | (with_reducible refine' r_bl ?_) | (with_reducible refine' r_nil ?_) | (with_reducible refine' r_cons ?_)
  | (with_reducible refine' r_tup ?_) | (with_reducible refine' r_lst ?_) | (with_reducible refine' r_cb ?_) | (with_reducible refine' r_call ?_) | ((with_reducible refine' r_name ?h ?_); (case h => walk_at "sa")) | (with_reducible refine' r_gnil ?_)
  | (with_reducible refine' r_gcons ?_) | (with_reducible refine' r_gsub ?_) | (with_reducible refine' r_par ?_) | (with_reducible refine' r_par2 ?_) | (with_reducible refine' r_I0 ?_) | (with_reducible refine' r_U ?_)
  | ((with_reducible refine' r_eq ?h ?_); (case h => rfl)) | ((with_reducible refine' r_ne ?h ?_); (case h => rfl))
  | ((with_reducible refine' r_ixL ?h ?a ?_); (case h => walk_at "sql"); (case a => rfl))
  | ((with_reducible refine' r_ixT ?h ?a ?_); (case h => walk_at "sqt"); (case a => rfl))
  | ((with_reducible refine' r_setL ?h ?a ?_); (case h => walk_at "hp"); (case a => rfl))
  | ((with_reducible refine' r_I ?c ?_); (case c => walk_at "side"))
  | (with_reducible refine' r_sl ?_) | (with_reducible refine' r_part ?_) | (with_reducible refine' r_nopart ?_) | (with_reducible refine' r_ii ?_)
  | ((with_reducible refine' r_slL ?h ?_); (case h => walk_at "sql"))
  | (with_reducible refine' r_bm ?_) | (with_reducible refine' r_bm0 ?_) | (with_reducible refine' r_int1 ?_) | (with_reducible refine' r_int1b ?_)
  | ((with_reducible refine' r_aug ?h ?_); (case h => walk_at "ga"))
  | ((with_reducible refine' r_cat ?a ?b ?z ?_); (case a => walk_at "hp"); (case b => walk_at "hp"); (case z => walk_at "siz"))
  | ((with_reducible refine' r_append ?a ?z ?_); (case a => walk_at "hp"); (case z => walk_at "siz"))
  | ((with_reducible refine' And.intro ?z ?_); (case z => first | walk_at "siz" | exact Or.inl ⟨rfl, _, by walk_at "sql"⟩))
  | ((with_reducible refine' r_gtup ?h ?l ?_); (case h => walk_at "sqt"); (case l => rfl))
  | (with_reducible refine' r_forL ?_) | (with_reducible refine' r_forE ?_) | (with_reducible refine' r_forR ?_) | ((with_reducible refine' r_forL2 ?h ?_); (case h => walk_at "sql")) | ((with_reducible refine' r_forE2 ?h ?_); (case h => walk_at "sql"))
  | (with_reducible refine' r_lcR ?_) | ((with_reducible refine' r_iteT ?h ?_); (case h => rfl)) | ((with_reducible refine' r_iteF ?h ?_); (case h => rfl))
  | (with_reducible refine' r_dnew ?_) | (with_reducible refine' r_vei ?_) | (with_reducible refine' r_ost ?_) | (with_reducible refine' r_mkV ?_) | (with_reducible refine' r_mkX ?_) | (with_reducible refine' r_xfld ?_)
  | ((with_reducible refine' MkG.mk ?o ?n ?k ?_); (case o => exact ErrOk.o (by assumption)); (case n => exact ErrOk.no (by assumption)); (case k => assumption); intro _ _ _ _)
  | ((with_reducible refine' AllocX.mk ?k ?_); (case k => assumption); intro _ _ _ _)
  | (walk_at "al") | (walk_at "up"))
local macro_rules | `(tactic| walk_at "go") => `(tactic| repeat walk_at "st")

/-- what the walk asks of the module's names -/
structure Bt (mg : Str → Option Value) : Prop where
  f_len : mg "len" = none
  f_int : mg "int" = none
  f_isinstance : mg "isinstance" = none
  f_str : mg "str" = none
  f_bool : mg "bool" = none
  f_list : mg "list" = none
  f_enumerate : mg "enumerate" = none
  f_range : mg "range" = none
  f_VE : mg "ValueError" = none
/-- a well: its list of three, so many draws at most -/
def wl (a b c : Int) : HO := .lst [.int a, .int b, .int c]
def WellOk (n : Nat) (b c : Int) : Prop := 0 ≤ b ∧ b < 2147483647 ∧ 0 ≤ c ∧ c ≤ n
def spWell : Sp := fun vs H Q _ => ∃ i : Int, vs = [.int i] ∧ ∀ (a b : Int), WellOk 0 b 0 → AllocO (wl a b 0) Q H
def spDraw : Sp := fun vs H Q _ => ∃ (p : Addr) (m a b c : Int) (n : Nat), vs = [.ref p, .int m] ∧ 0 < m ∧ m < 1073741824 ∧ H p = some (wl a b c) ∧ WellOk n b c ∧ n ≤ 1000000000 ∧
  ∀ (d a' c' : Int) (H' : Hp), 0 ≤ d → d < m → WellOk (n + 1) b c' → Fr [p] H H' → H' p = some (wl a' b c') → Q (.int d) H'
section
variable {P : Program} {w : World} {K : PySem.W.Frag} {mg : Str → Option Value} {base : Heap} {f : Addr} {fd : FuncData}
abbrev FnP (K : PySem.W.Frag) (x : Str) (st : Stmt) (f : Addr) (fd : FuncData) : Prop := FunD K x x (defArgs st) (defBody st) (defScope st) [] [] f fd
theorem ok_well (F : FnP K "_law_well" s_l_well f fd) (T : Bt mg) : FnOk P w K mg base CX0 1 f fd ["_law_cell"] spWell := by
  refine F.ok sc_l_well (fun vs H Q E h => ?_) (fun cdv A outer s H vs Q E hr h => ?_)
  · obtain ⟨i, rfl, _⟩ := h
    rfl
  · refine ⟨_, PSs.nox (pss_one (ps_ret (pe_lst (pa_cons (pe_op op_mul (pv 0) (pe_callTy call_int1 (by rfl) T.f_int PyProof.Rows.boot_int (pa_cons (pe_cmpR op_ge (pv 0) (pe_op op_pow pe_int pe_int) (nomark _)) pa_nil))) (pa_cons (pe_op op_mod (pe_callTy call_int1 (by rfl) T.f_int PyProof.Rows.boot_int (pa_cons (pv 0) pa_nil)) pe_int) (pa_cons pe_int pa_nil)))))), ?_⟩
    obtain ⟨i, rfl, k⟩ := h
    rw [show L2.start ["_law_cell"] [V.int i] = ([some (V.int i)] : List (Option V)) from rfl]
    have hb : (if decide ((10 : Int) ^ (18 : Int).toNat ≤ i) = true then (1 : Int) else 0) = 0 ∨ (if decide ((10 : Int) ^ (18 : Int).toNat ≤ i) = true then (1 : Int) else 0) = 1 := by
      split
      · exact .inr rfl
      · exact .inl rfl
    walk_at "go"
    exact k _ _ ⟨by omega, by omega, by decide, by decide⟩
theorem primes_at (c : Int) : ∃ q : Int, atI [V.int 2147483647, V.int 2147483629, V.int 2147483587, V.int 2147483579, V.int 2147483563, V.int 2147483549, V.int 2147483543] (c % 7) = some (.int q) ∧ 2147483543 ≤ q ∧ q ≤ 2147483647 := by
  have h0 := Int.emod_nonneg c (show (7 : Int) ≠ 0 by decide)
  have h1 := Int.emod_lt_of_pos c (show (0 : Int) < 7 by decide)
  generalize c % 7 = r at h0 h1
  have h : r = 0 ∨ r = 1 ∨ r = 2 ∨ r = 3 ∨ r = 4 ∨ r = 5 ∨ r = 6 := by omega
  rcases h with h | h | h | h | h | h | h <;> subst h <;> exact ⟨_, rfl, by decide, by decide⟩
theorem ok_draw (F : FnP K "_law_draw" s_l_draw f fd) (T : Bt mg) : FnOk P w K mg base CX0 1 f fd ["_law_well_here", "_law_many"] spDraw := by
  refine F.ok sc_l_draw (fun vs H Q E h => ?_) (fun cdv A outer s H vs Q E hr h => ?_)
  · obtain ⟨p, m, a, b, c, n, rfl, _⟩ := h
    rfl
  · refine ⟨_, PSs.nox (pss_cons (ps_if (pt_cmpR op_gt (pe_ix ix_list (pv 0) pe_int (fun _ _ => rfl)) pe_int (nomark _)) (pss_cons (ps_set (i := 2) sc_l_draw.nd rfl (by first | exact Or.inl rfl | exact Or.inr rfl) (pe_op op_mod (pe_callTy call_int1 (by rfl) T.f_int PyProof.Rows.boot_int (pa_cons (pe_ix ix_list (pv 0) pe_int (fun _ _ => rfl)) pa_nil)) (pv 1)))
      (pss_cons (ps_asg (pe_op op_fdiv (pe_ix ix_list (pv 0) pe_int (fun _ _ => rfl)) (pv 1)) (pg_sub (pv 0) pe_int set_list))
      (pss_one (ps_ret (pv 2))))) pss_nil)
      (pss_cons (ps_asg (pe_op op_add (pe_ix ix_list (pv 0) pe_int (fun _ _ => rfl)) pe_int) (pg_sub (pv 0) pe_int set_list))
      (pss_cons (ps_set (i := 3) sc_l_draw.nd rfl (by first | exact Or.inl rfl | exact Or.inr rfl) (pe_ix ix_list (pe_lst (pa_cons pe_int (pa_cons pe_int (pa_cons pe_int (pa_cons pe_int (pa_cons pe_int (pa_cons pe_int (pa_cons pe_int pa_nil)))))))) (pe_op op_mod (pe_callTy call_int1 (by rfl) T.f_int PyProof.Rows.boot_int (pa_cons (pe_ix ix_list (pv 0) pe_int (fun _ _ => rfl)) pa_nil)) pe_int) (fun _ _ => rfl)))
      (pss_cons (ps_set (i := 4) sc_l_draw.nd rfl (by first | exact Or.inl rfl | exact Or.inr rfl) (pe_op op_mod (pe_callTy call_int1 (by rfl) T.f_int PyProof.Rows.boot_int (pa_cons (pe_op op_pow (pe_op op_add (pe_op op_add (pe_ix ix_list (pv 0) pe_int (fun _ _ => rfl)) (pe_op op_mul pe_int (pe_ix ix_list (pv 0) pe_int (fun _ _ => rfl)))) pe_int) pe_int) pa_nil)) (pv 3)))
      (pss_cons (ps_set (i := 4) sc_l_draw.nd rfl (by first | exact Or.inl rfl | exact Or.inr rfl) (pe_op op_mod (pe_callTy call_int1 (by rfl) T.f_int PyProof.Rows.boot_int (pa_cons (pe_op op_mul (pe_op op_add (pv 4) (pe_ix ix_list (pv 0) pe_int (fun _ _ => rfl))) (pe_op op_add (pe_op op_fdiv (pv 4) pe_int) pe_int)) pa_nil)) (pv 3)))
      (pss_one (ps_ret (pe_op op_mod (pe_callTy call_int1 (by rfl) T.f_int PyProof.Rows.boot_int (pa_cons (pe_op op_fdiv (pv 4) pe_int) pa_nil)) (pv 1))))))))), ?_⟩
    obtain ⟨p, m, a, b, c, n, rfl, m0, m1, hp, ⟨b0, b1, c0, c1⟩, hn, k⟩ := h
    rw [show L2.start ["_law_well_here", "_law_many", "_law_digit", "_law_prime", "_law_number"] [V.ref p, V.int m] = ([some (V.ref p), some (V.int m), none, none, none] : List (Option V)) from rfl]
    have kh := KH.start1 hp
    walk_at "go"
    split
    · walk_at "go"
      rename_i H1 k1
      exact k _ _ _ H1 (Int.emod_nonneg _ (by omega)) (Int.emod_lt_of_pos _ m0) ⟨b0, b1, c0, by omega⟩ k1.fr (k1.find .here)
    · walk_at "go"
      rename_i H1 k1 p2 H2 n2 k2
      obtain ⟨q, hq, q0, q1⟩ := primes_at (c + 1)
      refine r_ixL (SqL.of (k2.find .here)) hq ?_
      walk_at "go"
      have x0 := Int.emod_nonneg ((b + 7919 * (c + 1) + 1) ^ Int.toNat 5) (show q ≠ 0 by omega)
      have x1 := Int.emod_lt_of_pos ((b + 7919 * (c + 1) + 1) ^ Int.toNat 5) (show 0 < q by omega)
      generalize (b + 7919 * (c + 1) + 1) ^ Int.toNat 5 % q = x at x0 x1 ⊢
      walk_at "go"
      exact k _ _ _ H2 (Int.emod_nonneg _ (by omega)) (Int.emod_lt_of_pos _ m0) ⟨b0, b1, by omega, by omega⟩ k2.fr (k2.find (.there .here))
/-- one of these: its place by a draw -/
def spOne (K : PySem.W.Frag) : Sp := fun vs H Q _ => ∃ (p l : Addr) (xs : List V) (a b c : Int) (n : Nat), vs = [.ref p, .ref l] ∧ H p = some (wl a b c) ∧ SqL K H l xs ∧ 0 < xs.length ∧ xs.length ≤ 1000000 ∧ p ≠ l ∧ WellOk n b c ∧ n ≤ 1000000000 ∧
  ∀ (x : V) (a' c' : Int) (H' : Hp), x ∈ xs → WellOk (n + 1) b c' → Fr [p] H H' → H' p = some (wl a' b c') → Q x H'
theorem ok_one (F : FnP K "_law_one" s_l_one f fd) (T : Bt mg) (D_l_draw : DfOk P w K mg base CX0 1 "_law_draw" ["_law_well_here", "_law_many"] spDraw) : FnOk P w K mg base CX0 2 f fd ["_law_well_here", "_law_some"] (spOne K) := by
  refine F.ok sc_l_one (fun vs H Q E h => ?_) (fun cdv A outer s H vs Q E hr h => ?_)
  · obtain ⟨p, l, xs, a, b, c, n, rfl, _⟩ := h
    rfl
  · refine ⟨_, PSs.nox (pss_one (ps_ret (pe_ix ix_list (pv 1) (pe_callD D_l_draw hr (pa_cons (pv 0) (pa_cons (pe_callB call_len (by rfl) T.f_len PySem.boot_len (pa_cons (pv 1) pa_nil)) pa_nil))) (fun _ _ => rfl)))), ?_⟩
    obtain ⟨p, l, xs, a, b, c, n, rfl, hp, hl, x0, x1, ne, wo, hn, k⟩ := h
    rw [show L2.start ["_law_well_here", "_law_some"] [V.ref p, V.ref l] = ([some (V.ref p), some (V.ref l)] : List (Option V)) from rfl]
    walk_at "go"
    refine ⟨_, _, rfl, .inl ⟨xs, hl, rfl⟩, ?_⟩
    walk_at "go"
    refine ⟨p, xs.length, a, b, c, n, rfl, by omega, by omega, hp, wo, hn, fun d a' c' H' d0 d1 wo' e hp' => ?_⟩
    obtain ⟨j, rfl⟩ : ∃ j : Nat, d = (j : Int) := ⟨d.toNat, by omega⟩
    have hj : j < xs.length := by omega
    refine r_ixL (e.sql (by simpa using Ne.symm ne) hl) (atI_nat (List.getElem?_eq_getElem hj)) ?_
    exact k _ a' c' H' (List.getElem_mem hj) wo' e hp'
end
end K05

set_option Elab.async false
set_option linter.all false
set_option maxRecDepth 100000
set_option maxHeartbeats 4000000
namespace K05
open PySem L2 Wc
local macro_rules | `(tactic| walk_at "lk") => `(tactic| first | with_reducible exact Look.here | (with_reducible apply Look.there; walk_at "lk"))
local macro_rules | `(tactic| walk_at "ul") => `(tactic| first | with_reducible exact UpL.here | (with_reducible apply UpL.there; walk_at "ul"))
local macro_rules | `(tactic| walk_at "ga") => `(tactic| first | exact GetAt.here | (apply GetAt.there; walk_at "ga"))
local macro_rules | `(tactic| walk_at "sa") => `(tactic| first | exact SetAt.here | (apply SetAt.there; walk_at "sa"))
local macro_rules | `(tactic| walk_at "hp") => `(tactic| first | assumption | (refine' KH.find ?k ?h; (case k => assumption); (case h => walk_at "lk")))
local macro_rules | `(tactic| walk_at "sql") => `(tactic| first | assumption | (refine' SqL.of ?h; (case h => walk_at "hp")) | (refine' Fr.sql (KH.fr ?k) ?n ?h; (case k => assumption); (case h => assumption); (case n => (simp; done))))
local macro_rules | `(tactic| walk_at "sqt") => `(tactic| first | assumption | (refine' SqT.of ?h; (case h => walk_at "hp")))
local macro_rules | `(tactic| walk_at "side") => `(tactic| first | exact (show (0 : Int) < _ by decide) | exact (show (0 : Int) < _ by omega) | exact ⟨by decide, by decide, by decide⟩ | exact ⟨by decide, by decide, by omega⟩ | exact ⟨by decide, by decide⟩ | exact ⟨by omega, by omega⟩ | exact Or.inl ⟨by omega, by omega⟩ | exact Or.inr ⟨by omega, by omega⟩)
local macro_rules | `(tactic| walk_at "siz") => `(tactic| first | (refine sz_of ?_; first | decide | omega | (simp; done) | (simp; omega)) | (refine sz_lt ?_; first | decide | omega | (simp; done) | (simp; omega)))
local macro_rules | `(tactic| walk_at "own") => `(tactic| first | (exact Or.inr (by assumption)) | (refine Or.inl ?_; simp; done))
local macro_rules | `(tactic| walk_at "al") => `(tactic| (refine' AllocO.mk ?k ?_; (case k => assumption); intro _ _ _ _))
local macro_rules | `(tactic| walk_at "up") => `(tactic| (refine' UpdO.mk ?k ?h ?m ?_; (case k => assumption); (case h => walk_at "ul"); (case m => walk_at "own"); intro _ _))
local macro_rules | `(tactic| walk_at "st") => `(tactic| first
  | ((with_reducible refine' r_var ?h ?_); (case h => walk_at "ga"))
  | (with_reducible refine' r_seq ?_) | (with_reducible refine' r_next ?_) | (with_reducible refine' r_asg ?_) | (with_reducible refine' r_drop ?_) | (with_reducible refine' r_ret ?_) | (with_reducible refine' r_retN ?_)
  | (with_reducible refine' r_ifs ?_) | (with_reducible refine' r_cont ?_) | (with_reducible refine' r_break ?_) | (with_reducible refine' r_c ?_) | (with_reducible refine' r_op ?_) | (with_reducible refine' r_un ?_)
  | (with_reducible refine' r_test ?_) | (with_reducible refine' r_tB ?_) | (with_reducible refine' r_not ?_) | (with_reducible refine' r_and ?_) | (with_reducible refine' r_or ?_) | (with_reducible refine' r_notV ?_)
  | (with_reducible refine' r_andV ?_) | (with_reducible refine' r_orV ?_) | (with_reducible refine' r_ifE ?_) | (with_reducible refine' r_bl ?_) | (with_reducible refine' r_nil ?_) | (with_reducible refine' r_cons ?_)
  | (with_reducible refine' r_tup ?_) | (with_reducible refine' r_lst ?_) | (with_reducible refine' r_cb ?_) | (with_reducible refine' r_call ?_) | ((with_reducible refine' r_name ?h ?_); (case h => walk_at "sa")) | (with_reducible refine' r_gnil ?_)
  | (with_reducible refine' r_gcons ?_) | (with_reducible refine' r_gsub ?_) | (with_reducible refine' r_par ?_) | (with_reducible refine' r_par2 ?_) | (with_reducible refine' r_I0 ?_) | (with_reducible refine' r_U ?_)
  | ((with_reducible refine' r_eq ?h ?_); (case h => rfl)) | ((with_reducible refine' r_ne ?h ?_); (case h => rfl))
  | ((with_reducible refine' r_ixL ?h ?a ?_); (case h => walk_at "sql"); (case a => rfl))
  | ((with_reducible refine' r_ixT ?h ?a ?_); (case h => walk_at "sqt"); (case a => rfl))
  | ((with_reducible refine' r_setL ?h ?a ?_); (case h => walk_at "hp"); (case a => rfl))
  | ((with_reducible refine' r_I ?c ?_); (case c => walk_at "side"))
  | (with_reducible refine' r_sl ?_) | (with_reducible refine' r_part ?_) | (with_reducible refine' r_nopart ?_) | (with_reducible refine' r_ii ?_)
  | ((with_reducible refine' r_slL ?h ?_); (case h => walk_at "sql"))
  | (with_reducible refine' r_bm ?_) | (with_reducible refine' r_bm0 ?_) | (with_reducible refine' r_int1 ?_) | (with_reducible refine' r_int1b ?_)
  | ((with_reducible refine' r_aug ?h ?_); (case h => walk_at "ga"))
  | ((with_reducible refine' r_cat ?a ?b ?z ?_); (case a => walk_at "hp"); (case b => walk_at "hp"); (case z => walk_at "siz"))
  | ((with_reducible refine' r_append ?a ?z ?_); (case a => walk_at "hp"); (case z => walk_at "siz"))
  | ((with_reducible refine' And.intro ?z ?_); (case z => first | walk_at "siz" | exact Or.inl ⟨rfl, _, by walk_at "sql"⟩))
  | ((with_reducible refine' r_gtup ?h ?l ?_); (case h => walk_at "sqt"); (case l => rfl))
  | (with_reducible refine' r_forL ?_) | (with_reducible refine' r_forE ?_) | (with_reducible refine' r_forR ?_) | ((with_reducible refine' r_forL2 ?h ?_); (case h => walk_at "sql")) | ((with_reducible refine' r_forE2 ?h ?_); (case h => walk_at "sql"))
  | (with_reducible refine' r_lcR ?_) | ((with_reducible refine' r_iteT ?h ?_); (case h => rfl)) | ((with_reducible refine' r_iteF ?h ?_); (case h => rfl))
  | (with_reducible refine' r_dnew ?_) | (with_reducible refine' r_vei ?_) | (with_reducible refine' r_ost ?_) | (with_reducible refine' r_mkV ?_) | (with_reducible refine' r_mkX ?_) | (with_reducible refine' r_xfld ?_)
  | ((with_reducible refine' MkG.mk ?o ?n ?k ?_); (case o => exact ErrOk.o (by assumption)); (case n => exact ErrOk.no (by assumption)); (case k => assumption); intro _ _ _ _)
  | ((with_reducible refine' AllocX.mk ?k ?_); (case k => assumption); intro _ _ _ _)
  | (walk_at "al") | (walk_at "up"))
local macro_rules | `(tactic| walk_at "go") => `(tactic| repeat walk_at "st")

section
variable {P : Program} {w : World} {K : PySem.W.Frag} {mg : Str → Option Value} {base : Heap} {f : Addr} {fd : FuncData}
/-- what the written part says of the errors' classes -/
structure Ks (K : PySem.W.Frag) (mg : Str → Option Value) : Prop where
  kit : ∀ x, x ∈ kinds → ∀ y, y ∈ kinds → PySem.W.kitOne K (.ref (He.ga K x)) (.ref (He.ga K y)) = some (decide (x = y))
  is_ : ∀ x, x ∈ kinds → ExIs K (He.ga K x)
  rd : ∀ x, x ∈ kinds → ExRd K (He.ga K x)
  sb : ∀ x, x ∈ kinds → PySem.W.subIn K (.ref (He.ga K x)) (.type "BaseException") = some true
  up : ∀ x, x ∈ kinds → PySem.W.kitOne K (.ref (He.ga K x)) (.ref (He.ga K "WorldError")) = some true
  ve : ∀ x, x ∈ kinds → PySem.W.kitOne K (.ref (He.ga K x)) (.type "ValueError") = some true
  glo : ∀ x, x ∈ kinds → mg x = some (.ref (He.ga K x))
local macro_rules | `(tactic| walk_at "xf") => `(tactic| (refine' r_xf ?a ?b ?c ?d ?e ?_; (case a => walk_at "hp"); (case b => walk_at "hp"); (case c => exact Ks.rd (by assumption) _ (by decide +kernel)); (case d => exact ErrOk.o (by assumption)); (case e => exact ErrOk.no (by assumption))))
abbrev FnI (K : PySem.W.Frag) (q : Str) (st : Stmt) (f : Addr) (fd : FuncData) : Prop := FunD K "__init__" q (defArgs st) (defBody st) (defScope st) [] [] f fd
theorem ok_init_NoWorld {C Wa : Addr} (F : FnI K "NoWorld.__init__" s_NoWorld_init f fd) (W : BaseIn K Wa) (gW : mg "WorldError" = some (.ref Wa)) : FnOk P w K mg base CX0 1 f fd ["self", "world"] (spInit K C "world") := by
  refine F.ok sc_NoWorld_init (fun vs H Q E h => ?_) (fun cdv A outer s H vs Q E hr h => ?_)
  · obtain ⟨a, v, rfl, _⟩ := h
    rfl
  · refine ⟨_, PSs.nox (pss_cons (ps_expr (pe_winit (by rfl) gW W (pa_cons (pv 0) (pa_cons pe_str pa_nil))))
      (pss_one (ps_ost (pv 0) (pv 1)))), ?_⟩
    obtain ⟨a, v, rfl, ha, o, no, k⟩ := h
    walk_at "go"
    refine ⟨a, C, _, rfl, by simp, o, ha, ?_⟩
    walk_at "go"
    exact ⟨a, C, rfl, o, no, .inl ⟨ha, fun d hd ne => k d hd ne⟩⟩
theorem ok_init_NoClass {C Wa : Addr} (F : FnI K "NoClass.__init__" s_NoClass_init f fd) (W : BaseIn K Wa) (gW : mg "WorldError" = some (.ref Wa)) : FnOk P w K mg base CX0 1 f fd ["self", "name"] (spInit K C "name") := by
  refine F.ok sc_NoClass_init (fun vs H Q E h => ?_) (fun cdv A outer s H vs Q E hr h => ?_)
  · obtain ⟨a, v, rfl, _⟩ := h
    rfl
  · refine ⟨_, PSs.nox (pss_cons (ps_expr (pe_winit (by rfl) gW W (pa_cons (pv 0) (pa_cons pe_str pa_nil))))
      (pss_one (ps_ost (pv 0) (pv 1)))), ?_⟩
    obtain ⟨a, v, rfl, ha, o, no, k⟩ := h
    walk_at "go"
    refine ⟨a, C, _, rfl, by simp, o, ha, ?_⟩
    walk_at "go"
    exact ⟨a, C, rfl, o, no, .inl ⟨ha, fun d hd ne => k d hd ne⟩⟩
theorem ok_init_Taken {C Wa : Addr} (F : FnI K "Taken.__init__" s_Taken_init f fd) (W : BaseIn K Wa) (gW : mg "WorldError" = some (.ref Wa)) : FnOk P w K mg base CX0 1 f fd ["self", "name"] (spInit K C "name") := by
  refine F.ok sc_Taken_init (fun vs H Q E h => ?_) (fun cdv A outer s H vs Q E hr h => ?_)
  · obtain ⟨a, v, rfl, _⟩ := h
    rfl
  · refine ⟨_, PSs.nox (pss_cons (ps_expr (pe_winit (by rfl) gW W (pa_cons (pv 0) (pa_cons pe_str pa_nil))))
      (pss_one (ps_ost (pv 0) (pv 1)))), ?_⟩
    obtain ⟨a, v, rfl, ha, o, no, k⟩ := h
    walk_at "go"
    refine ⟨a, C, _, rfl, by simp, o, ha, ?_⟩
    walk_at "go"
    exact ⟨a, C, rfl, o, no, .inl ⟨ha, fun d hd ne => k d hd ne⟩⟩
theorem ok_init_NoField {C Wa : Addr} (F : FnI K "NoField.__init__" s_NoField_init f fd) (W : BaseIn K Wa) (gW : mg "WorldError" = some (.ref Wa)) : FnOk P w K mg base CX0 1 f fd ["self", "field"] (spInit K C "field") := by
  refine F.ok sc_NoField_init (fun vs H Q E h => ?_) (fun cdv A outer s H vs Q E hr h => ?_)
  · obtain ⟨a, v, rfl, _⟩ := h
    rfl
  · refine ⟨_, PSs.nox (pss_cons (ps_expr (pe_winit (by rfl) gW W (pa_cons (pv 0) (pa_cons pe_str pa_nil))))
      (pss_one (ps_ost (pv 0) (pv 1)))), ?_⟩
    obtain ⟨a, v, rfl, ha, o, no, k⟩ := h
    walk_at "go"
    refine ⟨a, C, _, rfl, by simp, o, ha, ?_⟩
    walk_at "go"
    exact ⟨a, C, rfl, o, no, .inl ⟨ha, fun d hd ne => k d hd ne⟩⟩
theorem ok_init_NoCount {C Wa : Addr} (F : FnI K "NoCount.__init__" s_NoCount_init f fd) (W : BaseIn K Wa) (gW : mg "WorldError" = some (.ref Wa)) : FnOk P w K mg base CX0 1 f fd ["self", "count"] (spInit K C "count") := by
  refine F.ok sc_NoCount_init (fun vs H Q E h => ?_) (fun cdv A outer s H vs Q E hr h => ?_)
  · obtain ⟨a, v, rfl, _⟩ := h
    rfl
  · refine ⟨_, PSs.nox (pss_cons (ps_expr (pe_winit (by rfl) gW W (pa_cons (pv 0) (pa_cons pe_str pa_nil))))
      (pss_one (ps_ost (pv 0) (pv 1)))), ?_⟩
    obtain ⟨a, v, rfl, ha, o, no, k⟩ := h
    walk_at "go"
    refine ⟨a, C, _, rfl, by simp, o, ha, ?_⟩
    walk_at "go"
    exact ⟨a, C, rfl, o, no, .inl ⟨ha, fun d hd ne => k d hd ne⟩⟩
theorem ok_init_NoBody {C Wa : Addr} (F : FnI K "NoBody.__init__" s_NoBody_init f fd) (W : BaseIn K Wa) (gW : mg "WorldError" = some (.ref Wa)) : FnOk P w K mg base CX0 1 f fd ["self", "path"] (spInit K C "path") := by
  refine F.ok sc_NoBody_init (fun vs H Q E h => ?_) (fun cdv A outer s H vs Q E hr h => ?_)
  · obtain ⟨a, v, rfl, _⟩ := h
    rfl
  · refine ⟨_, PSs.nox (pss_cons (ps_expr (pe_winit (by rfl) gW W (pa_cons (pv 0) (pa_cons pe_str pa_nil))))
      (pss_one (ps_ost (pv 0) (pv 1)))), ?_⟩
    obtain ⟨a, v, rfl, ha, o, no, k⟩ := h
    walk_at "go"
    refine ⟨a, C, _, rfl, by simp, o, ha, ?_⟩
    walk_at "go"
    exact ⟨a, C, rfl, o, no, .inl ⟨ha, fun d hd ne => k d hd ne⟩⟩
theorem ok_init_NoParts {C Wa : Addr} (F : FnI K "NoParts.__init__" s_NoParts_init f fd) (W : BaseIn K Wa) (gW : mg "WorldError" = some (.ref Wa)) : FnOk P w K mg base CX0 1 f fd ["self", "parts"] (spInit K C "parts") := by
  refine F.ok sc_NoParts_init (fun vs H Q E h => ?_) (fun cdv A outer s H vs Q E hr h => ?_)
  · obtain ⟨a, v, rfl, _⟩ := h
    rfl
  · refine ⟨_, PSs.nox (pss_cons (ps_expr (pe_winit (by rfl) gW W (pa_cons (pv 0) (pa_cons pe_str pa_nil))))
      (pss_one (ps_ost (pv 0) (pv 1)))), ?_⟩
    obtain ⟨a, v, rfl, ha, o, no, k⟩ := h
    walk_at "go"
    refine ⟨a, C, _, rfl, by simp, o, ha, ?_⟩
    walk_at "go"
    exact ⟨a, C, rfl, o, no, .inl ⟨ha, fun d hd ne => k d hd ne⟩⟩
theorem ok_init_NoFit {C Wa : Addr} (F : FnI K "NoFit.__init__" s_NoFit_init f fd) (W : BaseIn K Wa) (gW : mg "WorldError" = some (.ref Wa)) : FnOk P w K mg base CX0 1 f fd ["self", "field"] (spInit K C "field") := by
  refine F.ok sc_NoFit_init (fun vs H Q E h => ?_) (fun cdv A outer s H vs Q E hr h => ?_)
  · obtain ⟨a, v, rfl, _⟩ := h
    rfl
  · refine ⟨_, PSs.nox (pss_cons (ps_expr (pe_winit (by rfl) gW W (pa_cons (pv 0) (pa_cons pe_str pa_nil))))
      (pss_one (ps_ost (pv 0) (pv 1)))), ?_⟩
    obtain ⟨a, v, rfl, ha, o, no, k⟩ := h
    walk_at "go"
    refine ⟨a, C, _, rfl, by simp, o, ha, ?_⟩
    walk_at "go"
    exact ⟨a, C, rfl, o, no, .inl ⟨ha, fun d hd ne => k d hd ne⟩⟩
theorem ok_init_NoFunction {C Wa : Addr} (F : FnI K "NoFunction.__init__" s_NoFunction_init f fd) (W : BaseIn K Wa) (gW : mg "WorldError" = some (.ref Wa)) : FnOk P w K mg base CX0 1 f fd ["self", "function"] (spInit K C "function") := by
  refine F.ok sc_NoFunction_init (fun vs H Q E h => ?_) (fun cdv A outer s H vs Q E hr h => ?_)
  · obtain ⟨a, v, rfl, _⟩ := h
    rfl
  · refine ⟨_, PSs.nox (pss_cons (ps_expr (pe_winit (by rfl) gW W (pa_cons (pv 0) (pa_cons pe_str pa_nil))))
      (pss_one (ps_ost (pv 0) (pv 1)))), ?_⟩
    obtain ⟨a, v, rfl, ha, o, no, k⟩ := h
    walk_at "go"
    refine ⟨a, C, _, rfl, by simp, o, ha, ?_⟩
    walk_at "go"
    exact ⟨a, C, rfl, o, no, .inl ⟨ha, fun d hd ne => k d hd ne⟩⟩
theorem ok_init_NoSignature {C Wa : Addr} (F : FnI K "NoSignature.__init__" s_NoSignature_init f fd) (W : BaseIn K Wa) (gW : mg "WorldError" = some (.ref Wa)) : FnOk P w K mg base CX0 1 f fd ["self", "signature"] (spInit K C "signature") := by
  refine F.ok sc_NoSignature_init (fun vs H Q E h => ?_) (fun cdv A outer s H vs Q E hr h => ?_)
  · obtain ⟨a, v, rfl, _⟩ := h
    rfl
  · refine ⟨_, PSs.nox (pss_cons (ps_expr (pe_winit (by rfl) gW W (pa_cons (pv 0) (pa_cons pe_str pa_nil))))
      (pss_one (ps_ost (pv 0) (pv 1)))), ?_⟩
    obtain ⟨a, v, rfl, ha, o, no, k⟩ := h
    walk_at "go"
    refine ⟨a, C, _, rfl, by simp, o, ha, ?_⟩
    walk_at "go"
    exact ⟨a, C, rfl, o, no, .inl ⟨ha, fun d hd ne => k d hd ne⟩⟩
theorem ok_init_NotThere {C Wa : Addr} (F : FnI K "NotThere.__init__" s_NotThere_init f fd) (W : BaseIn K Wa) (gW : mg "WorldError" = some (.ref Wa)) : FnOk P w K mg base CX0 1 f fd ["self", "signature"] (spInit K C "signature") := by
  refine F.ok sc_NotThere_init (fun vs H Q E h => ?_) (fun cdv A outer s H vs Q E hr h => ?_)
  · obtain ⟨a, v, rfl, _⟩ := h
    rfl
  · refine ⟨_, PSs.nox (pss_cons (ps_expr (pe_winit (by rfl) gW W (pa_cons (pv 0) (pa_cons pe_str pa_nil))))
      (pss_one (ps_ost (pv 0) (pv 1)))), ?_⟩
    obtain ⟨a, v, rfl, ha, o, no, k⟩ := h
    walk_at "go"
    refine ⟨a, C, _, rfl, by simp, o, ha, ?_⟩
    walk_at "go"
    exact ⟨a, C, rfl, o, no, .inl ⟨ha, fun d hd ne => k d hd ne⟩⟩
theorem ok_init_NoMethod {C Wa : Addr} (F : FnI K "NoMethod.__init__" s_NoMethod_init f fd) (W : BaseIn K Wa) (gW : mg "WorldError" = some (.ref Wa)) : FnOk P w K mg base CX0 1 f fd ["self", "call"] (spInit K C "call") := by
  refine F.ok sc_NoMethod_init (fun vs H Q E h => ?_) (fun cdv A outer s H vs Q E hr h => ?_)
  · obtain ⟨a, v, rfl, _⟩ := h
    rfl
  · refine ⟨_, PSs.nox (pss_cons (ps_expr (pe_winit (by rfl) gW W (pa_cons (pv 0) (pa_cons pe_str pa_nil))))
      (pss_one (ps_ost (pv 0) (pv 1)))), ?_⟩
    obtain ⟨a, v, rfl, ha, o, no, k⟩ := h
    walk_at "go"
    refine ⟨a, C, _, rfl, by simp, o, ha, ?_⟩
    walk_at "go"
    exact ⟨a, C, rfl, o, no, .inl ⟨ha, fun d hd ne => k d hd ne⟩⟩
theorem ok_init_Ambiguous {C Wa : Addr} (F : FnI K "Ambiguous.__init__" s_Ambiguous_init f fd) (W : BaseIn K Wa) (gW : mg "WorldError" = some (.ref Wa)) : FnOk P w K mg base CX0 1 f fd ["self", "call"] (spInit K C "call") := by
  refine F.ok sc_Ambiguous_init (fun vs H Q E h => ?_) (fun cdv A outer s H vs Q E hr h => ?_)
  · obtain ⟨a, v, rfl, _⟩ := h
    rfl
  · refine ⟨_, PSs.nox (pss_cons (ps_expr (pe_winit (by rfl) gW W (pa_cons (pv 0) (pa_cons pe_str pa_nil))))
      (pss_one (ps_ost (pv 0) (pv 1)))), ?_⟩
    obtain ⟨a, v, rfl, ha, o, no, k⟩ := h
    walk_at "go"
    refine ⟨a, C, _, rfl, by simp, o, ha, ?_⟩
    walk_at "go"
    exact ⟨a, C, rfl, o, no, .inl ⟨ha, fun d hd ne => k d hd ne⟩⟩
theorem ok_init_NoValues {C Wa : Addr} (F : FnI K "NoValues.__init__" s_NoValues_init f fd) (W : BaseIn K Wa) (gW : mg "WorldError" = some (.ref Wa)) : FnOk P w K mg base CX0 1 f fd ["self", "given"] (spInit K C "given") := by
  refine F.ok sc_NoValues_init (fun vs H Q E h => ?_) (fun cdv A outer s H vs Q E hr h => ?_)
  · obtain ⟨a, v, rfl, _⟩ := h
    rfl
  · refine ⟨_, PSs.nox (pss_cons (ps_expr (pe_winit (by rfl) gW W (pa_cons (pv 0) (pa_cons pe_str pa_nil))))
      (pss_one (ps_ost (pv 0) (pv 1)))), ?_⟩
    obtain ⟨a, v, rfl, ha, o, no, k⟩ := h
    walk_at "go"
    refine ⟨a, C, _, rfl, by simp, o, ha, ?_⟩
    walk_at "go"
    exact ⟨a, C, rfl, o, no, .inl ⟨ha, fun d hd ne => k d hd ne⟩⟩
theorem ok_init_NoSteps {C Wa : Addr} (F : FnI K "NoSteps.__init__" s_NoSteps_init f fd) (W : BaseIn K Wa) (gW : mg "WorldError" = some (.ref Wa)) : FnOk P w K mg base CX0 1 f fd ["self", "steps"] (spInit K C "steps") := by
  refine F.ok sc_NoSteps_init (fun vs H Q E h => ?_) (fun cdv A outer s H vs Q E hr h => ?_)
  · obtain ⟨a, v, rfl, _⟩ := h
    rfl
  · refine ⟨_, PSs.nox (pss_cons (ps_expr (pe_winit (by rfl) gW W (pa_cons (pv 0) (pa_cons pe_str pa_nil))))
      (pss_one (ps_ost (pv 0) (pv 1)))), ?_⟩
    obtain ⟨a, v, rfl, ha, o, no, k⟩ := h
    walk_at "go"
    refine ⟨a, C, _, rfl, by simp, o, ha, ?_⟩
    walk_at "go"
    exact ⟨a, C, rfl, o, no, .inl ⟨ha, fun d hd ne => k d hd ne⟩⟩
theorem ok_init_NoTask {C Wa : Addr} (F : FnI K "NoTask.__init__" s_NoTask_init f fd) (W : BaseIn K Wa) (gW : mg "WorldError" = some (.ref Wa)) : FnOk P w K mg base CX0 1 f fd ["self", "task"] (spInit K C "task") := by
  refine F.ok sc_NoTask_init (fun vs H Q E h => ?_) (fun cdv A outer s H vs Q E hr h => ?_)
  · obtain ⟨a, v, rfl, _⟩ := h
    rfl
  · refine ⟨_, PSs.nox (pss_cons (ps_expr (pe_winit (by rfl) gW W (pa_cons (pv 0) (pa_cons pe_str pa_nil))))
      (pss_one (ps_ost (pv 0) (pv 1)))), ?_⟩
    obtain ⟨a, v, rfl, ha, o, no, k⟩ := h
    walk_at "go"
    refine ⟨a, C, _, rfl, by simp, o, ha, ?_⟩
    walk_at "go"
    exact ⟨a, C, rfl, o, no, .inl ⟨ha, fun d hd ne => k d hd ne⟩⟩
theorem ok_init_NoEntry {C Wa : Addr} (F : FnI K "NoEntry.__init__" s_NoEntry_init f fd) (W : BaseIn K Wa) (gW : mg "WorldError" = some (.ref Wa)) : FnOk P w K mg base CX0 1 f fd ["self", "number"] (spInit K C "number") := by
  refine F.ok sc_NoEntry_init (fun vs H Q E h => ?_) (fun cdv A outer s H vs Q E hr h => ?_)
  · obtain ⟨a, v, rfl, _⟩ := h
    rfl
  · refine ⟨_, PSs.nox (pss_cons (ps_expr (pe_winit (by rfl) gW W (pa_cons (pv 0) (pa_cons pe_str pa_nil))))
      (pss_one (ps_ost (pv 0) (pv 1)))), ?_⟩
    obtain ⟨a, v, rfl, ha, o, no, k⟩ := h
    walk_at "go"
    refine ⟨a, C, _, rfl, by simp, o, ha, ?_⟩
    walk_at "go"
    exact ⟨a, C, rfl, o, no, .inl ⟨ha, fun d hd ne => k d hd ne⟩⟩
theorem ok_init_NoChange {C Wa : Addr} (F : FnI K "NoChange.__init__" s_NoChange_init f fd) (W : BaseIn K Wa) (gW : mg "WorldError" = some (.ref Wa)) : FnOk P w K mg base CX0 1 f fd ["self", "at"] (spInit K C "at") := by
  refine F.ok sc_NoChange_init (fun vs H Q E h => ?_) (fun cdv A outer s H vs Q E hr h => ?_)
  · obtain ⟨a, v, rfl, _⟩ := h
    rfl
  · refine ⟨_, PSs.nox (pss_cons (ps_expr (pe_winit (by rfl) gW W (pa_cons (pv 0) (pa_cons pe_str pa_nil))))
      (pss_one (ps_ost (pv 0) (pv 1)))), ?_⟩
    obtain ⟨a, v, rfl, ha, o, no, k⟩ := h
    walk_at "go"
    refine ⟨a, C, _, rfl, by simp, o, ha, ?_⟩
    walk_at "go"
    exact ⟨a, C, rfl, o, no, .inl ⟨ha, fun d hd ne => k d hd ne⟩⟩
theorem ok_init_NoStep {C Wa : Addr} (F : FnI K "NoStep.__init__" s_NoStep_init f fd) (W : BaseIn K Wa) (gW : mg "WorldError" = some (.ref Wa)) : FnOk P w K mg base CX0 1 f fd ["self", "at"] (spInit K C "at") := by
  refine F.ok sc_NoStep_init (fun vs H Q E h => ?_) (fun cdv A outer s H vs Q E hr h => ?_)
  · obtain ⟨a, v, rfl, _⟩ := h
    rfl
  · refine ⟨_, PSs.nox (pss_cons (ps_expr (pe_winit (by rfl) gW W (pa_cons (pv 0) (pa_cons pe_str pa_nil))))
      (pss_one (ps_ost (pv 0) (pv 1)))), ?_⟩
    obtain ⟨a, v, rfl, ha, o, no, k⟩ := h
    walk_at "go"
    refine ⟨a, C, _, rfl, by simp, o, ha, ?_⟩
    walk_at "go"
    exact ⟨a, C, rfl, o, no, .inl ⟨ha, fun d hd ne => k d hd ne⟩⟩
/-- of which of the kinds it is -/
def spKinds (K : PySem.W.Frag) : Sp := fun vs H Q _ => ∃ (e : Addr) (x : Str), vs = [.ref e] ∧ x ∈ kinds ∧ ExAt H e (He.ga K x) ∧ ∀ (p : Addr) (H' : Hp), H p = none → Ext H H' → H' p = some (.lst (kinds.map fun y => V.bl (decide (x = y)))) → Q (.ref p) H'
theorem ok_kinds (F : FnP K "_law_kinds" s_l_kinds f fd) (T : Bt mg) (S : Ks K mg) : FnOk P w K mg base CX0 1 f fd ["_law_error"] (spKinds K) := by
  refine F.ok sc_l_kinds (fun vs H Q E h => ?_) (fun cdv A outer s H vs Q E hr h => ?_)
  · obtain ⟨e, x, rfl, _⟩ := h
    rfl
  · refine ⟨_, PSs.nox (pss_cons (ps_set (i := 1) sc_l_kinds.nd rfl (by first | exact Or.inl rfl | exact Or.inr rfl) (pe_lst (pa_cons (pe_callB call_isiE (by rfl) T.f_isinstance PyProof.Rows.boot_isinstance (pa_cons (pv 0) (pa_cons (pe_glob (v := .ref (He.ga K "NoWorld")) (by rfl) (S.glo "NoWorld" (by decide +kernel)) rfl) pa_nil))) (pa_cons (pe_callB call_isiE (by rfl) T.f_isinstance PyProof.Rows.boot_isinstance (pa_cons (pv 0) (pa_cons (pe_glob (v := .ref (He.ga K "NoClass")) (by rfl) (S.glo "NoClass" (by decide +kernel)) rfl) pa_nil))) (pa_cons (pe_callB call_isiE (by rfl) T.f_isinstance PyProof.Rows.boot_isinstance (pa_cons (pv 0) (pa_cons (pe_glob (v := .ref (He.ga K "Taken")) (by rfl) (S.glo "Taken" (by decide +kernel)) rfl) pa_nil))) pa_nil)))))
      (pss_cons (ps_set (i := 1) sc_l_kinds.nd rfl (by first | exact Or.inl rfl | exact Or.inr rfl) (pe_op op_cat (pv 1) (pe_lst (pa_cons (pe_callB call_isiE (by rfl) T.f_isinstance PyProof.Rows.boot_isinstance (pa_cons (pv 0) (pa_cons (pe_glob (v := .ref (He.ga K "NoField")) (by rfl) (S.glo "NoField" (by decide +kernel)) rfl) pa_nil))) (pa_cons (pe_callB call_isiE (by rfl) T.f_isinstance PyProof.Rows.boot_isinstance (pa_cons (pv 0) (pa_cons (pe_glob (v := .ref (He.ga K "NoCount")) (by rfl) (S.glo "NoCount" (by decide +kernel)) rfl) pa_nil))) (pa_cons (pe_callB call_isiE (by rfl) T.f_isinstance PyProof.Rows.boot_isinstance (pa_cons (pv 0) (pa_cons (pe_glob (v := .ref (He.ga K "NoBody")) (by rfl) (S.glo "NoBody" (by decide +kernel)) rfl) pa_nil))) pa_nil))))))
      (pss_cons (ps_set (i := 1) sc_l_kinds.nd rfl (by first | exact Or.inl rfl | exact Or.inr rfl) (pe_op op_cat (pv 1) (pe_lst (pa_cons (pe_callB call_isiE (by rfl) T.f_isinstance PyProof.Rows.boot_isinstance (pa_cons (pv 0) (pa_cons (pe_glob (v := .ref (He.ga K "NoParts")) (by rfl) (S.glo "NoParts" (by decide +kernel)) rfl) pa_nil))) (pa_cons (pe_callB call_isiE (by rfl) T.f_isinstance PyProof.Rows.boot_isinstance (pa_cons (pv 0) (pa_cons (pe_glob (v := .ref (He.ga K "NoFit")) (by rfl) (S.glo "NoFit" (by decide +kernel)) rfl) pa_nil))) (pa_cons (pe_callB call_isiE (by rfl) T.f_isinstance PyProof.Rows.boot_isinstance (pa_cons (pv 0) (pa_cons (pe_glob (v := .ref (He.ga K "NoFunction")) (by rfl) (S.glo "NoFunction" (by decide +kernel)) rfl) pa_nil))) pa_nil))))))
      (pss_cons (ps_set (i := 1) sc_l_kinds.nd rfl (by first | exact Or.inl rfl | exact Or.inr rfl) (pe_op op_cat (pv 1) (pe_lst (pa_cons (pe_callB call_isiE (by rfl) T.f_isinstance PyProof.Rows.boot_isinstance (pa_cons (pv 0) (pa_cons (pe_glob (v := .ref (He.ga K "NoSignature")) (by rfl) (S.glo "NoSignature" (by decide +kernel)) rfl) pa_nil))) (pa_cons (pe_callB call_isiE (by rfl) T.f_isinstance PyProof.Rows.boot_isinstance (pa_cons (pv 0) (pa_cons (pe_glob (v := .ref (He.ga K "NotThere")) (by rfl) (S.glo "NotThere" (by decide +kernel)) rfl) pa_nil))) (pa_cons (pe_callB call_isiE (by rfl) T.f_isinstance PyProof.Rows.boot_isinstance (pa_cons (pv 0) (pa_cons (pe_glob (v := .ref (He.ga K "NoMethod")) (by rfl) (S.glo "NoMethod" (by decide +kernel)) rfl) pa_nil))) pa_nil))))))
      (pss_cons (ps_set (i := 1) sc_l_kinds.nd rfl (by first | exact Or.inl rfl | exact Or.inr rfl) (pe_op op_cat (pv 1) (pe_lst (pa_cons (pe_callB call_isiE (by rfl) T.f_isinstance PyProof.Rows.boot_isinstance (pa_cons (pv 0) (pa_cons (pe_glob (v := .ref (He.ga K "Ambiguous")) (by rfl) (S.glo "Ambiguous" (by decide +kernel)) rfl) pa_nil))) (pa_cons (pe_callB call_isiE (by rfl) T.f_isinstance PyProof.Rows.boot_isinstance (pa_cons (pv 0) (pa_cons (pe_glob (v := .ref (He.ga K "NoValues")) (by rfl) (S.glo "NoValues" (by decide +kernel)) rfl) pa_nil))) (pa_cons (pe_callB call_isiE (by rfl) T.f_isinstance PyProof.Rows.boot_isinstance (pa_cons (pv 0) (pa_cons (pe_glob (v := .ref (He.ga K "NoSteps")) (by rfl) (S.glo "NoSteps" (by decide +kernel)) rfl) pa_nil))) pa_nil))))))
      (pss_cons (ps_set (i := 1) sc_l_kinds.nd rfl (by first | exact Or.inl rfl | exact Or.inr rfl) (pe_op op_cat (pv 1) (pe_lst (pa_cons (pe_callB call_isiE (by rfl) T.f_isinstance PyProof.Rows.boot_isinstance (pa_cons (pv 0) (pa_cons (pe_glob (v := .ref (He.ga K "NoTask")) (by rfl) (S.glo "NoTask" (by decide +kernel)) rfl) pa_nil))) (pa_cons (pe_callB call_isiE (by rfl) T.f_isinstance PyProof.Rows.boot_isinstance (pa_cons (pv 0) (pa_cons (pe_glob (v := .ref (He.ga K "NoEntry")) (by rfl) (S.glo "NoEntry" (by decide +kernel)) rfl) pa_nil))) (pa_cons (pe_callB call_isiE (by rfl) T.f_isinstance PyProof.Rows.boot_isinstance (pa_cons (pv 0) (pa_cons (pe_glob (v := .ref (He.ga K "NoChange")) (by rfl) (S.glo "NoChange" (by decide +kernel)) rfl) pa_nil))) pa_nil))))))
      (pss_cons (ps_set (i := 1) sc_l_kinds.nd rfl (by first | exact Or.inl rfl | exact Or.inr rfl) (pe_op op_cat (pv 1) (pe_lst (pa_cons (pe_callB call_isiE (by rfl) T.f_isinstance PyProof.Rows.boot_isinstance (pa_cons (pv 0) (pa_cons (pe_glob (v := .ref (He.ga K "NoStep")) (by rfl) (S.glo "NoStep" (by decide +kernel)) rfl) pa_nil))) (pa_cons (pe_callB call_isiE (by rfl) T.f_isinstance PyProof.Rows.boot_isinstance (pa_cons (pv 0) (pa_cons (pe_glob (v := .ref (He.ga K "NotInt")) (by rfl) (S.glo "NotInt" (by decide +kernel)) rfl) pa_nil))) (pa_cons (pe_callB call_isiE (by rfl) T.f_isinstance PyProof.Rows.boot_isinstance (pa_cons (pv 0) (pa_cons (pe_glob (v := .ref (He.ga K "TooLong")) (by rfl) (S.glo "TooLong" (by decide +kernel)) rfl) pa_nil))) pa_nil))))))
      (pss_one (ps_ret (pe_op op_cat (pv 1) (pe_lst (pa_cons (pe_callB call_isiE (by rfl) T.f_isinstance PyProof.Rows.boot_isinstance (pa_cons (pv 0) (pa_cons (pe_glob (v := .ref (He.ga K "TooDeep")) (by rfl) (S.glo "TooDeep" (by decide +kernel)) rfl) pa_nil))) (pa_cons (pe_callB call_isiE (by rfl) T.f_isinstance PyProof.Rows.boot_isinstance (pa_cons (pv 0) (pa_cons (pe_glob (v := .ref (He.ga K "NotEnded")) (by rfl) (S.glo "NotEnded" (by decide +kernel)) rfl) pa_nil))) (pa_cons (pe_callB call_isiE (by rfl) T.f_isinstance PyProof.Rows.boot_isinstance (pa_cons (pv 0) (pa_cons (pe_glob (v := .ref (He.ga K "NoRows")) (by rfl) (S.glo "NoRows" (by decide +kernel)) rfl) pa_nil))) pa_nil)))))))))))))), ?_⟩
    obtain ⟨e, x, rfl, xm, hx, k⟩ := h
    have kh := KH.start (H := H)
    walk_at "go"
    refine r_isiE (.own _) (hx.ext (KH.extE (by assumption))) (S.is_ x xm) (S.rd x xm) (S.sb x xm) (S.kit x xm "NoWorld" (by decide +kernel)) ?_
    walk_at "go"
    refine r_isiE (.own _) (hx.ext (KH.extE (by assumption))) (S.is_ x xm) (S.rd x xm) (S.sb x xm) (S.kit x xm "NoClass" (by decide +kernel)) ?_
    walk_at "go"
    refine r_isiE (.own _) (hx.ext (KH.extE (by assumption))) (S.is_ x xm) (S.rd x xm) (S.sb x xm) (S.kit x xm "Taken" (by decide +kernel)) ?_
    walk_at "go"
    refine r_isiE (.own _) (hx.ext (KH.extE (by assumption))) (S.is_ x xm) (S.rd x xm) (S.sb x xm) (S.kit x xm "NoField" (by decide +kernel)) ?_
    walk_at "go"
    refine r_isiE (.own _) (hx.ext (KH.extE (by assumption))) (S.is_ x xm) (S.rd x xm) (S.sb x xm) (S.kit x xm "NoCount" (by decide +kernel)) ?_
    walk_at "go"
    refine r_isiE (.own _) (hx.ext (KH.extE (by assumption))) (S.is_ x xm) (S.rd x xm) (S.sb x xm) (S.kit x xm "NoBody" (by decide +kernel)) ?_
    walk_at "go"
    refine r_isiE (.own _) (hx.ext (KH.extE (by assumption))) (S.is_ x xm) (S.rd x xm) (S.sb x xm) (S.kit x xm "NoParts" (by decide +kernel)) ?_
    walk_at "go"
    refine r_isiE (.own _) (hx.ext (KH.extE (by assumption))) (S.is_ x xm) (S.rd x xm) (S.sb x xm) (S.kit x xm "NoFit" (by decide +kernel)) ?_
    walk_at "go"
    refine r_isiE (.own _) (hx.ext (KH.extE (by assumption))) (S.is_ x xm) (S.rd x xm) (S.sb x xm) (S.kit x xm "NoFunction" (by decide +kernel)) ?_
    walk_at "go"
    refine r_isiE (.own _) (hx.ext (KH.extE (by assumption))) (S.is_ x xm) (S.rd x xm) (S.sb x xm) (S.kit x xm "NoSignature" (by decide +kernel)) ?_
    walk_at "go"
    refine r_isiE (.own _) (hx.ext (KH.extE (by assumption))) (S.is_ x xm) (S.rd x xm) (S.sb x xm) (S.kit x xm "NotThere" (by decide +kernel)) ?_
    walk_at "go"
    refine r_isiE (.own _) (hx.ext (KH.extE (by assumption))) (S.is_ x xm) (S.rd x xm) (S.sb x xm) (S.kit x xm "NoMethod" (by decide +kernel)) ?_
    walk_at "go"
    refine r_isiE (.own _) (hx.ext (KH.extE (by assumption))) (S.is_ x xm) (S.rd x xm) (S.sb x xm) (S.kit x xm "Ambiguous" (by decide +kernel)) ?_
    walk_at "go"
    refine r_isiE (.own _) (hx.ext (KH.extE (by assumption))) (S.is_ x xm) (S.rd x xm) (S.sb x xm) (S.kit x xm "NoValues" (by decide +kernel)) ?_
    walk_at "go"
    refine r_isiE (.own _) (hx.ext (KH.extE (by assumption))) (S.is_ x xm) (S.rd x xm) (S.sb x xm) (S.kit x xm "NoSteps" (by decide +kernel)) ?_
    walk_at "go"
    refine r_isiE (.own _) (hx.ext (KH.extE (by assumption))) (S.is_ x xm) (S.rd x xm) (S.sb x xm) (S.kit x xm "NoTask" (by decide +kernel)) ?_
    walk_at "go"
    refine r_isiE (.own _) (hx.ext (KH.extE (by assumption))) (S.is_ x xm) (S.rd x xm) (S.sb x xm) (S.kit x xm "NoEntry" (by decide +kernel)) ?_
    walk_at "go"
    refine r_isiE (.own _) (hx.ext (KH.extE (by assumption))) (S.is_ x xm) (S.rd x xm) (S.sb x xm) (S.kit x xm "NoChange" (by decide +kernel)) ?_
    walk_at "go"
    refine r_isiE (.own _) (hx.ext (KH.extE (by assumption))) (S.is_ x xm) (S.rd x xm) (S.sb x xm) (S.kit x xm "NoStep" (by decide +kernel)) ?_
    walk_at "go"
    refine r_isiE (.own _) (hx.ext (KH.extE (by assumption))) (S.is_ x xm) (S.rd x xm) (S.sb x xm) (S.kit x xm "NotInt" (by decide +kernel)) ?_
    walk_at "go"
    refine r_isiE (.own _) (hx.ext (KH.extE (by assumption))) (S.is_ x xm) (S.rd x xm) (S.sb x xm) (S.kit x xm "TooLong" (by decide +kernel)) ?_
    walk_at "go"
    refine r_isiE (.own _) (hx.ext (KH.extE (by assumption))) (S.is_ x xm) (S.rd x xm) (S.sb x xm) (S.kit x xm "TooDeep" (by decide +kernel)) ?_
    walk_at "go"
    refine r_isiE (.own _) (hx.ext (KH.extE (by assumption))) (S.is_ x xm) (S.rd x xm) (S.sb x xm) (S.kit x xm "NotEnded" (by decide +kernel)) ?_
    walk_at "go"
    refine r_isiE (.own _) (hx.ext (KH.extE (by assumption))) (S.is_ x xm) (S.rd x xm) (S.sb x xm) (S.kit x xm "NoRows" (by decide +kernel)) ?_
    walk_at "go"
    rename_i p H' n kk
    exact k _ _ n kk.extE (kk.get 0 rfl)
/-- one row: the error and what it kept -/
def RowAt (K : PySem.W.Frag) (H : Hp) (v : V) (x : Str) (t : Addr) : Prop := ∃ e, H t = some (.tup [.ref e, v]) ∧ ExAt H e (He.ga K x)
theorem RowAt.ext {K : PySem.W.Frag} {H H' : Hp} {v : V} {x : Str} {t : Addr} (h : RowAt K H v x t) (e : Ext H H') : RowAt K H' v x t := by
  obtain ⟨a, h1, h2⟩ := h
  exact ⟨a, e _ _ h1, h2.ext e⟩
theorem paired_append {α β : Type} {F : α → β → Prop} : ∀ {a : List α} {b : List β} {c : List α} {d : List β}, Paired F a b → Paired F c d → Paired F (a ++ c) (b ++ d)
  | _, _, _, _, .nil, h => h
  | _, _, _, _, .cons x y, h => .cons x (paired_append y h)
def spErrors (K : PySem.W.Frag) : Sp := fun vs H Q _ => ∃ v : V, vs = [v] ∧ ∀ (r : Addr) (ts : List Addr) (H' : Hp), H r = none → Ext H H' → H' r = some (.lst (ts.map V.ref)) → Paired (RowAt K H' v) (own.map (·.1)) ts → Q (.ref r) H'
theorem ok_errors (F : FnP K "_law_errors" s_l_errors f fd) (T : Bt mg) (S : Ks K mg)
    (E_NoWorld : ErrOk P w K mg base "NoWorld" (He.ga K "NoWorld") "world")
    (E_NoClass : ErrOk P w K mg base "NoClass" (He.ga K "NoClass") "name")
    (E_Taken : ErrOk P w K mg base "Taken" (He.ga K "Taken") "name")
    (E_NoField : ErrOk P w K mg base "NoField" (He.ga K "NoField") "field")
    (E_NoCount : ErrOk P w K mg base "NoCount" (He.ga K "NoCount") "count")
    (E_NoBody : ErrOk P w K mg base "NoBody" (He.ga K "NoBody") "path")
    (E_NoParts : ErrOk P w K mg base "NoParts" (He.ga K "NoParts") "parts")
    (E_NoFit : ErrOk P w K mg base "NoFit" (He.ga K "NoFit") "field")
    (E_NoFunction : ErrOk P w K mg base "NoFunction" (He.ga K "NoFunction") "function")
    (E_NoSignature : ErrOk P w K mg base "NoSignature" (He.ga K "NoSignature") "signature")
    (E_NotThere : ErrOk P w K mg base "NotThere" (He.ga K "NotThere") "signature")
    (E_NoMethod : ErrOk P w K mg base "NoMethod" (He.ga K "NoMethod") "call")
    (E_Ambiguous : ErrOk P w K mg base "Ambiguous" (He.ga K "Ambiguous") "call")
    (E_NoValues : ErrOk P w K mg base "NoValues" (He.ga K "NoValues") "given")
    (E_NoSteps : ErrOk P w K mg base "NoSteps" (He.ga K "NoSteps") "steps")
    (E_NoTask : ErrOk P w K mg base "NoTask" (He.ga K "NoTask") "task")
    (E_NoEntry : ErrOk P w K mg base "NoEntry" (He.ga K "NoEntry") "number")
    (E_NoChange : ErrOk P w K mg base "NoChange" (He.ga K "NoChange") "at")
    (E_NoStep : ErrOk P w K mg base "NoStep" (He.ga K "NoStep") "at")
    : FnOk P w K mg base CX0 4 f fd ["_law_thing"] (spErrors K) := by
  refine F.ok sc_l_errors (fun vs H Q E h => ?_) (fun cdv A outer s H vs Q E hr h => ?_)
  · obtain ⟨v, rfl, _⟩ := h
    rfl
  · refine ⟨_, PSs.nox (pss_cons (ps_asg (pe_tup (pa_cons (pe_mkE E_NoWorld hr (pv 0)) (pa_cons (pe_mkE E_NoClass hr (pv 0)) (pa_cons (pe_mkE E_Taken hr (pv 0)) (pa_cons (pe_mkE E_NoField hr (pv 0)) (pa_cons (pe_mkE E_NoCount hr (pv 0)) pa_nil)))))) (pg_tup rfl (pgs_cons (pg_name (i := 1) sc_l_errors.nd rfl (by first | exact Or.inl rfl | exact Or.inr rfl)) (pgs_cons (pg_name (i := 2) sc_l_errors.nd rfl (by first | exact Or.inl rfl | exact Or.inr rfl)) (pgs_cons (pg_name (i := 3) sc_l_errors.nd rfl (by first | exact Or.inl rfl | exact Or.inr rfl)) (pgs_cons (pg_name (i := 4) sc_l_errors.nd rfl (by first | exact Or.inl rfl | exact Or.inr rfl)) (pgs_cons (pg_name (i := 5) sc_l_errors.nd rfl (by first | exact Or.inl rfl | exact Or.inr rfl)) pgs_nil)))))))
      (pss_cons (ps_set (i := 6) sc_l_errors.nd rfl (by first | exact Or.inl rfl | exact Or.inr rfl) (pe_lst (pa_cons (pe_tup (pa_cons (pv 1) (pa_cons (pe_xfld (pv 1) rfl) pa_nil))) (pa_cons (pe_tup (pa_cons (pv 2) (pa_cons (pe_xfld (pv 2) rfl) pa_nil))) (pa_cons (pe_tup (pa_cons (pv 3) (pa_cons (pe_xfld (pv 3) rfl) pa_nil))) (pa_cons (pe_tup (pa_cons (pv 4) (pa_cons (pe_xfld (pv 4) rfl) pa_nil))) (pa_cons (pe_tup (pa_cons (pv 5) (pa_cons (pe_xfld (pv 5) rfl) pa_nil))) pa_nil)))))))
      (pss_cons (ps_asg (pe_tup (pa_cons (pe_mkE E_NoBody hr (pv 0)) (pa_cons (pe_mkE E_NoParts hr (pv 0)) (pa_cons (pe_mkE E_NoFit hr (pv 0)) (pa_cons (pe_mkE E_NoFunction hr (pv 0)) (pa_cons (pe_mkE E_NoSignature hr (pv 0)) pa_nil)))))) (pg_tup rfl (pgs_cons (pg_name (i := 1) sc_l_errors.nd rfl (by first | exact Or.inl rfl | exact Or.inr rfl)) (pgs_cons (pg_name (i := 2) sc_l_errors.nd rfl (by first | exact Or.inl rfl | exact Or.inr rfl)) (pgs_cons (pg_name (i := 3) sc_l_errors.nd rfl (by first | exact Or.inl rfl | exact Or.inr rfl)) (pgs_cons (pg_name (i := 4) sc_l_errors.nd rfl (by first | exact Or.inl rfl | exact Or.inr rfl)) (pgs_cons (pg_name (i := 5) sc_l_errors.nd rfl (by first | exact Or.inl rfl | exact Or.inr rfl)) pgs_nil)))))))
      (pss_cons (ps_set (i := 6) sc_l_errors.nd rfl (by first | exact Or.inl rfl | exact Or.inr rfl) (pe_op op_cat (pv 6) (pe_lst (pa_cons (pe_tup (pa_cons (pv 1) (pa_cons (pe_xfld (pv 1) rfl) pa_nil))) (pa_cons (pe_tup (pa_cons (pv 2) (pa_cons (pe_xfld (pv 2) rfl) pa_nil))) (pa_cons (pe_tup (pa_cons (pv 3) (pa_cons (pe_xfld (pv 3) rfl) pa_nil))) (pa_cons (pe_tup (pa_cons (pv 4) (pa_cons (pe_xfld (pv 4) rfl) pa_nil))) pa_nil)))))))
      (pss_cons (ps_set (i := 6) sc_l_errors.nd rfl (by first | exact Or.inl rfl | exact Or.inr rfl) (pe_op op_cat (pv 6) (pe_lst (pa_cons (pe_tup (pa_cons (pv 5) (pa_cons (pe_xfld (pv 5) rfl) pa_nil))) pa_nil))))
      (pss_cons (ps_asg (pe_tup (pa_cons (pe_mkE E_NotThere hr (pv 0)) (pa_cons (pe_mkE E_NoMethod hr (pv 0)) (pa_cons (pe_mkE E_Ambiguous hr (pv 0)) (pa_cons (pe_mkE E_NoValues hr (pv 0)) (pa_cons (pe_mkE E_NoSteps hr (pv 0)) pa_nil)))))) (pg_tup rfl (pgs_cons (pg_name (i := 1) sc_l_errors.nd rfl (by first | exact Or.inl rfl | exact Or.inr rfl)) (pgs_cons (pg_name (i := 2) sc_l_errors.nd rfl (by first | exact Or.inl rfl | exact Or.inr rfl)) (pgs_cons (pg_name (i := 3) sc_l_errors.nd rfl (by first | exact Or.inl rfl | exact Or.inr rfl)) (pgs_cons (pg_name (i := 4) sc_l_errors.nd rfl (by first | exact Or.inl rfl | exact Or.inr rfl)) (pgs_cons (pg_name (i := 5) sc_l_errors.nd rfl (by first | exact Or.inl rfl | exact Or.inr rfl)) pgs_nil)))))))
      (pss_cons (ps_set (i := 6) sc_l_errors.nd rfl (by first | exact Or.inl rfl | exact Or.inr rfl) (pe_op op_cat (pv 6) (pe_lst (pa_cons (pe_tup (pa_cons (pv 1) (pa_cons (pe_xfld (pv 1) rfl) pa_nil))) (pa_cons (pe_tup (pa_cons (pv 2) (pa_cons (pe_xfld (pv 2) rfl) pa_nil))) (pa_cons (pe_tup (pa_cons (pv 3) (pa_cons (pe_xfld (pv 3) rfl) pa_nil))) pa_nil))))))
      (pss_cons (ps_set (i := 6) sc_l_errors.nd rfl (by first | exact Or.inl rfl | exact Or.inr rfl) (pe_op op_cat (pv 6) (pe_lst (pa_cons (pe_tup (pa_cons (pv 4) (pa_cons (pe_xfld (pv 4) rfl) pa_nil))) (pa_cons (pe_tup (pa_cons (pv 5) (pa_cons (pe_xfld (pv 5) rfl) pa_nil))) pa_nil)))))
      (pss_cons (ps_asg (pe_tup (pa_cons (pe_mkE E_NoTask hr (pv 0)) (pa_cons (pe_mkE E_NoEntry hr (pv 0)) (pa_cons (pe_mkE E_NoChange hr (pv 0)) (pa_cons (pe_mkE E_NoStep hr (pv 0)) pa_nil))))) (pg_tup rfl (pgs_cons (pg_name (i := 1) sc_l_errors.nd rfl (by first | exact Or.inl rfl | exact Or.inr rfl)) (pgs_cons (pg_name (i := 2) sc_l_errors.nd rfl (by first | exact Or.inl rfl | exact Or.inr rfl)) (pgs_cons (pg_name (i := 3) sc_l_errors.nd rfl (by first | exact Or.inl rfl | exact Or.inr rfl)) (pgs_cons (pg_name (i := 4) sc_l_errors.nd rfl (by first | exact Or.inl rfl | exact Or.inr rfl)) pgs_nil))))))
      (pss_one (ps_ret (pe_op op_cat (pv 6) (pe_lst (pa_cons (pe_tup (pa_cons (pv 1) (pa_cons (pe_xfld (pv 1) rfl) pa_nil))) (pa_cons (pe_tup (pa_cons (pv 2) (pa_cons (pe_xfld (pv 2) rfl) pa_nil))) (pa_cons (pe_tup (pa_cons (pv 3) (pa_cons (pe_xfld (pv 3) rfl) pa_nil))) (pa_cons (pe_tup (pa_cons (pv 4) (pa_cons (pe_xfld (pv 4) rfl) pa_nil))) pa_nil))))))))))))))))), ?_⟩
    obtain ⟨v, rfl, k⟩ := h
    have kh := KH.start (H := H)
    walk_at "go"
    walk_at "xf"
    walk_at "go"
    walk_at "xf"
    walk_at "go"
    walk_at "xf"
    walk_at "go"
    walk_at "xf"
    walk_at "go"
    walk_at "xf"
    walk_at "go"
    rename_i p1 H1 n1 kk
    have e1 := kk.extE
    have R1 := (Paired.cons (F := RowAt K H1 v) (a := ("NoWorld" : Str)) ⟨_, kk.get 16 rfl, .inl ⟨_, _, kk.get 26 rfl, kk.get 27 rfl⟩⟩ (Paired.cons (F := RowAt K H1 v) (a := ("NoClass" : Str)) ⟨_, kk.get 15 rfl, .inl ⟨_, _, kk.get 24 rfl, kk.get 25 rfl⟩⟩ (Paired.cons (F := RowAt K H1 v) (a := ("Taken" : Str)) ⟨_, kk.get 14 rfl, .inl ⟨_, _, kk.get 22 rfl, kk.get 23 rfl⟩⟩ (Paired.cons (F := RowAt K H1 v) (a := ("NoField" : Str)) ⟨_, kk.get 13 rfl, .inl ⟨_, _, kk.get 20 rfl, kk.get 21 rfl⟩⟩ (Paired.cons (F := RowAt K H1 v) (a := ("NoCount" : Str)) ⟨_, kk.get 12 rfl, .inl ⟨_, _, kk.get 18 rfl, kk.get 19 rfl⟩⟩ .nil)))))
    have kk2 := (kk.take 12).rebase
    simp only [List.take_succ_cons, List.take_zero] at kk2
    clear kk
    walk_at "xf"
    walk_at "go"
    walk_at "xf"
    walk_at "go"
    walk_at "xf"
    walk_at "go"
    walk_at "xf"
    walk_at "go"
    walk_at "xf"
    walk_at "go"
    rename_i p2 H2 n2 kk
    have e2 := kk.extE
    have R2 := (Paired.cons (F := RowAt K H2 v) (a := ("NoBody" : Str)) ⟨_, kk.get 19 rfl, .inl ⟨_, _, kk.get 29 rfl, kk.get 30 rfl⟩⟩ (Paired.cons (F := RowAt K H2 v) (a := ("NoParts" : Str)) ⟨_, kk.get 18 rfl, .inl ⟨_, _, kk.get 27 rfl, kk.get 28 rfl⟩⟩ (Paired.cons (F := RowAt K H2 v) (a := ("NoFit" : Str)) ⟨_, kk.get 17 rfl, .inl ⟨_, _, kk.get 25 rfl, kk.get 26 rfl⟩⟩ (Paired.cons (F := RowAt K H2 v) (a := ("NoFunction" : Str)) ⟨_, kk.get 16 rfl, .inl ⟨_, _, kk.get 23 rfl, kk.get 24 rfl⟩⟩ (Paired.cons (F := RowAt K H2 v) (a := ("NoSignature" : Str)) ⟨_, kk.get 13 rfl, .inl ⟨_, _, kk.get 21 rfl, kk.get 22 rfl⟩⟩ .nil)))))
    have kk2 := (kk.take 12).rebase
    simp only [List.take_succ_cons, List.take_zero] at kk2
    clear kk
    walk_at "xf"
    walk_at "go"
    walk_at "xf"
    walk_at "go"
    walk_at "xf"
    walk_at "go"
    walk_at "xf"
    walk_at "go"
    walk_at "xf"
    walk_at "go"
    rename_i p3 H3 n3 kk
    have e3 := kk.extE
    have R3 := (Paired.cons (F := RowAt K H3 v) (a := ("NotThere" : Str)) ⟨_, kk.get 17 rfl, .inl ⟨_, _, kk.get 27 rfl, kk.get 28 rfl⟩⟩ (Paired.cons (F := RowAt K H3 v) (a := ("NoMethod" : Str)) ⟨_, kk.get 16 rfl, .inl ⟨_, _, kk.get 25 rfl, kk.get 26 rfl⟩⟩ (Paired.cons (F := RowAt K H3 v) (a := ("Ambiguous" : Str)) ⟨_, kk.get 15 rfl, .inl ⟨_, _, kk.get 23 rfl, kk.get 24 rfl⟩⟩ (Paired.cons (F := RowAt K H3 v) (a := ("NoValues" : Str)) ⟨_, kk.get 12 rfl, .inl ⟨_, _, kk.get 21 rfl, kk.get 22 rfl⟩⟩ (Paired.cons (F := RowAt K H3 v) (a := ("NoSteps" : Str)) ⟨_, kk.get 11 rfl, .inl ⟨_, _, kk.get 19 rfl, kk.get 20 rfl⟩⟩ .nil)))))
    have kk2 := (kk.take 10).rebase
    simp only [List.take_succ_cons, List.take_zero] at kk2
    clear kk
    walk_at "xf"
    walk_at "go"
    walk_at "xf"
    walk_at "go"
    walk_at "xf"
    walk_at "go"
    walk_at "xf"
    walk_at "go"
    rename_i pz H4 nz kk
    have e4 := kk.extE
    have R4 := (Paired.cons (F := RowAt K H4 v) (a := ("NoTask" : Str)) ⟨_, kk.get 5 rfl, .inl ⟨_, _, kk.get 13 rfl, kk.get 14 rfl⟩⟩ (Paired.cons (F := RowAt K H4 v) (a := ("NoEntry" : Str)) ⟨_, kk.get 4 rfl, .inl ⟨_, _, kk.get 11 rfl, kk.get 12 rfl⟩⟩ (Paired.cons (F := RowAt K H4 v) (a := ("NoChange" : Str)) ⟨_, kk.get 3 rfl, .inl ⟨_, _, kk.get 9 rfl, kk.get 10 rfl⟩⟩ (Paired.cons (F := RowAt K H4 v) (a := ("NoStep" : Str)) ⟨_, kk.get 2 rfl, .inl ⟨_, _, kk.get 7 rfl, kk.get 8 rfl⟩⟩ .nil))))
    have f1 := e2.trans (e3.trans e4)
    have f2 := e3.trans e4
    refine k _ [_, _, _, _, _, _, _, _, _, _, _, _, _, _, _, _, _, _, _] H4 ((e1.trans (e2.trans e3)).free nz) (e1.trans f1) (kk.get 0 rfl) ?_
    exact paired_append (Paired.mapP R1 fun _ _ z => z.ext f1) (paired_append (Paired.mapP R2 fun _ _ z => z.ext f2) (paired_append (Paired.mapP R3 fun _ _ z => z.ext e4) R4))

end
end K05

set_option Elab.async false
set_option linter.all false
set_option maxRecDepth 100000
set_option maxHeartbeats 4000000
namespace K05
open PySem L2 Wc
local macro_rules | `(tactic| walk_at "lk") => `(tactic| first | with_reducible exact Look.here | (with_reducible apply Look.there; walk_at "lk"))
local macro_rules | `(tactic| walk_at "ul") => `(tactic| first | with_reducible exact UpL.here | (with_reducible apply UpL.there; walk_at "ul"))
local macro_rules | `(tactic| walk_at "ga") => `(tactic| first | exact GetAt.here | (apply GetAt.there; walk_at "ga"))
local macro_rules | `(tactic| walk_at "sa") => `(tactic| first | exact SetAt.here | (apply SetAt.there; walk_at "sa"))
local macro_rules | `(tactic| walk_at "hp") => `(tactic| first | assumption | (refine' KH.find ?k ?h; (case k => assumption); (case h => walk_at "lk")))
local macro_rules | `(tactic| walk_at "sql") => `(tactic| first | assumption | (refine' SqL.of ?h; (case h => walk_at "hp")) | (refine' Fr.sql (KH.fr ?k) ?n ?h; (case k => assumption); (case h => assumption); (case n => (simp; done))))
local macro_rules | `(tactic| walk_at "sqt") => `(tactic| first | assumption | (refine' SqT.of ?h; (case h => walk_at "hp")))
local macro_rules | `(tactic| walk_at "side") => `(tactic| first | exact (show (0 : Int) < _ by decide) | exact (show (0 : Int) < _ by omega) | exact ⟨by decide, by decide, by decide⟩ | exact ⟨by decide, by decide, by omega⟩ | exact ⟨by decide, by decide⟩ | exact ⟨by omega, by omega⟩ | exact Or.inl ⟨by omega, by omega⟩ | exact Or.inr ⟨by omega, by omega⟩)
local macro_rules | `(tactic| walk_at "siz") => `(tactic| first | (refine sz_of ?_; first | decide | omega | (simp; done) | (simp; omega)) | (refine sz_lt ?_; first | decide | omega | (simp; done) | (simp; omega)))
local macro_rules | `(tactic| walk_at "own") => `(tactic| first | (exact Or.inr (by assumption)) | (refine Or.inl ?_; simp; done))
local macro_rules | `(tactic| walk_at "al") => `(tactic| (refine' AllocO.mk ?k ?_; (case k => assumption); intro _ _ _ _))
local macro_rules | `(tactic| walk_at "up") => `(tactic| (refine' UpdO.mk ?k ?h ?m ?_; (case k => assumption); (case h => walk_at "ul"); (case m => walk_at "own"); intro _ _))
local macro_rules | `(tactic| walk_at "st") => `(tactic| first
  | ((with_reducible refine' r_var ?h ?_); (case h => walk_at "ga"))
  | (with_reducible refine' r_seq ?_) | (with_reducible refine' r_next ?_) | (with_reducible refine' r_asg ?_) | (with_reducible refine' r_drop ?_) | (with_reducible refine' r_ret ?_) | (with_reducible refine' r_retN ?_)
  | (with_reducible refine' r_ifs ?_) | (with_reducible refine' r_cont ?_) | (with_reducible refine' r_break ?_) | (with_reducible refine' r_c ?_) | (with_reducible refine' r_op ?_) | (with_reducible refine' r_un ?_)
  | (with_reducible refine' r_test ?_) | (with_reducible refine' r_tB ?_) | (with_reducible refine' r_not ?_) | (with_reducible refine' r_and ?_) | (with_reducible refine' r_or ?_) | (with_reducible refine' r_notV ?_)
  | (with_reducible refine' r_andV ?_) | (with_reducible refine' r_orV ?_) | (with_reducible refine' r_ifE ?_) | (with_reducible refine' r_bl ?_) | (with_reducible refine' r_nil ?_) | (with_reducible refine' r_cons ?_)
  | (with_reducible refine' r_tup ?_) | (with_reducible refine' r_lst ?_) | (with_reducible refine' r_cb ?_) | (with_reducible refine' r_call ?_) | ((with_reducible refine' r_name ?h ?_); (case h => walk_at "sa")) | (with_reducible refine' r_gnil ?_)
  | (with_reducible refine' r_gcons ?_) | (with_reducible refine' r_gsub ?_) | (with_reducible refine' r_par ?_) | (with_reducible refine' r_par2 ?_) | (with_reducible refine' r_I0 ?_) | (with_reducible refine' r_U ?_)
  | ((with_reducible refine' r_eq ?h ?_); (case h => rfl)) | ((with_reducible refine' r_ne ?h ?_); (case h => rfl))
  | ((with_reducible refine' r_ixL ?h ?a ?_); (case h => walk_at "sql"); (case a => rfl))
  | ((with_reducible refine' r_ixT ?h ?a ?_); (case h => walk_at "sqt"); (case a => rfl))
  | ((with_reducible refine' r_setL ?h ?a ?_); (case h => walk_at "hp"); (case a => rfl))
  | ((with_reducible refine' r_I ?c ?_); (case c => walk_at "side"))
  | (with_reducible refine' r_sl ?_) | (with_reducible refine' r_part ?_) | (with_reducible refine' r_nopart ?_) | (with_reducible refine' r_ii ?_)
  | ((with_reducible refine' r_slL ?h ?_); (case h => walk_at "sql"))
  | (with_reducible refine' r_bm ?_) | (with_reducible refine' r_bm0 ?_) | (with_reducible refine' r_int1 ?_) | (with_reducible refine' r_int1b ?_)
  | ((with_reducible refine' r_aug ?h ?_); (case h => walk_at "ga"))
  | ((with_reducible refine' r_cat ?a ?b ?z ?_); (case a => walk_at "hp"); (case b => walk_at "hp"); (case z => walk_at "siz"))
  | ((with_reducible refine' r_append ?a ?z ?_); (case a => walk_at "hp"); (case z => walk_at "siz"))
  | ((with_reducible refine' And.intro ?z ?_); (case z => first | walk_at "siz" | exact Or.inl ⟨rfl, _, by walk_at "sql"⟩))
  | ((with_reducible refine' r_gtup ?h ?l ?_); (case h => walk_at "sqt"); (case l => rfl))
  | (with_reducible refine' r_forL ?_) | (with_reducible refine' r_forE ?_) | (with_reducible refine' r_forR ?_) | ((with_reducible refine' r_forL2 ?h ?_); (case h => walk_at "sql")) | ((with_reducible refine' r_forE2 ?h ?_); (case h => walk_at "sql"))
  | (with_reducible refine' r_lcR ?_) | ((with_reducible refine' r_iteT ?h ?_); (case h => rfl)) | ((with_reducible refine' r_iteF ?h ?_); (case h => rfl))
  | (with_reducible refine' r_dnew ?_) | (with_reducible refine' r_vei ?_) | (with_reducible refine' r_ost ?_) | (with_reducible refine' r_mkV ?_) | (with_reducible refine' r_mkX ?_) | (with_reducible refine' r_xfld ?_)
  | ((with_reducible refine' MkG.mk ?o ?n ?k ?_); (case o => exact ErrOk.o (by assumption)); (case n => exact ErrOk.no (by assumption)); (case k => assumption); intro _ _ _ _)
  | ((with_reducible refine' AllocX.mk ?k ?_); (case k => assumption); intro _ _ _ _)
  | (walk_at "al") | (walk_at "up"))
local macro_rules | `(tactic| walk_at "go") => `(tactic| repeat walk_at "st")

/-- what is kept: one of these -/
inductive ThingAt (H0 H : Hp) (n : Nat) : V → Prop where
  | flat {v : V} (h : FlatOk v) : ThingAt H0 H n v
  | tup {a : Addr} {xs : List V} (h : H a = some (.tup xs)) (f : ∀ v, v ∈ xs → FlatOk v) : ThingAt H0 H n (.ref a)
  | dct {a : Addr} (h : H a = some (.dK [])) : ThingAt H0 H n (.ref a)
  | lst {a : Addr} {xs : List V} (h0 : H0 a = none) (h : H a = some (.lst xs)) (f : ∀ v, v ∈ xs → FlatOk v) (hn : xs.length ≤ n) : ThingAt H0 H n (.ref a)
theorem ThingAt.fr {H0 H H' : Hp} {n : Nat} {v : V} (t : ThingAt H0 H n v) {A : List Addr} (e : Fr A H H') (hA : ∀ a, a ∈ A → v ≠ .ref a) : ThingAt H0 H' n v := by
  have out : ∀ a, v = .ref a → a ∉ A := fun a e m => hA a m e
  cases t with
  | flat h => exact .flat h
  | tup h f => exact .tup (e _ _ (out _ rfl) h) f
  | dct h => exact .dct (e _ _ (out _ rfl) h)
  | lst h0 h f hn => exact .lst h0 (e _ _ (out _ rfl) h) f hn
theorem ThingAt.ext {H0 H H' : Hp} {n : Nat} {v : V} (t : ThingAt H0 H n v) (e : Ext H H') : ThingAt H0 H' n v := t.fr (A := []) e.fr (by simp)
theorem ThingAt.mono {H0 H : Hp} {n m : Nat} {v : V} (t : ThingAt H0 H n v) (e : n ≤ m) : ThingAt H0 H m v := by
  cases t with
  | flat h => exact .flat h
  | tup h f => exact .tup h f
  | dct h => exact .dct h
  | lst h0 h f hn => exact .lst h0 h f (Nat.le_trans hn e)
theorem ThingAt.ne {K : PySem.W.Frag} {H0 H : Hp} {n : Nat} {v : V} {Q : VK} (t : ThingAt H0 H n v) (q : Q (.bl false) H) : rNeT K v v H Q := by
  cases t with
  | flat h => exact .inl (ne_same (flat_dp h) (flat_dp h) (flat_shaped h) q)
  | tup h f => exact .inl (ne_same (.tup (SqT.of h) (flats_dp f)) (.tup (SqT.of h) (flats_dp f)) (tup_shaped f) q)
  | dct h => exact .inr ⟨_, rfl, rfl, h, q⟩
  | lst h0 h f hn => exact .inl (ne_same (.lst (SqL.of h) (flats_dp f)) (.lst (SqL.of h) (flats_dp f)) (lst_shaped f) q)
/-- its type, and whether it is a list -/
theorem ThingAt.ty {K : PySem.W.Frag} {H0 H : Hp} {n : Nat} {v : V} (t : ThingAt H0 H n v) : ∃ (c : Value) (b l : Bool), TyX K H v c ∧ PySem.W.kitOne K c (.type "bool") = some b ∧ PySem.W.kitOne K c (.type "list") = some l ∧
    (l = true → ∃ (a : Addr) (xs : List V), v = .ref a ∧ H0 a = none ∧ H a = some (.lst xs) ∧ (∀ v, v ∈ xs → FlatOk v) ∧ xs.length ≤ n) := by
  cases t with
  | flat h =>
    rcases h with rfl | ⟨b, rfl⟩ | ⟨i, rfl⟩ | ⟨s, rfl, hs⟩
    · exact ⟨_, false, false, .base .non, kit_ty (by decide +kernel), kit_ty (by decide +kernel), fun z => nomatch z⟩
    · exact ⟨_, true, false, .base (.bl b), kit_ty (by decide +kernel), kit_ty (by decide +kernel), fun z => nomatch z⟩
    · exact ⟨_, false, false, .base (.int i), kit_ty (by decide +kernel), kit_ty (by decide +kernel), fun z => nomatch z⟩
    · exact ⟨_, false, false, .base (.str s), kit_ty (by decide +kernel), kit_ty (by decide +kernel), fun z => nomatch z⟩
  | tup h f => exact ⟨_, false, false, .base (.tup h), kit_ty (by decide +kernel), kit_ty (by decide +kernel), fun z => nomatch z⟩
  | dct h => exact ⟨_, false, false, .base (.dK h), kit_ty (by decide +kernel), kit_ty (by decide +kernel), fun z => nomatch z⟩
  | @lst a xs h0 h f hn => exact ⟨_, false, true, .base (.lst h), kit_ty (by decide +kernel), kit_ty (by decide +kernel), fun _ => ⟨a, xs, rfl, h0, h, f, hn⟩⟩
theorem un2 {A : Around} {k : Nat} (r : Room k A) : A.units + 2 < cLine := by
  have := r.units
  omega
theorem ab_flat : ∀ v, v ∈ [V.str "a", V.str "b"] → FlatOk v := fun v h => by
  simp at h
  rcases h with rfl | rfl
  · exact .inr (.inr (.inr ⟨_, rfl, by decide +kernel⟩))
  · exact .inr (.inr (.inr ⟨_, rfl, by decide +kernel⟩))
theorem non_flat : ∀ v, v ∈ [V.non] → FlatOk v := fun v h => by
  simp at h
  exact .inl h
theorem ThingAt.some {H0 H : Hp} {n : Nat} {v : V} {a : Addr} (t : ThingAt H0 H n v) (e : v = .ref a) : ∃ o, H a = some o := by
  cases t with
  | flat h =>
    subst e
    rcases h with h | ⟨_, h⟩ | ⟨_, h⟩ | ⟨_, h, _⟩ <;> cases h
  | tup h f =>
    cases e
    exact ⟨_, h⟩
  | dct h =>
    cases e
    exact ⟨_, h⟩
  | lst h0 h f hn =>
    cases e
    exact ⟨_, h⟩
def spLaw (K : PySem.W.Frag) : Sp := fun vs H Q _ => ∃ (a : Addr) (ns : List Int), vs = [.ref a] ∧ SqL K H a (ns.map V.int) ∧ ns.length ≤ 63 ∧ ∀ H', Q (.bl true) H'
theorem RowAt.fr {K : PySem.W.Frag} {H H' : Hp} {v : V} {x : Str} {t p : Addr} {xs : List V} (h : RowAt K H v x t) (hp : H p = some (.lst xs)) (e : Fr [p] H H') : RowAt K H' v x t := by
  obtain ⟨a, h1, h2⟩ := h
  have ne : t ∉ [p] := by
    have : t ≠ p := ne_of h1 hp (by intro z; cases z)
    simpa using this
  exact ⟨a, e _ _ ne h1, h2.fr hp e⟩
theorem more_flat {xs : List V} (h : ∀ v, v ∈ xs → FlatOk v) : ∀ v, v ∈ xs ++ [V.str "more"] → FlatOk v := fun v m => by
  rcases List.mem_append.mp m with z | z
  · exact h v z
  · have e : v = V.str "more" := by simpa using z
    rw [e]
    exact .inr (.inr (.inr ⟨_, rfl, by decide +kernel⟩))
theorem kinds_take {i : Nat} {nm : Str} (h : plain[i]? = some nm) : kinds.take (19 + (i + 1)) = kinds.take (19 + i) ++ [nm] := by
  match i, h with
  | 0, h => cases h; rfl
  | 1, h => cases h; rfl
  | 2, h => cases h; rfl
  | 3, h => cases h; rfl
  | 4, h => cases h; rfl
  | i + 5, h => simp [plain] at h
theorem kinds_all : ∀ i : _root_.Fin 24, (kinds.map fun y => V.bl (decide (kinds.getD i.val ("" : Str) = y))) = (List.range 24).map fun (j : Nat) => V.bl (decide (V.int ((i.val : Nat) : Int) = V.int (0 + (j : Int)))) := by
  decide +kernel
theorem kinds_eq {i : Nat} {nm : Str} (h : kinds[i]? = some nm) : (kinds.map fun y => V.bl (decide (nm = y))) = (List.range 24).map fun (j : Nat) => V.bl (decide (V.int (i : Int) = V.int (0 + (j : Int)))) := by
  have hi : i < 24 := (List.getElem?_eq_some_iff.mp h).1
  have e : nm = kinds.getD i ("" : Str) := by
    rw [List.getD_eq_getElem?_getD, h] <;> rfl
  rw [e]
  exact kinds_all ⟨i, hi⟩
theorem range_flat {i : Nat} : ∀ v, v ∈ ((List.range 24).map fun (j : Nat) => V.bl (decide (V.int (i : Int) = V.int (0 + (j : Int))))) → FlatOk v := fun v h => by
  obtain ⟨j, _, rfl⟩ := List.mem_map.mp h
  exact flat_bl _
theorem r_yes {σ : L2.St} {H : Hp} {R : Bool → Hp → Prop} (h : R true H) : tYes σ H R := h
theorem paired_get' {α β : Type} {F : α → β → Prop} : ∀ {xs : List α} {ys : List β} {i : Nat} {y : β}, Paired F xs ys → ys[i]? = some y → ∃ x, xs[i]? = some x ∧ F x y
  | _, _, _, _, .nil, e => by simp at e
  | _, _, 0, _, .cons h _, e => by
    simp at e
    subst e
    exact ⟨_, rfl, h⟩
  | _, _, i + 1, y, .cons _ t, e => by
    obtain ⟨x, h1, h2⟩ := paired_get' (i := i) (y := y) t (by simpa using e)
    exact ⟨x, by simpa using h1, h2⟩
theorem ExT.fr {H H' : Hp} {a C p : Addr} {v : V} {xs : List V} (h : ExT H a C v) (hp : H p = some (.lst xs)) (e : Fr [p] H H') : ExT H' a C v := by
  obtain ⟨t, h1, h2⟩ := h
  have n1 : a ∉ [p] := by
    have : a ≠ p := ne_of h1 hp (by intro z; cases z)
    simpa using this
  have n2 : t ∉ [p] := by
    have : t ≠ p := ne_of h2 hp (by intro z; cases z)
    simpa using this
  exact ⟨t, e _ _ n1 h1, e _ _ n2 h2⟩
section
variable {P : Program} {w : World} {K : PySem.W.Frag} {mg : Str → Option Value} {base : Heap} {f : Addr} {fd : FuncData}
abbrev NN_law : List Str := ["_law_script", "_law_cell", "_law_well_here", "_law_thing", "_law_rows", "_law_text", "_law_error", "_law_k", "_law_row", "_law_kept", "_law_spot"]
theorem ok_law (F : FnP K "law" s_law f fd) (T : Bt mg) (S : Ks K mg) (gW : mg "WorldError" = some (.ref (He.ga K "WorldError")))
    (hstr : ∀ x, x ∈ plain → PySem.W.findIn K (.ref (He.ga K x)) "__str__" = some (some (.builtin "BaseException.__str__")))
        (X_NotInt : PlainOk K mg "NotInt" (He.ga K "NotInt"))
    (X_TooLong : PlainOk K mg "TooLong" (He.ga K "TooLong"))
    (X_TooDeep : PlainOk K mg "TooDeep" (He.ga K "TooDeep"))
    (X_NotEnded : PlainOk K mg "NotEnded" (He.ga K "NotEnded"))
    (X_NoRows : PlainOk K mg "NoRows" (He.ga K "NoRows"))
    (D_l_well : DfOk P w K mg base CX0 1 "_law_well" ["_law_cell"] spWell) (D_l_one : DfOk P w K mg base CX0 2 "_law_one" ["_law_well_here", "_law_some"] (spOne K))
    (D_l_errors : DfOk P w K mg base CX0 4 "_law_errors" ["_law_thing"] (spErrors K)) (D_l_kinds : DfOk P w K mg base CX0 1 "_law_kinds" ["_law_error"] (spKinds K)) : FnOk P w K mg base CX0 5 f fd ["_law_script"] (spLaw K) := by
  refine F.ok sc_law (fun vs H Q E h => ?_) (fun cdv A outer s H vs Q E hr h => ?_)
  · obtain ⟨a, ns, rfl, _⟩ := h
    rfl
  · refine ⟨_, PSs.nox (pss_cons (ps_for PassesOwn.never rfl (pi_list (pe_op op_cat (pe_slice sl_list (pv 0) po_none (po_some pe_int)) (pe_lst (pa_cons pe_int pa_nil)))) (pg_name (i := 1) sc_law.nd rfl (by first | exact Or.inl rfl | exact Or.inr rfl)) (pss_cons (ps_set (i := 2) sc_law.nd rfl (by first | exact Or.inl rfl | exact Or.inr rfl) (pe_callD D_l_well hr (pa_cons (pv 1) pa_nil)))
      (pss_cons (ps_set (i := 3) sc_law.nd rfl (by first | exact Or.inl rfl | exact Or.inr rfl) (pe_callD D_l_one hr (pa_cons (pv 2) (pa_cons (pe_lst (pa_cons pe_non (pa_cons pe_int (pa_cons (pe_un un_neg pe_int) (pa_cons pe_str (pa_cons pe_str (pa_cons (pe_tup (pa_cons pe_str (pa_cons pe_str pa_nil))) (pa_cons (pe_cmpR op_eq pe_int pe_int (nomark _)) (pa_cons (pe_lst pa_nil) (pa_cons pe_dnewK (pa_cons (pe_lst (pa_cons pe_non pa_nil)) (pa_cons (pe_op op_pow pe_int pe_int) pa_nil)))))))))))) pa_nil))))
      (pss_cons (ps_set (i := 4) sc_law.nd rfl (by first | exact Or.inl rfl | exact Or.inr rfl) (pe_callD D_l_errors hr (pa_cons (pv 3) pa_nil)))
      (pss_cons (ps_set (i := 5) sc_law.nd rfl (by first | exact Or.inl rfl | exact Or.inr rfl) (pe_callD D_l_one hr (pa_cons (pv 2) (pa_cons (pe_lst (pa_cons pe_str (pa_cons pe_str (pa_cons pe_str pa_nil)))) pa_nil))))
      (pss_cons (ps_for PassesOwn.never rfl (pi_list (pe_lst (pa_cons (pe_mkX X_NotInt (pv 5)) (pa_cons (pe_mkX X_TooLong (pv 5)) (pa_cons (pe_mkX X_TooDeep (pv 5)) (pa_cons (pe_mkX X_NotEnded (pv 5)) (pa_cons (pe_mkX X_NoRows (pv 5)) pa_nil))))))) (pg_name (i := 6) sc_law.nd rfl (by first | exact Or.inl rfl | exact Or.inr rfl)) (pss_cons (ps_if (pt_cmpR op_ne (pe_callTy (call_str_exc (un2 hr)) (by rfl) T.f_str PyProof.Rows.boot_str (pa_cons (pv 6) pa_nil)) (pv 5) (nomark _)) (pss_one (ps_ret pe_bl)) pss_nil)
      (pss_one (ps_expr (pe_bm PySem.F.plainAttrs_list PySem.F.slot_list_append PySem.F.type_list_append mt_append (pv 4) (pa_cons (pe_tup (pa_cons (pv 6) (pa_cons (pv 3) pa_nil))) pa_nil))))))
      (pss_one (ps_for PassesOwn.never rfl (pi_enum (by rfl) T.f_enumerate (pa_cons (pv 4) pa_nil)) (pg_tup rfl (pgs_cons (pg_name (i := 7) sc_law.nd rfl (by first | exact Or.inl rfl | exact Or.inr rfl)) (pgs_cons (pg_name (i := 8) sc_law.nd rfl (by first | exact Or.inl rfl | exact Or.inr rfl)) pgs_nil))) (pss_cons (ps_asg (pv 8) (pg_tup rfl (pgs_cons (pg_name (i := 6) sc_law.nd rfl (by first | exact Or.inl rfl | exact Or.inr rfl)) (pgs_cons (pg_name (i := 9) sc_law.nd rfl (by first | exact Or.inl rfl | exact Or.inr rfl)) pgs_nil))))
      (pss_cons (ps_if (PW.pt (pw_or (pt_not (pt_val (pe_callB call_isiE (by rfl) T.f_isinstance PyProof.Rows.boot_isinstance (pa_cons (pv 6) (pa_cons (pe_glob (v := .ref (He.ga K "WorldError")) (by rfl) gW rfl) pa_nil))))) (pw_or1 (pt_not (pt_val (pe_callB call_isiE (by rfl) T.f_isinstance PyProof.Rows.boot_isinstance (pa_cons (pv 6) (pa_cons (pe_bltn (v := .ty "ValueError") (by rfl) T.f_VE PyProof.Rows.Boot.«ValueError» rfl) pa_nil)))))))) (pss_one (ps_ret pe_bl)) pss_nil)
      (pss_cons (ps_if (pt_cmpR (op_neD hr.units) (pe_callD D_l_kinds hr (pa_cons (pv 6) pa_nil)) (pe_lc (own := [("_law_spot", 10)]) rfl sc_law.nd (pi_range1 (by rfl) T.f_range (pa_cons pe_int pa_nil)) (blkOk_by (N := NN_law) (sc := defScope s_law) (by decide +kernel)) (fun _ _ _ _ _ => (pg_name (i := 10) sc_law.nd rfl (by first | exact Or.inl rfl | exact Or.inr rfl))) (fun _ _ _ _ _ => pts_nil) (fun _ _ _ _ _ => (pe_cmpR op_eq (pv 7) (pv 10) (nomark _)))) (nomark _)) (pss_one (ps_ret pe_bl)) pss_nil)
      (pss_cons (ps_if (PW.pt (pw_or (pt_cmpR (op_neT hr.units) (pv 9) (pv 3) (nomark _)) (pw_or1 (pt_cmpR op_ne (pe_callB call_isi (by rfl) T.f_isinstance PyProof.Rows.boot_isinstance (pa_cons (pv 9) (pa_cons (pe_bltn (v := .ty "bool") (by rfl) T.f_bool PyProof.Rows.boot_bool rfl) pa_nil))) (pe_callB call_isi (by rfl) T.f_isinstance PyProof.Rows.boot_isinstance (pa_cons (pv 3) (pa_cons (pe_bltn (v := .ty "bool") (by rfl) T.f_bool PyProof.Rows.boot_bool rfl) pa_nil))) (nomark _))))) (pss_one (ps_ret pe_bl)) pss_nil)
      (pss_one (ps_if (pt_val (pe_callB call_isi (by rfl) T.f_isinstance PyProof.Rows.boot_isinstance (pa_cons (pv 3) (pa_cons (pe_bltn (v := .ty "list") (by rfl) T.f_list PyProof.Rows.boot_list rfl) pa_nil)))) (pss_cons (ps_expr (pe_bm PySem.F.plainAttrs_list PySem.F.slot_list_append PySem.F.type_list_append mt_append (pv 3) (pa_cons pe_str pa_nil)))
      (pss_one (ps_if (pt_cmpR (op_neT hr.units) (pv 9) (pv 3) (nomark _)) (pss_one (ps_ret pe_bl)) pss_nil))) pss_nil))))))))))))))
      (pss_one (ps_ret pe_bl))), ?_⟩
    obtain ⟨a, ns, rfl, hS, hlen, k⟩ := h
    rw [show L2.start ["_law_script", "_law_cell", "_law_well_here", "_law_thing", "_law_rows", "_law_text", "_law_error", "_law_k", "_law_row", "_law_kept", "_law_spot"] [V.ref a] = ([some (V.ref a), none, none, none, none, none, none, none, none, none, none] : List (Option V)) from rfl]
    have kh := KH.start (H := H)
    walk_at "go"
    refine r_cat (by walk_at "hp") (by walk_at "hp") (sz_of (by have := cutV_length (ns.map V.int) none (some 6); simp at *; omega)) ?_
    walk_at "go"
    rename_i l H1 nl k1
    refine ForG.mk (xs := cutV (ns.map V.int) none (some 6) ++ [V.int 0]) (fun i σ H2 => (∃ v1 v2 v3 v4 v5 v6 v7 v8 v9 v10 : Option V, σ = [some (.ref a), v1, v2, v3, v4, v5, v6, v7, v8, v9, v10]) ∧ Ext H1 H2)
      ⟨⟨_, _, _, _, _, _, _, _, _, _, rfl⟩, Ext.refl _⟩ (fun i σ H2 _ z => SqL.of (z.2 _ _ (k1.find .here))) ?_ ?_
    · rintro i x σ H2 hx ⟨⟨v1, v2, v3, v4, v5, v6, v7, v8, v9, v10, rfl⟩, e2⟩
      obtain ⟨c, rfl⟩ : ∃ c, x = V.int c := by
        rcases List.mem_append.mp (List.mem_of_getElem? hx) with z | z
        · obtain ⟨c, _, e⟩ := List.mem_map.mp (mem_cutV z)
          exact ⟨c, e.symm⟩
        · exact ⟨0, by simpa using z⟩
      have kh := KH.start (H := H2)
      walk_at "go"
      refine ⟨c, rfl, fun aw bw wo => ?_⟩
      walk_at "go"
      rename_i pl Hl nl2 kl
      refine ⟨_, _, _, aw, bw, 0, 0, rfl, by walk_at "hp", by walk_at "sql", by simp, by simp, ne_of (kl.find (by walk_at "lk")) (kl.find (by walk_at "lk")) (by intro z; cases z), wo, by decide, fun x a3 c3 H3 hx3 wo3 fr3 hp3 => ?_⟩
      rename_i pw Hw nw kw _ _ _ _ _ _ _ _ _ _ _ _ _ _ _ _
      have k3 := KH.up kl (by walk_at "ul") fr3 hp3 (.inr nw)
      simp only [List.mem_cons, List.not_mem_nil, or_false] at hx3
      have ht : ThingAt H2 H3 1 x ∧ x ≠ V.ref pw := by
        rcases hx3 with rfl | rfl | rfl | rfl | rfl | rfl | rfl | rfl | rfl | rfl | rfl
        · exact ⟨.flat (.inl rfl), fun z => nomatch z⟩
        · exact ⟨.flat (flat_int _), fun z => nomatch z⟩
        · exact ⟨.flat (flat_int _), fun z => nomatch z⟩
        · exact ⟨.flat (.inr (.inr (.inr ⟨_, rfl, by decide +kernel⟩))), fun z => nomatch z⟩
        · exact ⟨.flat (.inr (.inr (.inr ⟨_, rfl, by decide +kernel⟩))), fun z => nomatch z⟩
        · exact ⟨.tup (k3.find (by walk_at "lk")) ab_flat, fun z => ne_of (k3.find (by walk_at "lk")) hp3 (by intro y; cases y) (V.ref.inj z)⟩
        · exact ⟨.flat (flat_bl _), fun z => nomatch z⟩
        · exact ⟨.lst (by assumption) (k3.find (by walk_at "lk")) (by simp) (by simp), fun z => ne_of (k3.find (by walk_at "lk")) hp3 (by intro y; cases y) (V.ref.inj z)⟩
        · exact ⟨.dct (k3.find (by walk_at "lk")), fun z => ne_of (k3.find (by walk_at "lk")) hp3 (by intro y; cases y) (V.ref.inj z)⟩
        · exact ⟨.lst (by assumption) (k3.find (by walk_at "lk")) non_flat (by simp), fun z => ne_of (k3.find (by walk_at "lk")) hp3 (by intro y; cases y) (V.ref.inj z)⟩
        · exact ⟨.flat (flat_int _), fun z => nomatch z⟩
      obtain ⟨ht, hne⟩ := ht
      clear hx3
      walk_at "go"
      refine ⟨x, rfl, fun r ts H4 nr er hr4 Rs => ?_⟩
      have k4 := k3.consN er nr hr4
      have nr2 : H2 r = none := k3.fresh nr
      have e24 : Ext H2 H4 := k4.extE
      have hxr : x ≠ V.ref r := fun z => by
        obtain ⟨o, ho⟩ := ht.some z
        rw [nr] at ho
        cases ho
      have ht4 := ht.ext er
      have hp4 := er _ _ hp3
      have kk4 := k4.rebase1 hp4
      clear k4 k3 kl
      walk_at "go"
      rename_i pl5 Hl5 nl5 kl5
      refine ⟨_, _, _, _, _, _, 1, rfl, by walk_at "hp", by walk_at "sql", by simp, by simp, ne_of (kl5.find (by walk_at "lk")) (kl5.find (by walk_at "lk")) (by intro z; cases z), wo3, by decide, fun x5 a5 c5 H5 hx5 wo5 fr5 hp5 => ?_⟩
      obtain ⟨m, rfl⟩ : ∃ m, x5 = V.str m := by
        simp only [List.mem_cons, List.not_mem_nil, or_false] at hx5
        rcases hx5 with rfl | rfl | rfl <;> exact ⟨_, rfl⟩
      have k5 := KH.up kl5 (by walk_at "ul") fr5 hp5 (.inl (by simp))
      clear kl5 kk4 hx5
      walk_at "go"
      rename_i e1 t1 Ha1 ka1 e2' t2 Ha2 ka2 e3 t3 Ha3 ka3 e4 t4 Ha4 ka4 e5 t5 Ha5 ka5 l5 H6 n5 k6
      have ht6 := ht4.fr k6.fr (by simpa using hne)
      have hr6 : H6 r = some (.lst (ts.map V.ref)) := k6.find (by walk_at "lk")
      have Rs6 := Paired.mapP Rs fun _ _ z => RowAt.fr z hp4 k6.fr
      have PE : Paired (fun (nm : Str) (e : Addr) => ExT H6 e (He.ga K nm) (.str m)) plain [e1, e2', e3, e4, e5] :=
        .cons ⟨t1, k6.find (by walk_at "lk"), k6.find (by walk_at "lk")⟩ (.cons ⟨t2, k6.find (by walk_at "lk"), k6.find (by walk_at "lk")⟩ (.cons ⟨t3, k6.find (by walk_at "lk"), k6.find (by walk_at "lk")⟩ (.cons ⟨t4, k6.find (by walk_at "lk"), k6.find (by walk_at "lk")⟩ (.cons ⟨t5, k6.find (by walk_at "lk"), k6.find (by walk_at "lk")⟩ .nil))))
      have hl5 := k6.find .here
      have ne5 : l5 ≠ r := (ne_of_none hr4 n5).symm
      have e26 : Ext H2 H6 := e24.frN k6.fr nw
      clear k6 ka1 ka2 ka3 ka4 ka5 k5
      refine ForG.mk (xs := [e1, e2', e3, e4, e5].map V.ref) (fun i σ H => (∃ v6 : Option V, σ = [some (.ref a), some (.int c), some (.ref pw), some x, some (.ref r), some (.str m), v6, v7, v8, v9, v10]) ∧ ∃ ts', Fr [r] H6 H ∧ H r = some (.lst (ts'.map V.ref)) ∧ Paired (RowAt K H x) (kinds.take (19 + i)) ts')
        ⟨⟨_, rfl⟩, ts, Fr.refl _ _, hr6, Rs6⟩ (fun i σ H _ z => by
          obtain ⟨_, _, f6, _⟩ := z
          exact SqL.of (f6 _ _ (by simpa using ne5) hl5)) ?_ ?_
      · rintro i y σ H7 hy ⟨⟨v6, rfl⟩, ts', f6, hr7, Rs7⟩
        obtain ⟨e, he, rfl⟩ : ∃ e, [e1, e2', e3, e4, e5][i]? = some e ∧ y = V.ref e := by
          rw [List.getElem?_map] at hy
          cases q : ([e1, e2', e3, e4, e5] : List Addr)[i]? with
          | none =>
            rw [q] at hy
            cases hy
          | some e =>
            rw [q] at hy
            exact ⟨e, rfl, (Option.some.inj hy).symm⟩
        obtain ⟨nm, hnm, X6⟩ := paired_get' PE he
        have X7 := ExT.fr X6 hr6 f6
        have hlen7 : ts'.length ≤ 24 := by
          rw [← Paired.length Rs7, List.length_take]
          exact Nat.le_trans (Nat.min_le_right _ _) (by decide)
        have nmp : nm ∈ plain := List.mem_of_getElem? hnm
        have nmk : nm ∈ kinds := List.mem_append_right _ nmp
        have kh := KH.start1 hr7
        walk_at "go"
        have X8 := X7
        obtain ⟨tx, hx1, hx2⟩ := X7
        refine ⟨e, _, tx, m, rfl, hx1, hx2, hstr nm nmp, S.sb nm nmk, ?_⟩
        walk_at "go"
        rw [if_neg (by simp)]
        walk_at "go"
        rename_i tn Hn nn kn Hz kz
        refine ⟨⟨_, rfl⟩, ts' ++ [tn], f6.trans kz.fr, (kz.find (o := .lst (ts'.map V.ref ++ [V.ref tn])) (by walk_at "lk")).trans (by rw [List.map_append]; rfl), ?_⟩
        rw [kinds_take hnm]
        exact paired_append (Paired.mapP Rs7 fun _ _ z => RowAt.fr z hr7 kz.fr) (.cons ⟨e, kz.find .here, (ExT.fr X8 hr7 kz.fr).at_⟩ .nil)
      · rintro σ H7 ⟨⟨v6, rfl⟩, ts7, f6, hr7, Rs7⟩
        have Rs7 : Paired (RowAt K H7 x) kinds ts7 := Rs7
        have ht7 := ht6.fr f6 (by simpa using hxr)
        have e27 := e26.frN f6 nr2
        walk_at "go"
        refine ForE.mk (xs := ts7.map V.ref) (fun i σ H => (∃ v6 v7 v8 v9 v10 : Option V, σ = [some (.ref a), some (.int c), some (.ref pw), some x, some (.ref r), some (.str m), v6, v7, v8, v9, v10]) ∧ H r = some (.lst (ts7.map V.ref)) ∧ Paired (RowAt K H x) kinds ts7 ∧ ThingAt H2 H (1 + i) x ∧ Ext H2 H)
          ⟨⟨_, _, _, _, _, rfl⟩, hr7, Rs7, ht7, e27⟩ (fun i σ H _ z => SqL.of z.2.1) ?_ ?_
        · rintro i y σ H8 hy ⟨⟨w6, w7, w8, w9, w10, rfl⟩, hr8, Rs8, ht8, e28⟩
          obtain ⟨t, htt, rfl⟩ : ∃ t, ts7[i]? = some t ∧ y = V.ref t := by
            rw [List.getElem?_map] at hy
            cases q : ts7[i]? with
            | none =>
              rw [q] at hy
              cases hy
            | some e =>
              rw [q] at hy
              exact ⟨e, rfl, (Option.some.inj hy).symm⟩
          obtain ⟨nm, hnm, e, h1, h2⟩ := paired_get' Rs8 htt
          have nmk : nm ∈ kinds := List.mem_of_getElem? hnm
          have kh := (KH.start (H := H8)).cons h1 (by simp)
          walk_at "go"
          refine r_isiE (.own _) (h2.ext (KH.extE (by assumption))) (S.is_ nm nmk) (S.rd nm nmk) (S.sb nm nmk) (S.up nm nmk) ?_
          walk_at "go"
          refine r_isiE (.ty _) (h2.ext (KH.extE (by assumption))) (S.is_ nm nmk) (S.rd nm nmk) (S.sb nm nmk) (S.ve nm nmk) ?_
          walk_at "go"
          rename_i pt Ht nt kt
          refine ⟨e, nm, rfl, nmk, h2.ext kt.extE, fun p8 H9 n8 e8 hp8 => ?_⟩
          rw [kinds_eq hnm] at hp8
          have k9 := kt.consN e8 n8 hp8
          walk_at "go"
          refine ⟨24, rfl, by decide, by decide, lcR_pure (fun j => V.bl (decide (V.int (i : Int) = V.int (0 + (j : Int))))) (by decide) ?_ ?_⟩
          · intro j H' R N hj e' hR
            refine r_name (.there (.there (.there (.there (.there (.there (.there (.there (.there (.there .here)))))))))) ?_
            refine ⟨rfl, ?_⟩
            refine r_yes ?_
            walk_at "go"
            exact hR _ (Ext.refl _)
          · intro p9 H10 n9 e9 hp9
            have k10 := k9.consN e9 n9 hp9
            have hp8' := k10.find (.there .here)
            walk_at "go"
            refine ne_same (.lst (SqL.of hp8') (flats_dp range_flat)) (.lst (SqL.of hp9) (flats_dp range_flat)) (lst_shaped range_flat) ?_
            have ht10 := ht8.ext k10.extE
            obtain ⟨tc, tb, tl, ty, hb, hl, hlt⟩ := ht10.ty (K := K)
            walk_at "go"
            refine ht10.ne ?_
            walk_at "go"
            refine ⟨x, .ty "bool", tc, .type "bool", tb, rfl, .ty _, ty, hb, ?_⟩
            walk_at "go"
            refine ⟨x, .ty "bool", tc, .type "bool", tb, rfl, .ty _, ty, hb, ?_⟩
            walk_at "go"
            rw [if_neg (by simp)]
            walk_at "go"
            refine ⟨x, .ty "list", tc, .type "list", tl, rfl, .ty _, ty, hl, ?_⟩
            walk_at "go"
            cases tl with
            | true =>
              obtain ⟨q, xs, rfl, q0, hq, fq, nq⟩ := hlt rfl
              have kq := KH.start1 hq
              have hrq : r ≠ q := fun z => hxr (by rw [z])
              have i24 : i < 24 := (List.getElem?_eq_some_iff.mp hnm).1
              walk_at "go"
              rename_i H11 k11
              have ht11 : ThingAt H2 H11 (1 + (i + 1)) (V.ref q) := .lst q0 (k11.find .here) (more_flat fq) (by rw [List.length_append]; show xs.length + 1 ≤ 1 + (i + 1); omega)
              refine ht11.ne ?_
              walk_at "go"
              exact ⟨⟨_, _, _, _, _, rfl⟩, k11.fr _ _ (by simpa using hrq) (k10.extE _ _ hr8), Paired.mapP Rs8 fun _ _ z => RowAt.fr (z.ext k10.extE) hq k11.fr, ht11, (e28.trans k10.extE).frN k11.fr q0⟩
            | false =>
              walk_at "go"
              exact ⟨⟨_, _, _, _, _, rfl⟩, k10.extE _ _ hr8, Paired.mapP Rs8 fun _ _ z => z.ext k10.extE, ht10.mono (by omega), e28.trans k10.extE⟩
        · rintro σ H8 ⟨⟨w6, w7, w8, w9, w10, rfl⟩, _, _, _, e28⟩
          exact ⟨⟨_, _, _, _, _, _, _, _, _, _, rfl⟩, e2.trans e28⟩
    · rintro σ H2 ⟨⟨v1, v2, v3, v4, v5, v6, v7, v8, v9, v10, rfl⟩, e2⟩
      walk_at "go"
      exact k _
end
end K05

set_option Elab.async false
set_option linter.all false
set_option maxRecDepth 100000
set_option maxHeartbeats 8000000
namespace K05
open PySem L2 Wc
theorem kinds_glo : ∀ x, x ∈ kinds → x ∈ gloL := by
  decide +kernel
theorem facts {P : Program} {w : World} {K : PySem.W.Frag} {h : Heap} {mg : Str → Option Value} {f : Addr} (X : K.In h) (G : h.Ns mainGlobals mg) (hfa : mg ("law" : Str) = some (.ref f)) (c : SaysC fa fn ex K) :
    ∃ fd : FuncData, (∀ (s : Shared) (v : Value), BindsTo s fd ⟨[v], []⟩ [("_law_script", v)]) ∧ ∀ base : Heap, K.In base → base.Ns mainGlobals mg → FnOk P w K mg base CX0 5 f fd ["_law_script"] (spLaw K) := by
  have glo : ∀ x : Str, x ∈ gloL → mg x = some (.ref (He.ga K x)) := fun x hx => He.glo_ok X G (c.fact (List.mem_append_left _ (List.mem_map_of_mem hx)))
  have free : ∀ x : Str, x ∈ freeL → mg x = none := fun x hx => He.free_ok X G (c.fact (List.mem_append_right _ (List.mem_append_left _ (List.mem_map_of_mem hx))))
  have exc := fun (x : Str) (hx : x ∈ plain) => He.exc_ok (c.fact (f := .exc x) (List.mem_append_right _ (List.mem_append_right _ (List.mem_map_of_mem hx))))
  obtain ⟨x1, x2⟩ := He.ba c.more
  obtain ⟨x2, x3⟩ := He.ba x2
  obtain ⟨x3, x4⟩ := He.ba x3
  obtain ⟨x4, x5⟩ := He.ba x4
  have W := baseB_ok x1
  have up : ∀ x, x ∈ kinds → _ := fun x hx => List.all_eq_true.mp x3 x hx
  have kit : ∀ x, x ∈ kinds → ∀ y, y ∈ kinds → PySem.W.kitOne K (.ref (He.ga K x)) (.ref (He.ga K y)) = some (decide (x = y)) := fun x hx y hy => of_decide_eq_true (List.all_eq_true.mp (List.all_eq_true.mp x2 x hx) y hy)
  have T : Bt mg := ⟨free _ (by decide +kernel), free _ (by decide +kernel), free _ (by decide +kernel), free _ (by decide +kernel), free _ (by decide +kernel), free _ (by decide +kernel), free _ (by decide +kernel), free _ (by decide +kernel), free _ (by decide +kernel)⟩
  have S : Ks K mg := ⟨kit, fun x hx => exIsB_ok (He.ba (He.ba (up x hx)).2).1, fun x hx => exRdB_ok (He.ba (He.ba (He.ba (up x hx)).2).2).1, fun x hx => of_decide_eq_true (He.ba (up x hx)).1,
    fun x hx => of_decide_eq_true (He.ba (He.ba (He.ba (He.ba (up x hx)).2).2).2).1, fun x hx => of_decide_eq_true (He.ba (He.ba (He.ba (He.ba (up x hx)).2).2).2).2,
    fun x hx => glo x (kinds_glo x hx)⟩
  have own_ : ∀ p, p ∈ own → OexC K (He.ga K p.1) ∧ ExIn K (He.ga K p.1) (He.ma K (He.ga K p.1) "__init__") ∧ PySem.W.findIn K (.ref (He.ga K p.1)) p.2 = some none := fun p hp => by
    obtain ⟨z1, z2⟩ := He.ba (List.all_eq_true.mp x4 p hp)
    obtain ⟨z2, z3⟩ := He.ba z2
    exact ⟨exB_ok z1, exInB_ok z2, of_decide_eq_true z3⟩
  have gW := glo "WorldError" (by decide +kernel)
  have X_NotInt : PlainOk K mg "NotInt" (He.ga K "NotInt") := ⟨glo "NotInt" (by decide +kernel), (exc "NotInt" (by decide +kernel)).1, (exc "NotInt" (by decide +kernel)).2.1⟩
  have X_TooLong : PlainOk K mg "TooLong" (He.ga K "TooLong") := ⟨glo "TooLong" (by decide +kernel), (exc "TooLong" (by decide +kernel)).1, (exc "TooLong" (by decide +kernel)).2.1⟩
  have X_TooDeep : PlainOk K mg "TooDeep" (He.ga K "TooDeep") := ⟨glo "TooDeep" (by decide +kernel), (exc "TooDeep" (by decide +kernel)).1, (exc "TooDeep" (by decide +kernel)).2.1⟩
  have X_NotEnded : PlainOk K mg "NotEnded" (He.ga K "NotEnded") := ⟨glo "NotEnded" (by decide +kernel), (exc "NotEnded" (by decide +kernel)).1, (exc "NotEnded" (by decide +kernel)).2.1⟩
  have X_NoRows : PlainOk K mg "NoRows" (He.ga K "NoRows") := ⟨glo "NoRows" (by decide +kernel), (exc "NoRows" (by decide +kernel)).1, (exc "NoRows" (by decide +kernel)).2.1⟩
  obtain ⟨fd_NoWorld, F_NoWorld⟩ := c.def_ (d := d_NoWorld_init) (by simp [fn])
  have E_NoWorld : ∀ base, ErrOk P w K mg base "NoWorld" (He.ga K "NoWorld") "world" := fun base => ⟨glo "NoWorld" (by decide +kernel), (own_ ("NoWorld", "world") (by decide +kernel)).1, (own_ ("NoWorld", "world") (by decide +kernel)).2.2, _, fd_NoWorld, ["self", "world"], (own_ ("NoWorld", "world") (by decide +kernel)).2.1,
    FunD.bindsN F_NoWorld (fun _ _ _ _ _ _ us hl => match us, hl with | [_, _], _ => rfl), ok_init_NoWorld F_NoWorld W gW⟩
  obtain ⟨fd_NoClass, F_NoClass⟩ := c.def_ (d := d_NoClass_init) (by simp [fn])
  have E_NoClass : ∀ base, ErrOk P w K mg base "NoClass" (He.ga K "NoClass") "name" := fun base => ⟨glo "NoClass" (by decide +kernel), (own_ ("NoClass", "name") (by decide +kernel)).1, (own_ ("NoClass", "name") (by decide +kernel)).2.2, _, fd_NoClass, ["self", "name"], (own_ ("NoClass", "name") (by decide +kernel)).2.1,
    FunD.bindsN F_NoClass (fun _ _ _ _ _ _ us hl => match us, hl with | [_, _], _ => rfl), ok_init_NoClass F_NoClass W gW⟩
  obtain ⟨fd_Taken, F_Taken⟩ := c.def_ (d := d_Taken_init) (by simp [fn])
  have E_Taken : ∀ base, ErrOk P w K mg base "Taken" (He.ga K "Taken") "name" := fun base => ⟨glo "Taken" (by decide +kernel), (own_ ("Taken", "name") (by decide +kernel)).1, (own_ ("Taken", "name") (by decide +kernel)).2.2, _, fd_Taken, ["self", "name"], (own_ ("Taken", "name") (by decide +kernel)).2.1,
    FunD.bindsN F_Taken (fun _ _ _ _ _ _ us hl => match us, hl with | [_, _], _ => rfl), ok_init_Taken F_Taken W gW⟩
  obtain ⟨fd_NoField, F_NoField⟩ := c.def_ (d := d_NoField_init) (by simp [fn])
  have E_NoField : ∀ base, ErrOk P w K mg base "NoField" (He.ga K "NoField") "field" := fun base => ⟨glo "NoField" (by decide +kernel), (own_ ("NoField", "field") (by decide +kernel)).1, (own_ ("NoField", "field") (by decide +kernel)).2.2, _, fd_NoField, ["self", "field"], (own_ ("NoField", "field") (by decide +kernel)).2.1,
    FunD.bindsN F_NoField (fun _ _ _ _ _ _ us hl => match us, hl with | [_, _], _ => rfl), ok_init_NoField F_NoField W gW⟩
  obtain ⟨fd_NoCount, F_NoCount⟩ := c.def_ (d := d_NoCount_init) (by simp [fn])
  have E_NoCount : ∀ base, ErrOk P w K mg base "NoCount" (He.ga K "NoCount") "count" := fun base => ⟨glo "NoCount" (by decide +kernel), (own_ ("NoCount", "count") (by decide +kernel)).1, (own_ ("NoCount", "count") (by decide +kernel)).2.2, _, fd_NoCount, ["self", "count"], (own_ ("NoCount", "count") (by decide +kernel)).2.1,
    FunD.bindsN F_NoCount (fun _ _ _ _ _ _ us hl => match us, hl with | [_, _], _ => rfl), ok_init_NoCount F_NoCount W gW⟩
  obtain ⟨fd_NoBody, F_NoBody⟩ := c.def_ (d := d_NoBody_init) (by simp [fn])
  have E_NoBody : ∀ base, ErrOk P w K mg base "NoBody" (He.ga K "NoBody") "path" := fun base => ⟨glo "NoBody" (by decide +kernel), (own_ ("NoBody", "path") (by decide +kernel)).1, (own_ ("NoBody", "path") (by decide +kernel)).2.2, _, fd_NoBody, ["self", "path"], (own_ ("NoBody", "path") (by decide +kernel)).2.1,
    FunD.bindsN F_NoBody (fun _ _ _ _ _ _ us hl => match us, hl with | [_, _], _ => rfl), ok_init_NoBody F_NoBody W gW⟩
  obtain ⟨fd_NoParts, F_NoParts⟩ := c.def_ (d := d_NoParts_init) (by simp [fn])
  have E_NoParts : ∀ base, ErrOk P w K mg base "NoParts" (He.ga K "NoParts") "parts" := fun base => ⟨glo "NoParts" (by decide +kernel), (own_ ("NoParts", "parts") (by decide +kernel)).1, (own_ ("NoParts", "parts") (by decide +kernel)).2.2, _, fd_NoParts, ["self", "parts"], (own_ ("NoParts", "parts") (by decide +kernel)).2.1,
    FunD.bindsN F_NoParts (fun _ _ _ _ _ _ us hl => match us, hl with | [_, _], _ => rfl), ok_init_NoParts F_NoParts W gW⟩
  obtain ⟨fd_NoFit, F_NoFit⟩ := c.def_ (d := d_NoFit_init) (by simp [fn])
  have E_NoFit : ∀ base, ErrOk P w K mg base "NoFit" (He.ga K "NoFit") "field" := fun base => ⟨glo "NoFit" (by decide +kernel), (own_ ("NoFit", "field") (by decide +kernel)).1, (own_ ("NoFit", "field") (by decide +kernel)).2.2, _, fd_NoFit, ["self", "field"], (own_ ("NoFit", "field") (by decide +kernel)).2.1,
    FunD.bindsN F_NoFit (fun _ _ _ _ _ _ us hl => match us, hl with | [_, _], _ => rfl), ok_init_NoFit F_NoFit W gW⟩
  obtain ⟨fd_NoFunction, F_NoFunction⟩ := c.def_ (d := d_NoFunction_init) (by simp [fn])
  have E_NoFunction : ∀ base, ErrOk P w K mg base "NoFunction" (He.ga K "NoFunction") "function" := fun base => ⟨glo "NoFunction" (by decide +kernel), (own_ ("NoFunction", "function") (by decide +kernel)).1, (own_ ("NoFunction", "function") (by decide +kernel)).2.2, _, fd_NoFunction, ["self", "function"], (own_ ("NoFunction", "function") (by decide +kernel)).2.1,
    FunD.bindsN F_NoFunction (fun _ _ _ _ _ _ us hl => match us, hl with | [_, _], _ => rfl), ok_init_NoFunction F_NoFunction W gW⟩
  obtain ⟨fd_NoSignature, F_NoSignature⟩ := c.def_ (d := d_NoSignature_init) (by simp [fn])
  have E_NoSignature : ∀ base, ErrOk P w K mg base "NoSignature" (He.ga K "NoSignature") "signature" := fun base => ⟨glo "NoSignature" (by decide +kernel), (own_ ("NoSignature", "signature") (by decide +kernel)).1, (own_ ("NoSignature", "signature") (by decide +kernel)).2.2, _, fd_NoSignature, ["self", "signature"], (own_ ("NoSignature", "signature") (by decide +kernel)).2.1,
    FunD.bindsN F_NoSignature (fun _ _ _ _ _ _ us hl => match us, hl with | [_, _], _ => rfl), ok_init_NoSignature F_NoSignature W gW⟩
  obtain ⟨fd_NotThere, F_NotThere⟩ := c.def_ (d := d_NotThere_init) (by simp [fn])
  have E_NotThere : ∀ base, ErrOk P w K mg base "NotThere" (He.ga K "NotThere") "signature" := fun base => ⟨glo "NotThere" (by decide +kernel), (own_ ("NotThere", "signature") (by decide +kernel)).1, (own_ ("NotThere", "signature") (by decide +kernel)).2.2, _, fd_NotThere, ["self", "signature"], (own_ ("NotThere", "signature") (by decide +kernel)).2.1,
    FunD.bindsN F_NotThere (fun _ _ _ _ _ _ us hl => match us, hl with | [_, _], _ => rfl), ok_init_NotThere F_NotThere W gW⟩
  obtain ⟨fd_NoMethod, F_NoMethod⟩ := c.def_ (d := d_NoMethod_init) (by simp [fn])
  have E_NoMethod : ∀ base, ErrOk P w K mg base "NoMethod" (He.ga K "NoMethod") "call" := fun base => ⟨glo "NoMethod" (by decide +kernel), (own_ ("NoMethod", "call") (by decide +kernel)).1, (own_ ("NoMethod", "call") (by decide +kernel)).2.2, _, fd_NoMethod, ["self", "call"], (own_ ("NoMethod", "call") (by decide +kernel)).2.1,
    FunD.bindsN F_NoMethod (fun _ _ _ _ _ _ us hl => match us, hl with | [_, _], _ => rfl), ok_init_NoMethod F_NoMethod W gW⟩
  obtain ⟨fd_Ambiguous, F_Ambiguous⟩ := c.def_ (d := d_Ambiguous_init) (by simp [fn])
  have E_Ambiguous : ∀ base, ErrOk P w K mg base "Ambiguous" (He.ga K "Ambiguous") "call" := fun base => ⟨glo "Ambiguous" (by decide +kernel), (own_ ("Ambiguous", "call") (by decide +kernel)).1, (own_ ("Ambiguous", "call") (by decide +kernel)).2.2, _, fd_Ambiguous, ["self", "call"], (own_ ("Ambiguous", "call") (by decide +kernel)).2.1,
    FunD.bindsN F_Ambiguous (fun _ _ _ _ _ _ us hl => match us, hl with | [_, _], _ => rfl), ok_init_Ambiguous F_Ambiguous W gW⟩
  obtain ⟨fd_NoValues, F_NoValues⟩ := c.def_ (d := d_NoValues_init) (by simp [fn])
  have E_NoValues : ∀ base, ErrOk P w K mg base "NoValues" (He.ga K "NoValues") "given" := fun base => ⟨glo "NoValues" (by decide +kernel), (own_ ("NoValues", "given") (by decide +kernel)).1, (own_ ("NoValues", "given") (by decide +kernel)).2.2, _, fd_NoValues, ["self", "given"], (own_ ("NoValues", "given") (by decide +kernel)).2.1,
    FunD.bindsN F_NoValues (fun _ _ _ _ _ _ us hl => match us, hl with | [_, _], _ => rfl), ok_init_NoValues F_NoValues W gW⟩
  obtain ⟨fd_NoSteps, F_NoSteps⟩ := c.def_ (d := d_NoSteps_init) (by simp [fn])
  have E_NoSteps : ∀ base, ErrOk P w K mg base "NoSteps" (He.ga K "NoSteps") "steps" := fun base => ⟨glo "NoSteps" (by decide +kernel), (own_ ("NoSteps", "steps") (by decide +kernel)).1, (own_ ("NoSteps", "steps") (by decide +kernel)).2.2, _, fd_NoSteps, ["self", "steps"], (own_ ("NoSteps", "steps") (by decide +kernel)).2.1,
    FunD.bindsN F_NoSteps (fun _ _ _ _ _ _ us hl => match us, hl with | [_, _], _ => rfl), ok_init_NoSteps F_NoSteps W gW⟩
  obtain ⟨fd_NoTask, F_NoTask⟩ := c.def_ (d := d_NoTask_init) (by simp [fn])
  have E_NoTask : ∀ base, ErrOk P w K mg base "NoTask" (He.ga K "NoTask") "task" := fun base => ⟨glo "NoTask" (by decide +kernel), (own_ ("NoTask", "task") (by decide +kernel)).1, (own_ ("NoTask", "task") (by decide +kernel)).2.2, _, fd_NoTask, ["self", "task"], (own_ ("NoTask", "task") (by decide +kernel)).2.1,
    FunD.bindsN F_NoTask (fun _ _ _ _ _ _ us hl => match us, hl with | [_, _], _ => rfl), ok_init_NoTask F_NoTask W gW⟩
  obtain ⟨fd_NoEntry, F_NoEntry⟩ := c.def_ (d := d_NoEntry_init) (by simp [fn])
  have E_NoEntry : ∀ base, ErrOk P w K mg base "NoEntry" (He.ga K "NoEntry") "number" := fun base => ⟨glo "NoEntry" (by decide +kernel), (own_ ("NoEntry", "number") (by decide +kernel)).1, (own_ ("NoEntry", "number") (by decide +kernel)).2.2, _, fd_NoEntry, ["self", "number"], (own_ ("NoEntry", "number") (by decide +kernel)).2.1,
    FunD.bindsN F_NoEntry (fun _ _ _ _ _ _ us hl => match us, hl with | [_, _], _ => rfl), ok_init_NoEntry F_NoEntry W gW⟩
  obtain ⟨fd_NoChange, F_NoChange⟩ := c.def_ (d := d_NoChange_init) (by simp [fn])
  have E_NoChange : ∀ base, ErrOk P w K mg base "NoChange" (He.ga K "NoChange") "at" := fun base => ⟨glo "NoChange" (by decide +kernel), (own_ ("NoChange", "at") (by decide +kernel)).1, (own_ ("NoChange", "at") (by decide +kernel)).2.2, _, fd_NoChange, ["self", "at"], (own_ ("NoChange", "at") (by decide +kernel)).2.1,
    FunD.bindsN F_NoChange (fun _ _ _ _ _ _ us hl => match us, hl with | [_, _], _ => rfl), ok_init_NoChange F_NoChange W gW⟩
  obtain ⟨fd_NoStep, F_NoStep⟩ := c.def_ (d := d_NoStep_init) (by simp [fn])
  have E_NoStep : ∀ base, ErrOk P w K mg base "NoStep" (He.ga K "NoStep") "at" := fun base => ⟨glo "NoStep" (by decide +kernel), (own_ ("NoStep", "at") (by decide +kernel)).1, (own_ ("NoStep", "at") (by decide +kernel)).2.2, _, fd_NoStep, ["self", "at"], (own_ ("NoStep", "at") (by decide +kernel)).2.1,
    FunD.bindsN F_NoStep (fun _ _ _ _ _ _ us hl => match us, hl with | [_, _], _ => rfl), ok_init_NoStep F_NoStep W gW⟩
  obtain ⟨fd_l_well, F_l_well⟩ := c.def_ (d := d_l_well) (by simp [fn])
  have D_l_well : ∀ base, DfOk P w K mg base CX0 1 "_law_well" ["_law_cell"] spWell := fun base => ⟨_, fd_l_well, glo "_law_well" (by decide +kernel), F_l_well.kp, FunD.bindsN F_l_well (fun _ _ _ _ _ _ us hl => match us, hl with | [_], _ => rfl), ok_well F_l_well T⟩
  obtain ⟨fd_l_draw, F_l_draw⟩ := c.def_ (d := d_l_draw) (by simp [fn])
  have D_l_draw : ∀ base, DfOk P w K mg base CX0 1 "_law_draw" ["_law_well_here", "_law_many"] spDraw := fun base => ⟨_, fd_l_draw, glo "_law_draw" (by decide +kernel), F_l_draw.kp, FunD.bindsN F_l_draw (fun _ _ _ _ _ _ us hl => match us, hl with | [_, _], _ => rfl), ok_draw F_l_draw T⟩
  obtain ⟨fd_l_one, F_l_one⟩ := c.def_ (d := d_l_one) (by simp [fn])
  have D_l_one : ∀ base, DfOk P w K mg base CX0 2 "_law_one" ["_law_well_here", "_law_some"] (spOne K) := fun base => ⟨_, fd_l_one, glo "_law_one" (by decide +kernel), F_l_one.kp, FunD.bindsN F_l_one (fun _ _ _ _ _ _ us hl => match us, hl with | [_, _], _ => rfl), ok_one F_l_one T (D_l_draw base)⟩
  obtain ⟨fd_l_errors, F_l_errors⟩ := c.def_ (d := d_l_errors) (by simp [fn])
  have D_l_errors : ∀ base, DfOk P w K mg base CX0 4 "_law_errors" ["_law_thing"] (spErrors K) := fun base => ⟨_, fd_l_errors, glo "_law_errors" (by decide +kernel), F_l_errors.kp, FunD.bindsN F_l_errors (fun _ _ _ _ _ _ us hl => match us, hl with | [_], _ => rfl), ok_errors F_l_errors T S (E_NoWorld base) (E_NoClass base) (E_Taken base) (E_NoField base) (E_NoCount base) (E_NoBody base) (E_NoParts base) (E_NoFit base) (E_NoFunction base) (E_NoSignature base) (E_NotThere base) (E_NoMethod base) (E_Ambiguous base) (E_NoValues base) (E_NoSteps base) (E_NoTask base) (E_NoEntry base) (E_NoChange base) (E_NoStep base)⟩
  obtain ⟨fd_l_kinds, F_l_kinds⟩ := c.def_ (d := d_l_kinds) (by simp [fn])
  have D_l_kinds : ∀ base, DfOk P w K mg base CX0 1 "_law_kinds" ["_law_error"] (spKinds K) := fun base => ⟨_, fd_l_kinds, glo "_law_kinds" (by decide +kernel), F_l_kinds.kp, FunD.bindsN F_l_kinds (fun _ _ _ _ _ _ us hl => match us, hl with | [_], _ => rfl), ok_kinds F_l_kinds T S⟩
  obtain ⟨fd, F⟩ := c.def_ (d := d_law) (by simp [fn])
  have e := hfa.symm.trans (glo "law" (by decide +kernel))
  cases e
  have b := FunD.bindsA (ps := ["_law_script"]) F fun _ _ _ _ _ _ us hl => match us, hl with | [_], _ => rfl
  exact ⟨fd, fun s v => b s [v] rfl, fun base _ _ => ok_law F T S gW (fun x hx => of_decide_eq_true (List.all_eq_true.mp x5 x hx)) X_NotInt X_TooLong X_TooDeep X_NotEnded X_NoRows (D_l_well base) (D_l_one base) (D_l_errors base) (D_l_kinds base)⟩
end K05
open PySem PySem.W PySem.Calls PyProof.Rows
theorem PySem.Challenge.cw_worldcalls_k05_errors_by_hand_holds : PySem.Challenge.rw_worldcalls_k05_errors_by_hand.Holds := by
  w_on; o_law
  refine HandSHeadRun.head_any (r := OpenLaw.row PySem.Challenge.rw_worldcalls_k05_errors_by_hand) (q := view (OpenLaw.row PySem.Challenge.rw_worldcalls_k05_errors_by_hand).prog [33]) (H := K05.hk) (ob := K05.ob) (M := 12000) (loose := K05.loose) (d := HandSHeadRun.topDef (OpenLaw.row PySem.Challenge.rw_worldcalls_k05_errors_by_hand).prog 33) (kwd := []) K05.ob_eq
    (by kernel_rfl) (fun s => by kernel_rfl) K05.run (by kernel_rfl) (by kernel_rfl) (by kernel_rfl) (by rfl) (by first | assumption | decide +kernel) (by decide +kernel) ⟨rfl, rfl, rfl, rfl, rfl, by decide +kernel⟩ ?hw ?hc
  case hw => w_witness2
  case hc =>
    refine L2.walk_ofE (l := PySem.Challenge.rw_worldcalls_k05_errors_by_hand) (n := 63) (k := 5) (x := "_law_script") (CX := L2.CX0) rfl (by decide) (by kernel_rfl) ⟨rfl, by decide, by decide⟩ ?F (fun _ _ _ _ z => z)
    intro w mg fa h Y G hmg0
    obtain ⟨K, KX, c⟩ := Y
    have hmg : mg ("law" : PySem.Str) = some (.ref fa) := by
      have e : (HandSHeadRun.topDef (OpenLaw.row PySem.Challenge.rw_worldcalls_k05_errors_by_hand).prog 33).name = ("law" : PySem.Str) := by kernel_rfl
      rw [← e]
      exact hmg0
    obtain ⟨fd, hb, hF⟩ := K05.facts (P := (PySem.Challenge.rw_worldcalls_k05_errors_by_hand).prog) (w := w) KX G hmg c
    exact ⟨K, fd, K05.spLaw K, KX, hb, fun H a ns hl _ hS => ⟨a, ns, rfl, hS, hl, fun _ => rfl⟩, hF⟩
#print axioms PySem.Challenge.cw_worldcalls_k05_errors_by_hand_holds

