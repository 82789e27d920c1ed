import PyProof.Rows.All
import Wide.All
import OpenK.AllK
import Wide.FinOn
import KE.KExcIs
import HandS.ForExc
import HandS.ForMost
import HandS.More
import HandS.Defaults
import HandS.ExcInit
import HandS.ExcValue
import HandS.RaiseMore
import HandS.IsInst
import HandS.ClsMeth
import HandS.Head0
import HandS.Head1
import HandS.Head2
import HandS.HeadEnd
import HandS.HeadHook1
import HandS.HeadHook2
import HandS.HeadHook3
import HandS.HeadHook4
import HandS.Lambda
import HandS.HeadWalk
import HandS.EndTab
import HandS.TryMany
import HandS.TupAny
import HandS.Walk
import HandS.ExcField
import HandS.ExcOwn
import HandS.Style
import HandS.DeepEq
import HandS.OwnEq
import HandS.SetKeys
import HandS.BoundDict
import PyProof.DictMoreH
import KE.KDictKeyed
import KE.KDictCopyH
import KE.KeyNested
import KE.KDictOf
import PyProof.NeKinds
import HandS.TupMul
import HandS.Zip
import KE.GoesMore
import KE.GoesEnum
import HandS.Conv
import HandS.SortOrd
import PySem.Challenge.RW_worldcalls_k10_valid_bodies
set_option Elab.async false
set_option linter.all false
set_option maxRecDepth 100000
set_option maxHeartbeats 4000000
namespace Wc
open PySem PySem.Spec PyProof.Rows L2
/-! ### what the written part says of an own exception class, as one Bool -/
def excClsB (K : PySem.W.Frag) (C : Addr) : Bool := match K.lookup C with
  | some ⟨.type t, dd, .cls cd, sl⟩ => decide (t = "type") && (match cd.mro, sl.toList with
    | .ref C' :: bm, [_, _, _, _, some (.builtin n), _] => decide (C' = C) && (decide (n = "ValueError.__new__") && (!cd.hasDel && (cd.hasDict && PySem.HandSPX.refsVE bm)))
    | _, _ => false)
  | _ => false
def exB (K : PySem.W.Frag) (C : Addr) : Bool := excClsB K C && (decide (PySem.W.findIn K (.ref C) "__setattr__" = some (some (.builtin "object.__setattr__"))) &&
  (decide (PySem.W.subIn K (.ref C) (.type "BaseException") = some true) && (decide (PySem.W.typeIn K (.ref C) = some (.type "type")) && PySem.W.keepIn K (.ref C))))
theorem excClsB_ok {K : PySem.W.Frag} {C : Addr} (h : excClsB K C = true) : ∃ nm q N bs bm sn sub ab col dd k0 k1 k2 k3 k5, K.lookup C = some (excClassObj nm q C N bs bm true sn sub ab col dd k0 k1 k2 k3 k5 "ValueError.__new__") ∧ PySem.HandSPX.refsVE bm = true := by
  unfold excClsB at h
  split at h
  · rename_i t dd cd sl lk
    obtain ⟨h1, h2⟩ := He.ba h
    have et := of_decide_eq_true h1
    subst et
    split at h2
    · rename_i C' bm k0 k1 k2 k3 n k5 hm hs
      obtain ⟨h3, h4⟩ := He.ba h2
      obtain ⟨h5, h6⟩ := He.ba h4
      obtain ⟨h7, h8⟩ := He.ba h6
      obtain ⟨h9, h10⟩ := He.ba h8
      have e1 := of_decide_eq_true h3
      have e2 := of_decide_eq_true h5
      subst e1 e2
      obtain ⟨nm, bs, mro, ns, qn, hd, sn, sub, ab, col, del⟩ := cd
      dsimp only at hm h7 h9
      subst hm
      have e3 : del = false := by simpa using h7
      subst e3 h9
      have hsl : sl = #[k0, k1, k2, k3, some (.builtin "ValueError.__new__"), k5] := by
        obtain ⟨l⟩ := sl
        simp only at hs
        rw [hs]
      subst hsl
      exact ⟨nm, qn, ns, bs, bm, sn, sub, ab, col, dd, k0, k1, k2, k3, k5, lk, h10⟩
    · cases h2
  · cases h
theorem exB_ok {K : PySem.W.Frag} {C : Addr} (h : exB K C = true) : OexC K C := by
  obtain ⟨h1, h⟩ := He.ba h
  obtain ⟨h2, h⟩ := He.ba h
  obtain ⟨h3, h⟩ := He.ba h
  obtain ⟨h4, h5⟩ := He.ba h
  exact ⟨excClsB_ok h1, of_decide_eq_true h2, of_decide_eq_true h3, of_decide_eq_true h4, h5⟩
/-- reading an attribute of an exception: no hooks -/
structure ExRd (K : PySem.W.Frag) (C : Addr) : Prop where
  ga : PySem.W.findIn K (.ref C) "__getattribute__" = some (some (.builtin "BaseException.__getattribute__"))
  gg : PySem.W.findIn K (.ref C) "__getattr__" = some none
  hd : PySem.W.hasDictIn K C = true
def exRdB (K : PySem.W.Frag) (C : Addr) : Bool := decide (PySem.W.findIn K (.ref C) "__getattribute__" = some (some (.builtin "BaseException.__getattribute__"))) &&
  (decide (PySem.W.findIn K (.ref C) "__getattr__" = some none) && PySem.W.hasDictIn K C)
theorem exRdB_ok {K : PySem.W.Frag} {C : Addr} (h : exRdB K C = true) : ExRd K C := by
  obtain ⟨h1, h⟩ := He.ba h
  obtain ⟨h2, h3⟩ := He.ba h
  exact ⟨of_decide_eq_true h1, of_decide_eq_true h2, h3⟩
/-- its own __init__ is the def at f -/
structure ExIn (K : PySem.W.Frag) (C f : Addr) : Prop where
  at_ : PySem.W.findIn K (.ref C) "__init__" = some (some (.ref f))
  ty : PySem.W.typeIn K (.ref f) = some (.type "function")
def exInB (K : PySem.W.Frag) (C f : Addr) : Bool := decide (PySem.W.findIn K (.ref C) "__init__" = some (some (.ref f))) && decide (PySem.W.typeIn K (.ref f) = some (.type "function"))
theorem exInB_ok {K : PySem.W.Frag} {C f : Addr} (h : exInB K C f = true) : ExIn K C f := by
  obtain ⟨h1, h2⟩ := He.ba h
  exact ⟨of_decide_eq_true h1, of_decide_eq_true h2⟩
/-- the base class's __init__ read off the class -/
structure BaseIn (K : PySem.W.Frag) (W : Addr) : Prop where
  sp : PySem.W.specialIn K (.ref W) "__getattribute__" = some (some (.builtin "type.__getattribute__"))
  rd : PySem.W.readsIn K W (.type "type") = true
  at_ : PySem.W.findCls K (.ref W) (.type "type") "__init__" = some (.val (.builtin "ValueError.__init__"))
def baseB (K : PySem.W.Frag) (W : Addr) : Bool := decide (PySem.W.specialIn K (.ref W) "__getattribute__" = some (some (.builtin "type.__getattribute__"))) &&
  (PySem.W.readsIn K W (.type "type") && (match PySem.W.findCls K (.ref W) (.type "type") "__init__" with
    | some (.val (.builtin n)) => decide (n = "ValueError.__init__")
    | _ => false))
theorem baseB_ok {K : PySem.W.Frag} {W : Addr} (h : baseB K W = true) : BaseIn K W := by
  obtain ⟨h1, h⟩ := He.ba h
  obtain ⟨h2, h3⟩ := He.ba h
  refine ⟨of_decide_eq_true h1, h2, ?_⟩
  split at h3
  · rename_i n e
    rw [e, of_decide_eq_true h3]
  · cases h3
/-- isinstance of such an exception -/
structure ExIs (K : PySem.W.Frag) (C : Addr) : Prop where
  cl : (PySem.W.clsIn K C).isSome = true
  at_ : PySem.W.findIn K (.ref C) "__class__" = some (some (.builtin "object.__class__"))
  sp : PySem.W.specialIn K (.builtin "object.__class__") "__get__" = some (some (.builtin "getset_descriptor.__get__"))
  tk : PySem.W.takesIn K (.builtin "object.__class__") = some true
  ob : PySem.W.mroIn K C (.type "object") = some true
def exIsB (K : PySem.W.Frag) (C : Addr) : Bool := (PySem.W.clsIn K C).isSome && (decide (PySem.W.findIn K (.ref C) "__class__" = some (some (.builtin "object.__class__"))) &&
  (decide (PySem.W.specialIn K (.builtin "object.__class__") "__get__" = some (some (.builtin "getset_descriptor.__get__"))) && (decide (PySem.W.takesIn K (.builtin "object.__class__") = some true) &&
  decide (PySem.W.mroIn K C (.type "object") = some true))))
theorem exIsB_ok {K : PySem.W.Frag} {C : Addr} (h : exIsB K C = true) : ExIs K C := by
  obtain ⟨h1, h⟩ := He.ba h
  obtain ⟨h2, h⟩ := He.ba h
  obtain ⟨h3, h⟩ := He.ba h
  obtain ⟨h4, h5⟩ := He.ba h
  exact ⟨h1, of_decide_eq_true h2, of_decide_eq_true h3, of_decide_eq_true h4, of_decide_eq_true h5⟩

/-! ### the head's look: the module's names and the model's own table of statics, so many steps; facts, defs, one Bool more -/
def asC (g : Addr → Option Obj) (n : Nat) : List Addr := cStatics :: He.asD g n
abbrev AlC : Type := He.AlD × Bool
def obsC (n : Nat) (fa : List He.Fa) (fn : List He.DefD) (ex : PySem.W.Frag → Bool) (g : Addr → Option Obj) : AlC := (He.obsD fa fn (He.frG g (asC g n)), ex (He.frG g (asC g n)))
def valC (fn : List He.DefD) : AlC := (He.valD fn, true)
structure SaysC (fa : List He.Fa) (fn : List He.DefD) (ex : PySem.W.Frag → Bool) (K : PySem.W.Frag) : Prop where
  d : He.SaysD fa fn K
  more : ex K = true
theorem saysC_of {fa : List He.Fa} {fn : List He.DefD} {ex : PySem.W.Frag → Bool} {n : Nat} {g : Addr → Option Obj} (e : obsC n fa fn ex g = valC fn) : SaysC fa fn ex (He.frG g (asC g n)) :=
  ⟨congrArg (fun z : AlC => z.1) e, congrArg (fun z : AlC => z.2) e⟩
def hookC (n : Nat) (fa : List He.Fa) (fn : List He.DefD) (ex : PySem.W.Frag → Bool) : PySem.W.Hook where
  α := AlC
  obs := fun s => obsC n fa fn ex s.heap.get?
  val := fun _ => valC fn
  says := fun _ h => ∃ K : PySem.W.Frag, K.In h ∧ SaysC fa fn ex K
  of := fun _ _ e => ⟨_, He.frG_in, saysC_of e⟩
  keeps := fun _ _ _ ⟨K, hK, c⟩ k => ⟨K, PySem.W.Frag.In.keeps hK k, c⟩
theorem obsC_eq {n : Nat} {fa : List He.Fa} {fn : List He.DefD} {ex : PySem.W.Frag → Bool} {g : Addr → Option Obj} {s : Shared} (h : ∀ a, g a = s.heap.get? a) : obsC n fa fn ex g = (hookC n fa fn ex).obs s := by
  have e : g = s.heap.get? := funext h
  rw [e] <;> rfl
theorem SaysC.fact {fa : List He.Fa} {fn : List He.DefD} {ex : PySem.W.Frag → Bool} {K : PySem.W.Frag} (c : SaysC fa fn ex K) {f : He.Fa} (h : f ∈ fa) : f.ok K = true := by
  obtain ⟨i, hi, e⟩ := List.mem_iff_getElem.mp h
  exact c.d.fact i (f := f) (by rw [List.getElem?_eq_getElem hi, e])
theorem SaysC.def_ {fa : List He.Fa} {fn : List He.DefD} {ex : PySem.W.Frag → Bool} {K : PySem.W.Frag} (c : SaysC fa fn ex K) {d : He.DefD} (h : d ∈ fn) : ∃ fd, FunD K d.name d.qual d.params d.body d.scope (d.dvs K) (d.kws K) (He.fAd K d.at_) fd := by
  obtain ⟨i, hi, e⟩ := List.mem_iff_getElem.mp h
  exact c.d.def_ i (d := d) (by rw [List.getElem?_eq_getElem hi, e])
end Wc

set_option Elab.async false
set_option linter.all false
set_option maxRecDepth 100000
set_option maxHeartbeats 4000000
/-! own exceptions held as values: making, reading, isinstance, str -/
namespace Wc
open PySem PySem.Spec PyProof.Rows L2
section
variable {X : Cx} {o e : Expr} {es : List Expr} {to te : TE} {ta : TA} {f : Str} {p p' p1 p2 pos : Pos}
/-- W.__init__(self, ..), W an own class over ValueError -/
theorem pe_winit {x : Str} {W : Addr} {pl : Sem Bool} (hg : Gl X x) (hm : X.mg x = some (.ref W)) (B : BaseIn X.K W) (ha : PA X (e :: es) ta) (hdb : (x == ("__debug__" : Str)) = false := by decide)
    (hc : eval (.Call (.Attribute (.Name x p1) "__init__" p2) (e :: es) [] pos) X.env = (do
      let ov ← eval (.Name x p1) X.env
      standAt p2.atName
      let (f, first) ← holding [ov] (getMethod ov "__init__" pl)
      callWith pos f first (backTo pos (starEach (e :: es) X.env)) (backToKw pos (keywordEach [] X.env))) := by rfl)
    (he : starEach (e :: es) X.env = (false, eval e X.env) :: starEach es X.env := by rfl) (hpl : (backTo pos (starEach es X.env)).any (·.1) = false := by rfl) :
    PE X (.Call (.Attribute (.Name x p1) "__init__" p2) (e :: es) [] pos) (tVeI X.K ta) := by
  refine ⟨fun pins s σ H Q I h => ?_⟩
  refine PySem.W.methodCall_KW (ld_glob I hg hm ?_ hdb) hc
  refine PySem.W.method_cls I.kIn B.sp ?_
  refine PySem.W.cls_value I.kIn B.rd B.at_ (by rfl) ?_
  show wpAny _ _ (callWith pos (Value.builtin "ValueError.__init__") [] (backTo pos (starEach (e :: es) X.env)) []) _ _ _
  refine PyProof.Rows.callWith_method1 (thn (ha.run pos pins _ σ H _ (I.tok _) h) fun us s1 ⟨vs, H1, I1, r1, a, C, ws, ev, hl, T, ea, q⟩ => ?_) he hpl
  subst ev
  cases r1 with
  | @cons _ u0 _ ur ra rw' =>
    obtain rfl : u0 = Value.ref a := ra
    have hlen : ur.length ≤ sizeLine := by
      rw [← Paired.length rw', sizeLine_eq]
      omega
    exact oinit_ok T I1 ea hlen fun s' J => ⟨.non, H1, J, rfl, q⟩
/-- C(e, ..) as a value, C's own __init__ keeping sp -/
def tMkV (C : Addr) (sp : Sp) (ta : TA) : TE := fun σ H Q => ta σ H fun vs H1 => vs.length ≤ 1000 ∧ ∀ a, H1 a = none → sp (.ref a :: vs) (upd H1 a (exo a C none)) (fun v H2 => v = .non ∧ Q (.ref a) H2) E0
theorem pe_mkv {CX : CXT} {x : Str} {C fI : Addr} {k : Nat} {fd : FuncData} {ps : List Str} {sp : Sp} (T : OexC X.K C) (J : ExIn X.K C fI)
    (F1 : FnOk X.prog X.w X.K X.mg X.base CX k fI fd ps sp) (hr : Room (k + 1) X.A) (hb : Binds X.K fd ps []) (hx : Passes CX X E0) (hg : Gl X x) (hm : X.mg x = some (.ref C)) (ha : PA X (e :: es) ta)
    (hdb : (x == ("__debug__" : Str)) = false := by decide) (he : starEach (e :: es) X.env = (false, eval e X.env) :: starEach es X.env := by rfl) (hpl : (backTo pos (starEach es X.env)).any (·.1) = false := by rfl) :
    PE X (.Call (.Name x p) (e :: es) [] pos) (tMkV C sp ta) := by
  refine ⟨fun pins s σ H Q I h => ?_⟩
  obtain ⟨nm, q, N, bs, bm, sn, sub, ab, col, dd, k0, k1, k2, k3, k5, hC, hbm⟩ := T.cls
  refine wpAny_Call_Name_kw (ld_glob I hg hm ?_ hdb)
  refine PySem.W.callWith_K (h₀ := X.base) I.ok.mod.kin T.kC (thn (ha.run pos pins s σ H _ I h) fun us s1 ⟨vs, H1, I1, r1, hz, q1⟩ => ⟨I1.kIn, ?_⟩) he hpl
  show wpAny _ _ (call (.ref C) us) _ _ _
  obtain ⟨hp, g, dr, tk, os⟩ := s1
  have hsz : hp.objs.size ≤ hp.objs.size + 1 := Nat.le_succ _
  have hn : H1 (hp.objs.size + 1) = none := I1.hok.fresh hsz
  have hq := q1 (hp.objs.size + 1) hn
  have kk : ∀ b o, hp.get? b = some o → ((hp.push (PySem.W.kdv_tup us)).push (PySem.HandSPX.excO C hp.objs.size)).get? b = some o := fun b o e => Heap.get?_push_of_some _ (Heap.get?_push_of_some _ e)
  have hget : ((hp.push (PySem.W.kdv_tup us)).push (PySem.HandSPX.excO C hp.objs.size)).get? (hp.objs.size + 1) = some (PySem.HandSPX.excO C hp.objs.size) := by heap_get
  have I2 : Inv X pins σ (upd H1 (hp.objs.size + 1) (exo (hp.objs.size + 1) C none)) ⟨(hp.push (PySem.W.kdv_tup us)).push (PySem.HandSPX.excO C hp.objs.size), g, dr, tk, os⟩ :=
    I1.laid (t' := tk) (a := hp.objs.size + 1) (o := exo (hp.objs.size + 1) C none) (h' := (hp.push (PySem.W.kdv_tup us)).push (PySem.HandSPX.excO C hp.objs.size)) kk hsz (exo_ok hget)
  have r2 : Vals (V.ref (hp.objs.size + 1) :: vs) (Value.ref (hp.objs.size + 1) :: us) := .cons rfl r1
  have hl : (Value.ref (hp.objs.size + 1) :: us).length = ps.length := by
    have e := r2.length
    rw [F1.len _ _ _ _ hq] at e
    exact e.symm
  have hus : us.length ≤ sizeLine := by
    rw [← Paired.length r1, sizeLine_eq]
    omega
  have b := hb _ (Value.ref (hp.objs.size + 1) :: us) I2.kIn (by rw [List.append_nil]; exact hl)
  rw [List.append_nil] at b
  refine wpAny_call (PySem.HandSPX.call_own F.excBase_ValueError (fun Y => PySem.HandSPX.refsVE_contains Y bm hbm) (I1.kIn _ _ hC) (PySem.W.looks_findIn I1.kIn J.at_) (fun self => PySem.W.bind_fn I1.kIn self J.ty) hus
    (codeAny_mono (F1.run _ X.stack _ _ ⟨Value.ref (hp.objs.size + 1) :: us, []⟩ (Value.ref (hp.objs.size + 1) :: us) _ _ E0 (hr.make C us []) (I2.env0.make C us []) b r2 hq) fun r s' hq' => ?_))
  cases r with
  | error er => exact hx pins σ _ _ er s' I2 hq'
  | ok fl =>
    cases fl with
    | ret u =>
      obtain ⟨v, H2, I3, rv, ev, q2⟩ := I2.after hq'
      subst ev
      exact ⟨rv, .ref (hp.objs.size + 1), H2, I3, rfl, q2⟩
    | next => exact False.elim hq'
    | brk => exact False.elim hq'
    | cont => exact False.elim hq'
/-- e.f, e an exception with a dict of its own -/
def tXfld (K : PySem.W.Frag) (te : TE) (f : Str) : TE := fun σ H Q => te σ H fun x H1 => ∃ (a C d : Addr) (fs : List (Str × V)) (v : V), x = .ref a ∧ H1 a = some (exo a C (some d)) ∧ H1 d = some (exd d fs) ∧ ExRd K C ∧ OexC K C ∧ NoAttr K C f ∧ fs.lookup f = some v ∧ Q v H1
theorem pe_xfld (he : PE X e te) (hb : attributeBase e f X.env (eval e X.env) = eval e X.env) : PE X (.Attribute e f pos) (tXfld X.K te f) := by
  refine ⟨fun pins s σ H Q I h => ?_⟩
  refine attr_of hb (thn (he.run pins s σ H _ I h) fun u s1 hh => ?_)
  obtain ⟨x, H1, I1, rx, a, C, d, fs, v, ex, ea, ed, R, T, n, l, q⟩ := hh
  subst ex
  obtain rfl : u = Value.ref a := rx
  obtain ⟨t1, ho⟩ := exo_at I1.hok ea
  obtain ⟨mA, hns, rel⟩ := exd_at I1.hok ed
  obtain ⟨od, hod, hl⟩ := lookIn_ns hns
  obtain ⟨u, hu, ru⟩ := RelO.some_of (v := v) (o := mA f) (by rw [← l]; exact rel f)
  have J : PySem.W.InstAt s1.heap a _ C (some od) := ⟨ho, rfl, rfl, hod⟩
  exact PySem.HandSPX.exc_get I1.kIn J R.ga R.gg T.exC (PySem.W.findObj_own R.hd n rfl (by rw [hl, hu])) (handed_of ru) ⟨v, H1, I1.tok _, ru, q⟩
/-- an exception made with arguments (the tuple at t), no dict -/
def exo1 (e C t : Addr) : HO := .ext fun h => h.get? e = some ({ cls := .ref C, dict := none, data := .fields #[.ref t, .none, .none, .none, .bool false, .none] } : Obj)
theorem exo1_ok {P : Program} {w : World} {H : Hp} {h : Heap} {e C t : Addr} (he : h.get? e = some ({ cls := .ref C, dict := none, data := .fields #[.ref t, .none, .none, .none, .bool false, .none] } : Obj)) : ObjOk P w H h e (exo1 e C t) :=
  ⟨he, ⟨_, he⟩, fun h1 h2 z k => k _ z⟩
theorem exo1_at {P : Program} {w : World} {H : Hp} {h : Heap} {e C t : Addr} (hok : HOk P w H h) (he : H e = some (exo1 e C t)) : h.get? e = some ({ cls := .ref C, dict := none, data := .fields #[.ref t, .none, .none, .none, .bool false, .none] } : Obj) := by
  have x : ObjOk P w H h e (.ext _) := hok e _ he
  exact x.1
/-- an exception of the class at C stands at a -/
def ExAt (H : Hp) (a C : Addr) : Prop := (∃ d fs, H a = some (exo a C (some d)) ∧ H d = some (exd d fs)) ∨ ∃ t, H a = some (exo1 a C t)
theorem ExAt.inst {P : Program} {w : World} {H : Hp} {h : Heap} {a C : Addr} (x : ExAt H a C) (hok : HOk P w H h) : ∃ ox od, PySem.W.InstAt h a ox C od := by
  rcases x with ⟨d, fs, ea, ed⟩ | ⟨t, ea⟩
  · obtain ⟨t1, ho⟩ := exo_at hok ea
    obtain ⟨mA, hns, rel⟩ := exd_at hok ed
    obtain ⟨od, hod, hl⟩ := lookIn_ns hns
    exact ⟨_, some od, ho, rfl, rfl, hod⟩
  · exact ⟨_, none, exo1_at hok ea, rfl, rfl, trivial⟩
/-- isinstance(e, c), e such an exception -/
def rIsiE (K : PySem.W.Frag) : List V → Hp → VK → Prop := fun xs H Q => ∃ (a C : Addr) (c : V) (u : Value) (b : Bool), xs = [.ref a, c] ∧ ClsV c u ∧ ExAt H a C ∧ ExIs K C ∧ ExRd K C ∧ PySem.W.subIn K (.ref C) (.type "BaseException") = some true ∧ PySem.W.kitOne K (.ref C) u = some b ∧ Q (.bl b) H
theorem call_isiE : CallR X (.builtin "isinstance") (rIsiE X.K) := by
  intro pins s σ H xs us Q I r h
  obtain ⟨a, C, c, u, b, rfl, k, ex, S, R, sb, e, q⟩ := h
  obtain ⟨u1, u2, rfl, r1, r2⟩ := vals2 r
  obtain rfl : u1 = Value.ref a := r1
  have e2 := k.eq r2
  subst e2
  obtain ⟨ox, od, J⟩ := ex.inst I.hok
  exact PySem.W.kia_one (PySem.W.kitx_exc (x := a) (ox := ox) (od := od) S.cl R.ga R.gg sb S.at_ S.sp S.tk S.ob) I.kIn J e (by intro z; cases z) fun tk => ⟨.bl b, H, I.tok tk, rfl, q⟩
/-- X(e), an own exception class without own __init__, as a value: a new exception object and its tuple of arguments -/
theorem pe_exc1t {C : Addr} {bmB : List Value} {B newId initId : String} {x : Str} {p pos : Pos} (F : ExcBaseFacts B newId initId bmB) (q : PySem.W.excIn X.K C bmB newId = true) (gC : X.mg x = some (.ref C)) (kC : PySem.W.keepIn X.K (.ref C) = true) (hg : Gl X x)
    (he : PE X e te) (hs : starEach [e] X.env = (false, eval e X.env) :: starEach [] X.env := by rfl) (hdb : (x == ("__debug__" : Str)) = false := by decide) :
    PE X (.Call (.Name x p) [e] [] pos) (fun σ H Q => te σ H fun v H1 => ∀ a t, H1 a = none → H1 t = none → a ≠ t → Q (.ref a) (upd (upd H1 t (.tup [v])) a (exo1 a C t))) := by
  refine ⟨fun pins s σ H Q I h => ?_⟩
  refine wpAny_Call_Name_kw (ld_glob I hg gC ?_ hdb)
  refine PySem.W.callWith_K (h₀ := X.base) I.ok.mod.kin kC ?_ hs (by rfl)
  rw [hs]
  show wpAny _ _ (spliced ((false, eval e X.env) :: backTo pos (starEach [] X.env))) _ _ s
  refine Calls.spliced_cons (thn (he.run pins s σ H _ I h) fun u s1 ⟨v, H1, I1, r1, q1⟩ => ?_)
  refine Calls.spliced_nil ⟨I1.kIn, ?_⟩
  show wpAny _ _ (call (.ref C) [u]) _ _ _
  obtain ⟨bm, N, nm, qn, bs, hdct, sn, sub, ab, col, dd, k0, k1, k2, k3, k5, mN, hC, hN, hni, T⟩ := exc_obj I1.kIn q
  refine wpAny_call_exc_subT F T hC hN hni (fun h' a hm => ?_) (by show 1 ≤ sizeLine; rw [sizeLine_eq]; omega)
  obtain ⟨t, ht, ht0, htup⟩ := hm.there
  have hna : H1 a = none := I1.hok.gone hm.new
  have hnt : H1 t = none := I1.hok.gone ht0
  have hne : t ≠ a := fun z => by
    rw [z, ht] at htup
    cases htup
  obtain ⟨G, g1, g2⟩ := restrict h' fun b => decide (b ≠ a)
  have gk : ∀ b, b ≠ a → G.get? b = h'.get? b := fun b hb => g1 b (decide_eq_true hb)
  have ge : G.get? a = none := g2 a (by simp)
  have gs : ∀ b o, G.get? b = some o → h'.get? b = some o := fun b o e => by
    by_cases hb : b = a
    · rw [hb, ge] at e
      cases e
    · rw [← gk b hb]
      exact e
  have k1 : ∀ b o, s1.heap.get? b = some o → G.get? b = some o := fun b o e => by
    have hb : b ≠ a := fun z => by
      have z2 := hm.new
      rw [← z] at z2
      have e' : s1.heap.get? b = some o := e
      have z3 : s1.heap.get? b = none := z2
      rw [z3] at e'
      cases e'
    rw [gk b hb]
    exact hm.keeps b o e
  have ob1 : ObjOk X.prog X.w (upd H1 t (.tup [v])) G t (.tup [v]) := ⟨by show 1 ≤ sizeLine; rw [sizeLine_eq]; omega, [u], .cons r1 .nil, _, (gk t hne).trans htup, rfl, _, rfl⟩
  have J1 : Inv X pins σ (upd H1 t (.tup [v])) { s1 with heap := G } := I1.laidN (t' := s1.toks) k1 ht0 hnt ob1
  have hna2 : upd H1 t (.tup [v]) a = none := by
    rw [upd_ne (Ne.symm hne)]
    exact hna
  have J2 : Inv X pins σ (upd (upd H1 t (.tup [v])) a (exo1 a C t)) { s1 with heap := h' } := J1.laidN (t' := s1.toks) gs ge hna2 (exo1_ok ht)
  exact ⟨.ref a, _, J2, rfl, q1 a t hna hnt (Ne.symm hne)⟩
/-- str(e), e made with one text -/
theorem call_str_exc (hu : X.A.units + 2 < cLine) : CallR X (.type "str") (fun xs H Q => ∃ (a C t : Addr) (m : Str), xs = [.ref a] ∧ H a = some (exo1 a C t) ∧ H t = some (.tup [.str m]) ∧ PySem.W.findIn X.K (.ref C) "__str__" = some (some (.builtin "BaseException.__str__")) ∧
    PySem.W.subIn X.K (.ref C) (.type "BaseException") = some true ∧ Q (.str m) H) := by
  intro pins s σ H xs us Q I r h
  obtain ⟨a, C, t, m, rfl, ea, et, fs, sb, q⟩ := h
  obtain ⟨u1, rfl, r1⟩ := vals1 r
  obtain rfl : u1 = Value.ref a := r1
  have ho := exo1_at I.hok ea
  obtain ⟨_, its, rv, o, h1, h2, n, h3⟩ := (show ObjOk X.prog X.w H s.heap t (.tup [.str m]) from I.hok t _ et)
  cases rv with
  | cons ra rn =>
    cases rn
    obtain ⟨tk, rfl⟩ := ra
    exact PySem.P.str_of_C_one hu ⟨I.kIn, _, _, ho, rfl, rfl, rfl⟩ ⟨o, n, h1, h2, by simpa using h3⟩ fs sb ⟨.str m, H, I, ⟨_, rfl⟩, q⟩
end
end Wc

set_option Elab.async false
set_option linter.all false
set_option maxRecDepth 100000
set_option maxHeartbeats 4000000
/-! steps through readings; what is known of the heap as a list -/
namespace Wc
open PySem PySem.Spec PyProof.Rows L2
abbrev Ext (H H' : Hp) : Prop := ∀ a o, H a = some o → H' a = some o
theorem Ext.refl (H : Hp) : Ext H H := fun _ _ h => h
theorem Ext.trans {H H1 H2 : Hp} (a : Ext H H1) (b : Ext H1 H2) : Ext H H2 := fun x o h => b x o (a x o h)
theorem Ext.new {H : Hp} {p : Addr} {o : HO} (h : H p = none) : Ext H (upd H p o) := fun a u e => by
  rw [upd_ne (ne_of_none e h)]
  exact e
theorem Ext.free {H H' : Hp} (e : Ext H H') {l : Addr} (h : H' l = none) : H l = none := by
  cases q : H l with
  | none => rfl
  | some o =>
    rw [e l o q] at h
    cases h
theorem Ext.l {K : PySem.W.Frag} {H H' : Hp} {a : Addr} {xs : List V} (e : Ext H H') (h : SqL K H a xs) : SqL K H' a xs := by
  rcases h with (h | ⟨o, h⟩) | h
  · exact .inl (.inl (e _ _ h))
  · exact .inl (.inr ⟨o, e _ _ h⟩)
  · exact .inr h
theorem Ext.t {K : PySem.W.Frag} {H H' : Hp} {a : Addr} {xs : List V} (e : Ext H H') (h : SqT K H a xs) : SqT K H' a xs := by
  rcases h with (h | ⟨o, h⟩) | h
  · exact .inl (.inl (e _ _ h))
  · exact .inl (.inr ⟨o, e _ _ h⟩)
  · exact .inr h
/-- the heap beside the addresses A is as it was -/
def Fr (A : List Addr) (H H' : Hp) : Prop := ∀ a o, a ∉ A → H a = some o → H' a = some o
theorem Ext.fr {H H' : Hp} {A : List Addr} (e : Ext H H') : Fr A H H' := fun a o _ h => e a o h
theorem Fr.trans {A : List Addr} {H H1 H2 : Hp} (a : Fr A H H1) (b : Fr A H1 H2) : Fr A H H2 := fun x o n h => b x o n (a x o n h)
theorem Fr.updE {A : List Addr} {H : Hp} {p : Addr} {o : HO} (h : p ∈ A) : Fr A H (upd H p o) := fun a u n e => by
  rw [upd_ne (fun z => n (by rw [z]; exact h))]
  exact e
theorem Fr.refl (A : List Addr) (H : Hp) : Fr A H H := fun _ _ _ h => h
theorem Fr.sql {K : PySem.W.Frag} {A : List Addr} {H H' : Hp} {a : Addr} {xs : List V} (e : Fr A H H') (n : a ∉ A) (h : SqL K H a xs) : SqL K H' a xs := by
  rcases h with (h | ⟨o, h⟩) | h
  · exact .inl (.inl (e _ _ n h))
  · exact .inl (.inr ⟨o, e _ _ n h⟩)
  · exact .inr h
theorem Fr.mono {A B : List Addr} {H H' : Hp} (e : Fr A H H') (h : ∀ a, a ∈ A → a ∈ B) : Fr B H H' := fun a o n x => e a o (fun z => n (h a z)) x
/-- what is known: these addresses, no two alike, hold these; what H0 held stands but at M -/
structure KH (H0 : Hp) (M : List Addr) (L : List (Addr × HO)) (H : Hp) : Prop where
  at_ : ∀ (j : Nat) (p : Addr) (o : HO), L[j]? = some (p, o) → H p = some o
  nd : (L.map (·.1)).Nodup
  fr : Fr M H0 H
  md : ∀ a, a ∈ M → ∃ o, H a = some o
section
variable {H0 H H' : Hp} {M : List Addr} {L : List (Addr × HO)} {p : Addr} {o o' : HO}
theorem KH.start : KH H [] [] H := ⟨fun j p o h => by simp at h, List.nodup_nil, Fr.refl _ _, fun a h => by simp at h⟩
theorem KH.start1 (h : H p = some o) : KH H [p] [(p, o)] H := ⟨fun j q u e => by
    cases j with
    | zero =>
      simp at e
      obtain ⟨rfl, rfl⟩ := e
      exact h
    | succ j => simp at e, by simp, Fr.refl _ _, fun a q => by
    have e : a = p := by simpa using q
    exact ⟨o, by rw [e]; exact h⟩⟩
theorem KH.get (k : KH H0 M L H) (j : Nat) (h : L[j]? = some (p, o)) : H p = some o := k.at_ j p o h
theorem KH.mem (k : KH H0 M L H) (h : p ∈ L.map (·.1)) : ∃ o, H p = some o := by
  obtain ⟨q, hq, rfl⟩ := List.mem_map.mp h
  obtain ⟨j, hj⟩ := List.getElem?_of_mem hq
  exact ⟨q.2, k.at_ j q.1 q.2 hj⟩
theorem KH.ext (k : KH H0 M L H) (e : Ext H H') : KH H0 M L H' := ⟨fun j p o h => e p o (k.at_ j p o h), k.nd, k.fr.trans e.fr, fun a h => by
  obtain ⟨o, z⟩ := k.md a h
  exact ⟨o, e _ _ z⟩⟩
theorem KH.fresh (k : KH H0 M L H) (h : H p = none) : H0 p = none := by
  cases q : H0 p with
  | none => rfl
  | some o =>
    have n : p ∉ M := fun z => by
      obtain ⟨u, e⟩ := k.md p z
      rw [h] at e
      cases e
    have z := k.fr p o n q
    rw [h] at z
    cases z
theorem KH.cons (k : KH H0 M L H) (h : H p = some o) (n : p ∉ L.map (·.1)) : KH H0 M ((p, o) :: L) H := by
  refine ⟨fun j q u e => ?_, ?_, k.fr, k.md⟩
  · cases j with
    | zero =>
      simp at e
      obtain ⟨rfl, rfl⟩ := e
      exact h
    | succ j =>
      simp at e
      exact k.at_ j q u e
  · rw [List.map_cons, List.nodup_cons]
    exact ⟨n, k.nd⟩
theorem KH.new (k : KH H0 M L H) (h : H p = none) : KH H0 M ((p, o) :: L) (upd H p o) := by
  refine (k.ext (Ext.new h)).cons upd_same fun m => ?_
  obtain ⟨o', z⟩ := k.mem m
  rw [h] at z
  cases z
theorem KH.tail {q : Addr × HO} (k : KH H0 M (q :: L) H) : KH H0 M L H :=
  ⟨fun j q u e => k.at_ (j + 1) q u (by simpa using e), by have z := k.nd; rw [List.map_cons, List.nodup_cons] at z; exact z.2, k.fr, k.md⟩
theorem KH.forget (k : KH H0 M L H) : KH H0 M [] H := ⟨fun j p o h => by simp at h, List.nodup_nil, k.fr, k.md⟩
theorem KH.take (k : KH H0 M L H) (n : Nat) : KH H0 M (L.take n) H := by
  refine ⟨fun j q u e => k.at_ j q u ?_, ?_, k.fr, k.md⟩
  · rw [List.getElem?_take] at e
    split at e
    · exact e
    · cases e
  · rw [List.map_take]
    exact List.Nodup.sublist (List.take_sublist _ _) k.nd
theorem KH.consN (k : KH H0 M L H) (e : Ext H H') (n : H p = none) (h : H' p = some o) : KH H0 M ((p, o) :: L) H' := (k.ext e).cons h fun m => by
  obtain ⟨u, z⟩ := k.mem m
  rw [n] at z
  cases z
theorem KH.rebaseM (k : KH H0 M L H) (M' : List Addr) (h : ∀ a, a ∈ M' → ∃ o, H a = some o) : KH H M' L H := ⟨k.at_, k.nd, Fr.refl _ _, h⟩
theorem KH.rebase1 (k : KH H0 M L H) {q : Addr} {u : HO} (h : H q = some u) : KH H [q] L H := ⟨k.at_, k.nd, Fr.refl _ _, fun a z => by
  have e : a = q := by simpa using z
  exact ⟨u, by rw [e]; exact h⟩⟩
theorem KH.rebase (k : KH H0 M L H) : KH H [] L H := ⟨k.at_, k.nd, Fr.refl _ _, fun a h => by simp at h⟩
theorem KH.ne (k : KH H0 M L H) (i j : Nat) {p q : Addr} {o u : HO} (hi : L[i]? = some (p, o)) (hj : L[j]? = some (q, u)) (hn : i ≠ j) : p ≠ q := fun e => by
  have h1 : (L.map (·.1))[i]? = some p := by rw [List.getElem?_map, hi] <;> rfl
  have h2 : (L.map (·.1))[j]? = some q := by rw [List.getElem?_map, hj] <;> rfl
  rw [← e] at h2
  exact hn (nd_ix k.nd h1 h2)
theorem map_set_fst {j : Nat} (hj : L[j]? = some (p, o)) : (L.set j (p, o')).map (·.1) = L.map (·.1) := by
  apply List.ext_getElem?
  intro i
  rw [List.getElem?_map, List.getElem?_map, List.getElem?_set]
  by_cases e : j = i
  · subst e
    rw [if_pos rfl]
    obtain ⟨hlt, _⟩ := List.getElem?_eq_some_iff.mp hj
    rw [if_pos hlt, hj]
    rfl
  · rw [if_neg e]
/-- behind a change of one known address (one of M, or a new one) -/
theorem KH.setE (k : KH H0 M L H) (j : Nat) (hj : L[j]? = some (p, o)) (f : Fr [p] H H') (h : H' p = some o') (hm : p ∈ M ∨ H0 p = none) : KH H0 M (L.set j (p, o')) H' := by
  refine ⟨fun i q u e => ?_, by rw [map_set_fst hj]; exact k.nd, fun a u n z => ?_, fun a ha => ?_⟩
  · rw [List.getElem?_set] at e
    by_cases c : j = i
    · subst c
      obtain ⟨hlt, _⟩ := List.getElem?_eq_some_iff.mp hj
      rw [if_pos rfl, if_pos hlt] at e
      have e2 := Option.some.inj e
      injection e2 with e3 e4
      subst e3 e4
      exact h
    · rw [if_neg c] at e
      have ne := k.ne i j e hj (fun z => c z.symm)
      exact f q u (by simpa using ne) (k.at_ i q u e)
  · have ne : a ≠ p := fun q => by
      rcases hm with m | m
      · exact n (by rw [q]; exact m)
      · rw [q, m] at z
        cases z
    exact f a u (by simpa using ne) (k.fr a u n z)
  · by_cases c : a = p
    · exact ⟨o', by rw [c]; exact h⟩
    · obtain ⟨u, z⟩ := k.md a ha
      exact ⟨u, f a u (by simpa using c) z⟩
theorem KH.set (k : KH H0 M L H) (j : Nat) (hj : L[j]? = some (p, o)) (hm : p ∈ M ∨ H0 p = none) : KH H0 M (L.set j (p, o')) (upd H p o') := k.setE j hj (Fr.updE (by simp)) upd_same hm
end
/-- where it stands, found step by step -/
inductive Look : List (Addr × HO) → Addr → HO → Prop where
  | here {L : List (Addr × HO)} {p : Addr} {o : HO} : Look ((p, o) :: L) p o
  | there {q : Addr × HO} {L : List (Addr × HO)} {p : Addr} {o : HO} (h : Look L p o) : Look (q :: L) p o
theorem Look.ix {L : List (Addr × HO)} {p : Addr} {o : HO} (l : Look L p o) : ∃ j : Nat, L[j]? = some (p, o) := by
  induction l with
  | here => exact ⟨0, rfl⟩
  | there _ ih =>
    obtain ⟨j, e⟩ := ih
    exact ⟨j + 1, by simpa using e⟩
theorem KH.find {H0 H : Hp} {M : List Addr} {L : List (Addr × HO)} {p : Addr} {o : HO} (k : KH H0 M L H) (l : Look L p o) : H p = some o := by
  obtain ⟨j, e⟩ := l.ix
  exact k.get j e
inductive UpL : List (Addr × HO) → Addr → HO → HO → List (Addr × HO) → Prop where
  | here {L : List (Addr × HO)} {p : Addr} {o o' : HO} : UpL ((p, o) :: L) p o o' ((p, o') :: L)
  | there {q : Addr × HO} {L L' : List (Addr × HO)} {p : Addr} {o o' : HO} (h : UpL L p o o' L') : UpL (q :: L) p o o' (q :: L')
theorem UpL.ix {L L' : List (Addr × HO)} {p : Addr} {o o' : HO} (l : UpL L p o o' L') : ∃ j : Nat, L[j]? = some (p, o) ∧ L' = L.set j (p, o') := by
  induction l with
  | here => exact ⟨0, rfl, rfl⟩
  | there _ ih =>
    obtain ⟨j, e, e2⟩ := ih
    exact ⟨j + 1, by simpa using e, by rw [e2] <;> rfl⟩
theorem KH.up {H0 H H' : Hp} {M : List Addr} {L L' : List (Addr × HO)} {p : Addr} {o o' : HO} (k : KH H0 M L H) (l : UpL L p o o' L') (f : Fr [p] H H') (h : H' p = some o') (hm : p ∈ M ∨ H0 p = none) : KH H0 M L' H' := by
  obtain ⟨j, e, e2⟩ := l.ix
  rw [e2]
  exact k.setE j e f h hm
inductive SetAt : List (Option V) → Nat → V → List (Option V) → Prop where
  | here {x : Option V} {l : List (Option V)} {v : V} : SetAt (x :: l) 0 v (some v :: l)
  | there {x : Option V} {l l' : List (Option V)} {i : Nat} {v : V} (h : SetAt l i v l') : SetAt (x :: l) (i + 1) v (x :: l')
theorem SetAt.eq {l l' : List (Option V)} {i : Nat} {v : V} (h : SetAt l i v l') : l.set i (some v) = l' := by
  induction h with
  | here => rfl
  | there _ ih => rw [List.set_cons_succ, ih]
inductive GetAt : List (Option V) → Nat → V → Prop where
  | here {l : List (Option V)} {v : V} : GetAt (some v :: l) 0 v
  | there {x : Option V} {l : List (Option V)} {i : Nat} {v : V} (h : GetAt l i v) : GetAt (x :: l) (i + 1) v
theorem GetAt.eq {l : List (Option V)} {i : Nat} {v : V} (h : GetAt l i v) : l[i]? = some (some v) := by
  induction h with
  | here => rfl
  | there _ ih => simpa using ih
/-- a new object o is laid and handed on; an object of ours becomes o -/
def AllocO (o : HO) (Q : VK) (H : Hp) : Prop := ∀ p, H p = none → Q (.ref p) (upd H p o)
def UpdO (p : Addr) (o : HO) (R : Hp → Prop) (H : Hp) : Prop := R (upd H p o)
theorem AllocO.mk {o : HO} {Q : VK} {H0 H : Hp} {M : List Addr} {L : List (Addr × HO)} (k : KH H0 M L H) (h : ∀ p H', H0 p = none → KH H0 M ((p, o) :: L) H' → Q (.ref p) H') : AllocO o Q H := fun p hp => h p _ (k.fresh hp) (k.new hp)
theorem UpdO.mk {o o' : HO} {p : Addr} {R : Hp → Prop} {H0 H : Hp} {M : List Addr} {L L' : List (Addr × HO)} (k : KH H0 M L H) (hj : UpL L p o o' L') (hm : p ∈ M ∨ H0 p = none) (h : ∀ H', KH H0 M L' H' → R H') : UpdO p o' R H := h _ (k.up hj (Fr.updE (by simp)) upd_same hm)
theorem sz_of {n : Nat} (h : n ≤ 100000) : n ≤ sizeLine := Nat.le_trans h (by decide)
theorem sz_lt {n : Nat} (h : n < 100000) : n < sizeLine := Nat.lt_of_lt_of_le h (by decide)
section
variable {D : Ends} {σ : L2.St} {H : Hp} {Q : VK} {K : PySem.W.Frag}
theorem r_iteT {c : Bool} {A B : Prop} (hc : c = true) (h : A) : if c = true then A else B := by
  rw [if_pos hc]
  exact h
theorem r_iteF {c : Bool} {A B : Prop} (hc : c = false) (h : B) : if c = true then A else B := by
  rw [hc, if_neg Bool.false_ne_true]
  exact h
theorem r_seq {t u : TS} (h : t { D with nx := u D } σ H) : tSeq t u D σ H := h
theorem r_next (h : D.nx σ H) : tNext D σ H := h
theorem r_asg {te : TE} {g : TG} (h : te σ H fun x H1 => g x σ H1 D.nx) : tAsg te g D σ H := h
theorem r_drop {te : TE} (h : te σ H fun _ H1 => D.nx σ H1) : tDrop te D σ H := h
theorem r_ret {te : TE} (h : te σ H D.rt) : tRet te D σ H := h
theorem r_retN (h : D.rt .non H) : tRetN D σ H := h
theorem r_ifs {c : TT} {t u : TS} (h : c σ H fun b H1 => if b = true then t D σ H1 else u D σ H1) : tIfS c t u D σ H := h
theorem r_cont (h : D.ct σ H) : tCont D σ H := h
theorem r_break (h : D.bk σ H) : tBreak D σ H := h
theorem r_var {i : Nat} {v : V} (h : GetAt σ i v) (q : Q v H) : tVar i σ H Q := ⟨v, h.eq, q⟩
theorem r_c {v : V} (q : Q v H) : tC v σ H Q := q
theorem r_op {r : R2} {ta tb : TE} (h : ta σ H fun x H1 => tb σ H1 fun y H2 => r x y H2 Q) : tOp r ta tb σ H Q := h
theorem r_un {r : V → Hp → VK → Prop} {ta : TE} (h : ta σ H fun x H1 => r x H1 Q) : tUn r ta σ H Q := h
theorem r_test {te : TE} {R : Bool → Hp → Prop} (h : te σ H fun x H' => ∃ k, x = .bl k ∧ R k H') : tTest te σ H R := h
theorem r_tB {te : TE} {R : Bool → Hp → Prop} (h : te σ H fun x H' => ∃ k, x = .bl k ∧ R k H') : tB te σ H R := h
theorem r_not {t : TT} {R : Bool → Hp → Prop} (h : t σ H fun c H1 => R (!c) H1) : tNot t σ H R := h
theorem r_and {t u : TT} {R : Bool → Hp → Prop} (h : t σ H fun c H1 => if c = true then u σ H1 R else R false H1) : tAnd t u σ H R := h
theorem r_or {t u : TT} {R : Bool → Hp → Prop} (h : t σ H fun c H1 => if c = true then R true H1 else u σ H1 R) : tOr t u σ H R := h
theorem r_notV {ta : TE} (h : ta σ H fun x H1 => ∃ c, x = .bl c ∧ Q (.bl (!c)) H1) : tNotV ta σ H Q := h
theorem r_andV {ta tb : TE} (h : ta σ H fun x H1 => ∃ c, x = .bl c ∧ if c = true then tb σ H1 Q else Q (.bl false) H1) : tAndV ta tb σ H Q := h
theorem r_orV {ta tb : TE} (h : ta σ H fun x H1 => ∃ c, x = .bl c ∧ if c = true then Q (.bl true) H1 else tb σ H1 Q) : tOrV ta tb σ H Q := h
theorem r_ifE {t : TT} {ta tb : TE} (h : t σ H fun c H1 => if c = true then ta σ H1 Q else tb σ H1 Q) : tIf t ta tb σ H Q := h
theorem r_bl {k : Bool} {R : Bool → Prop} (h : R k) : ∃ k', V.bl k = .bl k' ∧ R k' := ⟨k, rfl, h⟩
theorem r_nil {R : List V → Hp → Prop} (h : R [] H) : tNil σ H R := h
theorem r_cons {ta : TE} {tr : TA} {R : List V → Hp → Prop} (h : ta σ H fun x H1 => tr σ H1 fun xs H2 => R (x :: xs) H2) : tCons ta tr σ H R := h
theorem r_tup {ta : TA} (h : ta σ H fun xs H1 => xs.length ≤ sizeLine ∧ AllocO (.tup xs) Q H1) : tTup ta σ H Q := h
theorem r_lst {ta : TA} (h : ta σ H fun xs H1 => xs.length ≤ sizeLine ∧ AllocO (.lst xs) Q H1) : tLst ta σ H Q := h
theorem r_cb {r : List V → Hp → VK → Prop} {ta : TA} (h : ta σ H fun vs H1 => r vs H1 Q) : tCB r ta σ H Q := h
theorem r_call {sp : Sp} {dvs : List V} {E : XK} {ta : TA} (h : ta σ H fun vs H1 => sp (vs ++ dvs) H1 Q E) : tCall sp dvs E ta σ H Q := h
theorem r_name {i : Nat} {v : V} {σ' : L2.St} {R : L2.St → Hp → Prop} (hs : SetAt σ i v σ') (h : R σ' H) : gName i v σ H R := by
  show R (σ.set i (some v)) H
  rw [hs.eq]
  exact h
theorem r_gnil {R : L2.St → Hp → Prop} (h : R σ H) : gNil [] σ H R := ⟨rfl, h⟩
theorem r_gcons {t : TG} {u : TGs} {v : V} {r : List V} {R : L2.St → Hp → Prop} (h : t v σ H fun σ' H' => u r σ' H' R) : gCons t u (v :: r) σ H R := ⟨v, r, rfl, h⟩
theorem r_gtup {n : Nat} {t : TGs} {a : Addr} {xs : List V} {R : L2.St → Hp → Prop} (hx : SqT K H a xs) (hl : xs.length = n) (h : t xs σ H R) : gTup K n t (.ref a) σ H R := ⟨a, xs, rfl, hx, hl, h⟩
theorem r_gsub {to ti : TE} {t : TSet} {v : V} {R : L2.St → Hp → Prop} (h : to σ H fun o H1 => ti σ H1 fun i H2 => t o i v H2 fun H3 => R σ H3) : gSub to ti t v σ H R := h
theorem r_par {i j : Nat} {ta : TA} (h : ta σ H fun vs H1 => ∃ v w, vs = [v, w] ∧ D.nx ((σ.set i (some v)).set j (some w)) H1) : tPar i j ta D σ H := h
theorem r_par2 {v w : V} {R : V → V → Prop} (h : R v w) : ∃ v' w', [v, w] = [v', w'] ∧ R v' w' := ⟨v, w, rfl, h⟩
theorem r_aug {i : Nat} {te : TE} {ti : TIp} {x : V} (hx : GetAt σ i x) (h : te σ H fun y H1 => ti x y H1 fun z H2 => D.nx (σ.set i (some z)) H2) : tAug i te ti D σ H := ⟨x, hx.eq, h⟩
theorem r_I0 {g : Int → Int → V} {i j : Int} (h : Q (g i j) H) : rI0 g (.int i) (.int j) H Q := ⟨i, j, rfl, rfl, h⟩
theorem r_I {C : Int → Int → Prop} {g : Int → Int → V} {i j : Int} (hc : C i j) (h : Q (g i j) H) : rI C g (.int i) (.int j) H Q := ⟨i, j, rfl, rfl, hc, h⟩
theorem r_U {g : Int → V} {i : Int} (h : Q (g i) H) : rU g (.int i) H Q := ⟨i, rfl, h⟩
theorem r_eq {x y : V} (hs : scal x y = true) (h : Q (.bl (decide (x = y))) H) : rEq x y H Q := ⟨hs, h⟩
theorem r_ne {x y : V} (hs : scal x y = true) (h : Q (.bl (!decide (x = y))) H) : rNe x y H Q := ⟨hs, h⟩
theorem r_ixL {p : Addr} {xs : List V} {i : Int} {v : V} (h : SqL K H p xs) (ha : atI xs i = some v) (q : Q v H) : rIxL K (.ref p) (.int i) H Q := ⟨p, xs, i, v, rfl, rfl, h, ha, q⟩
theorem r_ixT {p : Addr} {xs : List V} {i : Int} {v : V} (h : SqT K H p xs) (ha : atI xs i = some v) (q : Q v H) : rIxT K (.ref p) (.int i) H Q := ⟨p, xs, i, v, rfl, rfl, h, ha, q⟩
theorem r_setL {p : Addr} {xs : List V} {i : Int} {j : Nat} {v : V} {R : Hp → Prop} (h : H p = some (.lst xs)) (hj : ixN xs.length i = some j) (q : UpdO p (.lst (xs.set j v)) R H) : rSetL (.ref p) (.int i) v H R := ⟨p, xs, i, j, rfl, rfl, h, hj, q⟩
theorem r_part {te : TE} {R : Option Int → Hp → Prop} (h : te σ H fun x H1 => ∃ i, x = .int i ∧ R (some i) H1) : tPart te σ H R := h
theorem r_nopart {R : Option Int → Hp → Prop} (h : R none H) : tNoPart σ H R := h
theorem r_ii {i : Int} {R : Int → Prop} (h : R i) : ∃ i', V.int i = .int i' ∧ R i' := ⟨i, rfl, h⟩
theorem r_sl {r : V → Option Int → Option Int → Hp → VK → Prop} {te : TE} {tl th : TO} (h : te σ H fun x H1 => tl σ H1 fun l H2 => th σ H2 fun u H3 => r x l u H3 Q) : tSl r te tl th σ H Q := h
theorem r_slL {a : Addr} {xs : List V} {lo hi : Option Int} (h : SqL K H a xs) (q : AllocO (.lst (cutV xs lo hi)) Q H) : rSlL K (.ref a) lo hi H Q := ⟨a, xs, rfl, h, q⟩
theorem r_cat {a b : Addr} {xs ys : List V} (h1 : H a = some (.lst xs)) (h2 : H b = some (.lst ys)) (hz : xs.length + ys.length ≤ sizeLine) (q : AllocO (.lst (xs ++ ys)) Q H) : rCat (.ref a) (.ref b) H Q := ⟨a, b, xs, ys, rfl, rfl, h1, h2, hz, q⟩
theorem r_bm {T : String} {r : V → List V → Hp → VK → Prop} {to : TE} {t : TA} (h : to σ H fun x H1 => tyV K T x H1 ∧ t σ H1 fun xs H2 => r x xs H2 Q) : tBM K T r to t σ H Q := h
theorem r_bm0 {T : String} {r : V → List V → Hp → VK → Prop} {to : TE} (h : to σ H fun x H1 => tyV K T x H1 ∧ r x [] H1 Q) : tBM0 K T r to σ H Q := h
theorem r_append {l : Addr} {xs : List V} {y : V} (h : H l = some (.lst xs)) (hz : xs.length < sizeLine) (q : UpdO l (.lst (xs ++ [y])) (Q .non) H) : rAppend (.ref l) [y] H Q := ⟨l, xs, y, rfl, rfl, h, hz, q⟩
theorem r_int1 {i : Int} {k : Prop} {R : Int → Prop} (h : R i) : (∃ i', [V.int i] = [.int i'] ∧ R i') ∨ k := .inl ⟨i, rfl, h⟩
theorem r_int1b {b : Bool} {k : Prop} {R : Bool → Prop} (h : R b) : k ∨ (∃ b', [V.bl b] = [.bl b'] ∧ R b') := .inr ⟨b, rfl, h⟩
end
/-! ### loops -/
theorem for_enum {K : PySem.W.Frag} {a : Addr} {xs : List V} {g : TG} {tb : TS} {D : Ends} {σ : L2.St} {H : Hp} (Pv : Nat → L2.St → Hp → Prop) (h0 : Pv 0 σ H) (hl : ∀ i σ H, i ≤ xs.length → Pv i σ H → SqL K H a xs)
    (hs : ∀ (i : Nat) x σ H, xs[i]? = some x → Pv i σ H → AllocO (.tup [.int (i : Int), x]) (fun v H' => g v σ H' fun σ2 H2 => tb { D with nx := Pv (i + 1), ct := Pv (i + 1), bk := D.nx } σ2 H2) H) (hd : ∀ σ H, Pv xs.length σ H → D.nx σ H) :
    ∃ W : Nat → Nat → L2.St → Hp → Prop, (∃ m, W 0 m σ H) ∧ ∀ i m σ H, W i m σ H →
      ((Ite K a).stop i H ∧ D.nx σ H) ∨ ((Ite K a).go i H ∧ ∃ N : L2.St → Hp → Prop, (∀ σ' H', N σ' H' → ∃ m', m' < m ∧ W (i + 1) m' σ' H') ∧ ∀ x H', (Ite K a).yld i H x H' → g x σ H' fun σ2 H2 => tb { D with nx := N, ct := N, bk := D.nx } σ2 H2) := by
  refine ⟨fun i m σ H => m = xs.length - i ∧ i ≤ xs.length ∧ Pv i σ H, ⟨xs.length, by simp, Nat.zero_le _, h0⟩, ?_⟩
  rintro i m σ H ⟨rfl, hi, p⟩
  have q := hl i σ H hi p
  by_cases hlt : i < xs.length
  · refine .inr ⟨⟨xs, xs[i], q, by simp [hlt]⟩, Pv (i + 1), fun σ' H' p' => ⟨xs.length - (i + 1), by omega, rfl, hlt, p'⟩, fun x H' y => ?_⟩
    obtain ⟨T, z, rfl, hT, rfl, hz⟩ := y
    exact hs i z σ H (hz xs q) p T hT
  · have e : i = xs.length := by omega
    subst e
    exact .inl ⟨⟨xs, q, Nat.le_refl _⟩, hd σ H p⟩
/-- the turns of a for over a list, over enumerate(list), as one wish -/
def ForG (K : PySem.W.Frag) (a : Addr) (g : TG) (tb : TS) (D : Ends) (σ : L2.St) (H : Hp) : Prop := ∃ W : Nat → Nat → L2.St → Hp → Prop, (∃ m, W 0 m σ H) ∧ ∀ i m σ H, W i m σ H →
  ((Itl K a).stop i H ∧ D.nx σ H) ∨ ((Itl K a).go i H ∧ ∃ N : L2.St → Hp → Prop, (∀ σ' H', N σ' H' → ∃ m', m' < m ∧ W (i + 1) m' σ' H') ∧ ∀ x H', (Itl K a).yld i H x H' → g x σ H' fun σ2 H2 => tb { D with nx := N, ct := N, bk := D.nx } σ2 H2)
def ForE (K : PySem.W.Frag) (a : Addr) (g : TG) (tb : TS) (D : Ends) (σ : L2.St) (H : Hp) : Prop := ∃ W : Nat → Nat → L2.St → Hp → Prop, (∃ m, W 0 m σ H) ∧ ∀ i m σ H, W i m σ H →
  ((Ite K a).stop i H ∧ D.nx σ H) ∨ ((Ite K a).go i H ∧ ∃ N : L2.St → Hp → Prop, (∀ σ' H', N σ' H' → ∃ m', m' < m ∧ W (i + 1) m' σ' H') ∧ ∀ x H', (Ite K a).yld i H x H' → g x σ H' fun σ2 H2 => tb { D with nx := N, ct := N, bk := D.nx } σ2 H2)
def ForR (lo : Int) (n : Nat) (g : TG) (tb : TS) (D : Ends) (σ : L2.St) (H : Hp) : Prop := ∃ W : Nat → Nat → L2.St → Hp → Prop, (∃ m, W 0 m σ H) ∧ ∀ i m σ H, W i m σ H →
  ((Itr lo n).stop i H ∧ D.nx σ H) ∨ ((Itr lo n).go i H ∧ ∃ N : L2.St → Hp → Prop, (∀ σ' H', N σ' H' → ∃ m', m' < m ∧ W (i + 1) m' σ' H') ∧ ∀ x H', (Itr lo n).yld i H x H' → g x σ H' fun σ2 H2 => tb { D with nx := N, ct := N, bk := D.nx } σ2 H2)
section
variable {K : PySem.W.Frag} {D : Ends} {σ : L2.St} {H : Hp} {g : TG} {tb : TS}
theorem r_forL {tl : TE} (h : tl σ H fun x H1 => ∃ a, x = .ref a ∧ (∃ xs, SqL K H1 a xs) ∧ ForG K a g tb D σ H1) : tFor (iList K tl) g tb D σ H := h
theorem r_forE {ta : TA} (h : ta σ H fun vs H1 => ∃ a xs, vs = [.ref a] ∧ SqL K H1 a xs ∧ ForE K a g tb D σ H1) : tFor (iEnum K ta) g tb D σ H := h
theorem r_forR {ta : TA} (h : ta σ H fun vs H1 => ∃ j : Int, vs = [.int j] ∧ -(2 ^ 62) ≤ j ∧ j < 2 ^ 62 ∧ ForR 0 j.toNat g tb D σ H1) : tFor (iRng1 ta) g tb D σ H := h
theorem r_forL2 {a : Addr} {xs : List V} (h : SqL K H a xs) (q : ForG K a g tb D σ H) : ∃ a', V.ref a = .ref a' ∧ (∃ xs, SqL K H a' xs) ∧ ForG K a' g tb D σ H := ⟨a, rfl, ⟨xs, h⟩, q⟩
theorem r_forE2 {a : Addr} {xs : List V} (h : SqL K H a xs) (q : ForE K a g tb D σ H) : ∃ a' xs, [V.ref a] = [.ref a'] ∧ SqL K H a' xs ∧ ForE K a' g tb D σ H := ⟨a, xs, rfl, h, q⟩
end
theorem ForG.mk {K : PySem.W.Frag} {a : Addr} {xs : List V} {g : TG} {tb : TS} {D : Ends} {σ : L2.St} {H : Hp} (Pv : Nat → L2.St → Hp → Prop) (h0 : Pv 0 σ H) (hl : ∀ i σ H, i ≤ xs.length → Pv i σ H → SqL K H a xs)
    (hs : ∀ i x σ H, xs[i]? = some x → Pv i σ H → g x σ H fun σ2 H2 => tb { D with nx := Pv (i + 1), ct := Pv (i + 1), bk := D.nx } σ2 H2) (hd : ∀ σ H, Pv xs.length σ H → D.nx σ H) : ForG K a g tb D σ H := for_list Pv h0 hl hs hd
theorem ForE.mk {K : PySem.W.Frag} {a : Addr} {xs : List V} {g : TG} {tb : TS} {D : Ends} {σ : L2.St} {H : Hp} (Pv : Nat → L2.St → Hp → Prop) (h0 : Pv 0 σ H) (hl : ∀ i σ H, i ≤ xs.length → Pv i σ H → SqL K H a xs)
    (hs : ∀ (i : Nat) x σ H, xs[i]? = some x → Pv i σ H → AllocO (.tup [.int (i : Int), x]) (fun v H' => g v σ H' fun σ2 H2 => tb { D with nx := Pv (i + 1), ct := Pv (i + 1), bk := D.nx } σ2 H2) H) (hd : ∀ σ H, Pv xs.length σ H → D.nx σ H) : ForE K a g tb D σ H := for_enum Pv h0 hl hs hd
theorem ForR.mk {lo : Int} {n : Nat} {g : TG} {tb : TS} {D : Ends} {σ : L2.St} {H : Hp} (Pv : Nat → L2.St → Hp → Prop) (h0 : Pv 0 σ H)
    (hs : ∀ i σ H, i < n → Pv i σ H → g (.int (lo + i)) σ H fun σ2 H2 => tb { D with nx := Pv (i + 1), ct := Pv (i + 1), bk := D.nx } σ2 H2) (hd : ∀ σ H, Pv n σ H → D.nx σ H) : ForR lo n g tb D σ H := for_range Pv h0 hs hd
theorem mem_cutV {xs : List V} {lo hi : Option Int} {x : V} (h : x ∈ cutV xs lo hi) : x ∈ xs := by
  unfold cutV at h
  exact List.mem_of_mem_drop (List.mem_of_mem_take h)
theorem Ext.frN {H0 H H' : Hp} {p : Addr} (e : Ext H0 H) (f : Fr [p] H H') (n : H0 p = none) : Ext H0 H' := fun a o h => f a o (by
  have : a ≠ p := ne_of_none h n
  simpa using this) (e a o h)
/-- a comprehension over range(n), its element a value each -/
def LcR (lo : Int) (n : Nat) (g : TG) (tt : TT) (te : TE) (vs : List Nat) (σ : L2.St) (Q : VK) (H1 : Hp) : Prop := ∀ D, H1 D = none → ∃ W : Nat → Nat → Hp → Prop, (∃ m, W 0 m (upd H1 D (.lst []))) ∧ ∀ i m H, W i m H →
  ((Itr lo n).stop i H ∧ Q (.ref D) H) ∨ ((Itr lo n).go i H ∧ ∃ Nx : Hp → Prop, (∀ H', Nx H' → ∃ m', m' < m ∧ W (i + 1) m' H') ∧ ∀ x H', (Itr lo n).yld i H x H' → g x (wipe σ vs) H' fun σ2 H2 => wipe σ2 vs = wipe σ vs ∧ tt σ2 H2 fun b H3 =>
    if b = true then te σ2 H3 fun y H4 => ∃ acc, H4 D = some (.lst acc) ∧ acc.length < sizeLine ∧ Nx (upd H4 D (.lst (acc ++ [y]))) else Nx H3)
theorem r_lcR {g : TG} {tt : TT} {te : TE} {vs : List Nat} {ta : TA} {σ : L2.St} {H : Hp} {Q : VK} (h : ta σ H fun us H1 => ∃ j : Int, us = [.int j] ∧ -(2 ^ 62) ≤ j ∧ j < 2 ^ 62 ∧ LcR 0 j.toNat g tt te vs σ Q H1) : tLc (iRng1 ta) g tt te vs σ H Q := by
  show ta σ H _
  exact h
theorem lcR_pure {lo : Int} {n : Nat} {g : TG} {tt : TT} {te : TE} {vs : List Nat} {σ : L2.St} {Q : VK} {H : Hp} (f : Nat → V) (hn : n ≤ 100000)
    (hs : ∀ (i : Nat) (H' : Hp) (R : VK) (N : Hp → Prop), i < n → Ext H H' → (∀ H4, Ext H' H4 → R (f i) H4) → g (.int (lo + (i : Int))) (wipe σ vs) H' fun σ2 H2 => wipe σ2 vs = wipe σ vs ∧ tt σ2 H2 fun b H3 => if b = true then te σ2 H3 R else N H3)
    (q : ∀ p H', H p = none → Ext H H' → H' p = some (.lst ((List.range n).map f)) → Q (.ref p) H') : LcR lo n g tt te vs σ Q H := fun D hD =>
  lc_range (fun i H' => Ext H H' ∧ H' D = some (.lst ((List.range i).map f))) ⟨.new hD, upd_same⟩ (fun i H' hi ⟨e, hd⟩ => hs i H' _ _ hi e fun H4 e4 => by
      refine ⟨_, e4 _ _ hd, ?_, fun a o z => ?_, ?_⟩
      · refine sz_lt ?_
        rw [List.length_map, List.length_range]
        omega
      · rw [upd_ne (ne_of_none z hD)]
        exact e4 _ _ (e _ _ z)
      · rw [upd_same, List.range_succ, List.map_append]
        rfl) fun H' ⟨e, hd⟩ => q D H' hD e hd
theorem r_dnew {σ : L2.St} {H : Hp} {Q : VK} (h : AllocO (.dK []) Q H) : tDNewK σ H Q := h
theorem KH.extE {H0 H : Hp} {L : List (Addr × HO)} (k : KH H0 [] L H) : Ext H0 H := fun a o h => k.fr a o (by simp) h
/-! ### a def by its name -/
structure DfOk (P : Program) (w : World) (K : PySem.W.Frag) (mg : Str → Option Value) (base : Heap) (CX : CXT) (k : Nat) (x : Str) (ps : List Str) (sp : Sp) : Prop where
  ex : ∃ (f : Addr) (fd : FuncData), mg x = some (.ref f) ∧ PySem.W.keepIn K (.ref f) = true ∧ Binds K fd ps [] ∧ FnOk P w K mg base CX k f fd ps sp
theorem pe_callD {X : Cx} {CX : CXT} {k j : Nat} {x : Str} {ps : List Str} {sp : Sp} {p pos : Pos} {e : Expr} {es : List Expr} {t : TA} (Df : DfOk X.prog X.w X.K X.mg X.base CX k x ps sp) (hr : Room j X.A) (ha : PA X (e :: es) t)
    (hk : k ≤ j := by decide) (hx : Passes CX X E0 := by first | exact pass0 | exact passL) (hg : Gl X x := by rfl) (hdb : (x == ("__debug__" : Str)) = false := by decide)
    (he : starEach (e :: es) X.env = (false, eval e X.env) :: starEach es X.env := by rfl) (hpl : (backTo pos (starEach es X.env)).any (·.1) = false := by rfl) :
    PE X (.Call (.Name x p) (e :: es) [] pos) (tCall sp [] E0 t) := by
  obtain ⟨f, fd, hm, hkp, hb, F⟩ := Df.ex
  exact pe_call F (hr.mono hk) hg hm hkp hb .nil hx ha hdb he hpl
end Wc

set_option Elab.async false
set_option linter.all false
set_option maxRecDepth 100000
set_option maxHeartbeats 4000000
/-! own exceptions with one field, made as values; plain ones -/
namespace Wc
open PySem PySem.Spec PyProof.Rows L2
def spInit (K : PySem.W.Frag) (C : Addr) (fld : Str) : Sp := fun vs H Q _ => ∃ (a : Addr) (v : V), vs = [.ref a, v] ∧ H a = some (exo a C none) ∧ OexC K C ∧ PySem.W.findIn K (.ref C) fld = some none ∧
  ∀ d, H d = none → d ≠ a → Q .non (upd (upd H d (exd d [(fld, v)])) a (exo a C (some d)))
theorem r_vei {K : PySem.W.Frag} {ta : TA} {σ : L2.St} {H : Hp} {Q : VK} (h : ta σ H fun vs H1 => ∃ (a C : Addr) (ws : List V), vs = .ref a :: ws ∧ ws.length ≤ 1000 ∧ OexC K C ∧ H1 a = some (exo a C none) ∧ Q .non H1) : tVeI K ta σ H Q := h
theorem r_ost {K : PySem.W.Frag} {f : Str} {to te : TE} {D : Ends} {σ : L2.St} {H : Hp} (h : te σ H fun y H1 => to σ H1 fun x H2 => ∃ a C : Addr, x = .ref a ∧ OexC K C ∧ PySem.W.findIn K (.ref C) f = some none ∧
  ((H2 a = some (exo a C none) ∧ ∀ dx, H2 dx = none → dx ≠ a → D.nx σ (upd (upd H2 dx (exd dx [(f, y)])) a (exo a C (some dx)))) ∨
    ∃ (dx : Addr) (fs : List (Str × V)), H2 a = some (exo a C (some dx)) ∧ H2 dx = some (exd dx fs) ∧ fs.length ≤ 900 ∧ D.nx σ (upd H2 dx (exd dx ((f, y) :: fs))))) : tOst K f to te D σ H := h
/-- an exception of the class at C with its one field stands at a -/
def ExF (H : Hp) (a C : Addr) (f : Str) (v : V) : Prop := ∃ d, H a = some (exo a C (some d)) ∧ H d = some (exd d [(f, v)])
theorem ExF.at_ {H : Hp} {a C : Addr} {f : Str} {v : V} (h : ExF H a C f v) : ExAt H a C := by
  obtain ⟨d, h1, h2⟩ := h
  exact .inl ⟨d, _, h1, h2⟩
theorem ExF.ext {H H' : Hp} {a C : Addr} {f : Str} {v : V} (h : ExF H a C f v) (e : Ext H H') : ExF H' a C f v := by
  obtain ⟨d, h1, h2⟩ := h
  exact ⟨d, e _ _ h1, e _ _ h2⟩
theorem ExAt.ext {H H' : Hp} {a C : Addr} (h : ExAt H a C) (e : Ext H H') : ExAt H' a C := by
  rcases h with ⟨d, fs, h1, h2⟩ | ⟨t, h⟩
  · exact .inl ⟨d, fs, e _ _ h1, e _ _ h2⟩
  · exact .inr ⟨t, e _ _ h⟩
/-- .. where one list (or dict) changes -/
theorem ExAt.fr {H H' : Hp} {a C p : Addr} {xs : List V} (h : ExAt H a C) (hp : H p = some (.lst xs)) (e : Fr [p] H H') : ExAt H' a C := by
  have ne : ∀ {b : Addr} {φ : Heap → Prop}, H b = some (.ext φ) → b ∉ [p] := fun {b φ} hb => by
    have : b ≠ p := ne_of hb hp (by intro z; cases z)
    simpa using this
  rcases h with ⟨d, fs, h1, h2⟩ | ⟨t, h⟩
  · exact .inl ⟨d, fs, e _ _ (ne h1) h1, e _ _ (ne h2) h2⟩
  · exact .inr ⟨t, e _ _ (ne h) h⟩
/-- NoX(v) as a value -/
structure ErrOk (P : Program) (w : World) (K : PySem.W.Frag) (mg : Str → Option Value) (base : Heap) (x : Str) (C : Addr) (fld : Str) : Prop where
  g : mg x = some (.ref C)
  o : OexC K C
  no : PySem.W.findIn K (.ref C) fld = some none
  ex : ∃ (f : Addr) (fd : FuncData) (ps : List Str), ExIn K C f ∧ Binds K fd ps [] ∧ FnOk P w K mg base CX0 1 f fd ps (spInit K C fld)
/-- C(v): what is asked behind the argument -/
def MkG (K : PySem.W.Frag) (C : Addr) (fld : Str) (Q : VK) (vs : List V) (H : Hp) : Prop := vs.length ≤ 1000 ∧ ∀ a, H a = none → spInit K C fld (.ref a :: vs) (upd H a (exo a C none)) (fun v H2 => v = .non ∧ Q (.ref a) H2) E0
theorem MkG.mk {K : PySem.W.Frag} {C : Addr} {fld : Str} {v : V} {Q : VK} {H0 H : Hp} {M : List Addr} {L : List (Addr × HO)} (o : OexC K C) (no : PySem.W.findIn K (.ref C) fld = some none) (k : KH H0 M L H)
    (h : ∀ a d H', KH H0 M ((a, exo a C (some d)) :: (d, exd d [(fld, v)]) :: L) H' → Q (.ref a) H') : MkG K C fld Q [v] H := by
  refine ⟨by simp, fun a ha => ⟨a, v, rfl, upd_same, o, no, fun d hd ne => ⟨rfl, ?_⟩⟩⟩
  rw [upd_ne ne] at hd
  have e : upd (upd (upd H a (exo a C none)) d (exd d [(fld, v)])) a (exo a C (some d)) = upd (upd H d (exd d [(fld, v)])) a (exo a C (some d)) := by
    funext b
    by_cases c : b = a
    · rw [c, upd_same, upd_same]
    · rw [upd_ne c, upd_ne c]
      by_cases c2 : b = d
      · rw [c2, upd_same, upd_same]
      · rw [upd_ne c2, upd_ne c2, upd_ne c]
  rw [e]
  exact h a d _ ((k.new hd).new (by rw [upd_ne (Ne.symm ne)]; exact ha))
theorem r_mkV {K : PySem.W.Frag} {C : Addr} {fld : Str} {ta : TA} {σ : L2.St} {H : Hp} {Q : VK} (h : ta σ H fun vs H1 => MkG K C fld Q vs H1) : tMkV C (spInit K C fld) ta σ H Q := h
theorem pe_mkE {X : Cx} {x fld : Str} {C : Addr} {j : Nat} {p pos : Pos} {e : Expr} {te : TE} (Er : ErrOk X.prog X.w X.K X.mg X.base x C fld) (hr : Room j X.A) (he : PE X e te)
    (hk : 2 ≤ j := by decide) (hg : Gl X x := by rfl) (hdb : (x == ("__debug__" : Str)) = false := by decide)
    (hs : starEach [e] X.env = (false, eval e X.env) :: starEach [] X.env := by rfl) : PE X (.Call (.Name x p) [e] [] pos) (tMkV C (spInit X.K C fld) (tCons te tNil)) := by
  obtain ⟨f, fd, ps, I, b, F⟩ := Er.ex
  exact pe_mkv (p := p) (pos := pos) Er.o I F (hr.mono hk) b pass0 hg Er.g (pa_cons he pa_nil hs) hdb hs (by rfl)
/-- e.f -/
theorem r_xfld {K : PySem.W.Frag} {te : TE} {f : Str} {σ : L2.St} {H : Hp} {Q : VK} (h : te σ H fun x H1 => ∃ (a C d : Addr) (fs : List (Str × V)) (v : V), x = .ref a ∧ H1 a = some (exo a C (some d)) ∧ H1 d = some (exd d fs) ∧ ExRd K C ∧ OexC K C ∧ NoAttr K C f ∧ fs.lookup f = some v ∧ Q v H1) : tXfld K te f σ H Q := h
theorem r_xf {K : PySem.W.Frag} {f : Str} {H : Hp} {R : V → Prop} {a C d : Addr} {v : V} (h1 : H a = some (exo a C (some d))) (h2 : H d = some (exd d [(f, v)])) (hr : ExRd K C) (ho : OexC K C) (hn : PySem.W.findIn K (.ref C) f = some none) (q : R v) :
    ∃ (a' C d : Addr) (fs : List (Str × V)) (v : V), V.ref a = .ref a' ∧ H a' = some (exo a' C (some d)) ∧ H d = some (exd d fs) ∧ ExRd K C ∧ OexC K C ∧ NoAttr K C f ∧ fs.lookup f = some v ∧ R v :=
  ⟨a, C, d, _, v, rfl, h1, h2, hr, ho, hn, by simp [List.lookup], q⟩
/-- isinstance(e, c) -/
theorem r_isiE {K : PySem.W.Frag} {H : Hp} {Q : VK} {a C : Addr} {c : V} {u : Value} {b : Bool} (hc : ClsV c u) (hx : ExAt H a C) (S : ExIs K C) (R : ExRd K C) (sb : PySem.W.subIn K (.ref C) (.type "BaseException") = some true) (e : PySem.W.kitOne K (.ref C) u = some b) (q : Q (.bl b) H) :
    rIsiE K [.ref a, c] H Q := ⟨a, C, c, u, b, rfl, hc, hx, S, R, sb, e, q⟩
/-- a plain one: X(text) -/
structure PlainOk (K : PySem.W.Frag) (mg : Str → Option Value) (x : Str) (C : Addr) : Prop where
  g : mg x = some (.ref C)
  x : PySem.W.excIn K C He.veBase "ValueError.__new__" = true
  k : PySem.W.keepIn K (.ref C) = true
def AllocX (C : Addr) (v : V) (Q : VK) (H : Hp) : Prop := ∀ a t, H a = none → H t = none → a ≠ t → Q (.ref a) (upd (upd H t (.tup [v])) a (exo1 a C t))
def tMkX (C : Addr) (te : TE) : TE := fun σ H Q => te σ H fun v H1 => AllocX C v Q H1
theorem r_mkX {C : Addr} {te : TE} {σ : L2.St} {H : Hp} {Q : VK} (h : te σ H fun v H1 => AllocX C v Q H1) : tMkX C te σ H Q := h
theorem pe_mkX {X : Cx} {x : Str} {C : Addr} {p pos : Pos} {e : Expr} {te : TE} (Px : PlainOk X.K X.mg x C) (he : PE X e te) (hg : Gl X x := by rfl)
    (hdb : (x == ("__debug__" : Str)) = false := by decide) (hs : starEach [e] X.env = (false, eval e X.env) :: starEach [] X.env := by rfl) : PE X (.Call (.Name x p) [e] [] pos) (tMkX C te) :=
  pe_exc1t PySem.F.excBase_ValueError Px.x Px.g Px.k hg he hs hdb
def ExT (H : Hp) (a C : Addr) (v : V) : Prop := ∃ t, H a = some (exo1 a C t) ∧ H t = some (.tup [v])
theorem ExT.at_ {H : Hp} {a C : Addr} {v : V} (h : ExT H a C v) : ExAt H a C := by
  obtain ⟨t, h1, _⟩ := h
  exact .inr ⟨t, h1⟩
theorem ExT.ext {H H' : Hp} {a C : Addr} {v : V} (h : ExT H a C v) (e : Ext H H') : ExT H' a C v := by
  obtain ⟨d, h1, h2⟩ := h
  exact ⟨d, e _ _ h1, e _ _ h2⟩
theorem AllocX.mk {C : Addr} {v : V} {Q : VK} {H0 H : Hp} {M : List Addr} {L : List (Addr × HO)} (k : KH H0 M L H) (h : ∀ a t H', KH H0 M ((a, exo1 a C t) :: (t, .tup [v]) :: L) H' → Q (.ref a) H') : AllocX C v Q H := fun a t ha ht ne =>
  h a t _ ((k.new ht).new (by rw [upd_ne ne]; exact ha))
/-- x != y: data, or one empty dict with itself -/
def rNeT (K : PySem.W.Frag) : R2 := fun x y H Q => rNeD K x y H Q ∨ ∃ a, x = .ref a ∧ y = .ref a ∧ H a = some (.dK []) ∧ Q (.bl false) H
theorem op_neT {X : Cx} (hu : X.A.units + 64 < cLine) : OpR X (compareOp .NotEq) (rNeT X.K) := by
  intro pins s σ H x y v u Q I rx ry h
  rcases h with h | ⟨a, rfl, rfl, ha, q⟩
  · exact op_neD hu pins s σ H x y v u Q I rx ry h
  · obtain rfl : v = Value.ref a := rx
    obtain rfl : u = Value.ref a := ry
    obtain ⟨_, hm, vs, rv, hd⟩ := (show ObjOk X.prog X.w H s.heap a (.dK []) from I.hok a _ ha)
    cases rv
    exact PySem.W.keq_ne hm hm hd hd (by omega) (fun _ => .nil) ⟨.bl false, H, I, rfl, q⟩
end Wc

set_option Elab.async false
set_option linter.all false
set_option maxRecDepth 100000
set_option maxHeartbeats 4000000
/-! flat data -/
namespace Wc
open PySem PySem.Spec PyProof.Rows L2
def fD : V → PyData
  | .bl b => .bool b
  | .int i => .int i
  | .str s => .str s
  | _ => .none
def FlatOk (v : V) : Prop := v = .non ∨ (∃ b, v = .bl b) ∨ (∃ i, v = .int i) ∨ ∃ s, v = .str s ∧ PyData.strOk s = true
theorem flat_dp {K : PySem.W.Frag} {H : Hp} {v : V} (h : FlatOk v) : Dp K H v (fD v) := by
  rcases h with rfl | ⟨b, rfl⟩ | ⟨i, rfl⟩ | ⟨s, rfl, _⟩
  · exact .non
  · exact .bl b
  · exact .int i
  · exact .str s
theorem flat_lay {v : V} (h : FlatOk v) : (fD v).canLay0 = true ∧ (fD v).depth = 0 := by
  rcases h with rfl | ⟨b, rfl⟩ | ⟨i, rfl⟩ | ⟨s, rfl, hs⟩
  · exact ⟨rfl, rfl⟩
  · exact ⟨rfl, rfl⟩
  · exact ⟨rfl, rfl⟩
  · exact ⟨by simpa [fD, PyData.canLay0] using hs, rfl⟩
theorem flat_shaped {v : V} (h : FlatOk v) : SeqAt.shaped (fD v) = true := by
  obtain ⟨h1, h2⟩ := flat_lay h
  unfold SeqAt.shaped
  rw [h1, h2] <;> rfl
theorem flats_dp {K : PySem.W.Frag} {H : Hp} : ∀ {xs : List V}, (∀ v, v ∈ xs → FlatOk v) → DpAll K H xs (xs.map fD)
  | [], _ => .nil
  | v :: xs, h => .cons (flat_dp (h v (by simp))) (flats_dp fun u hu => h u (by simp [hu]))
theorem flats_lay : ∀ {xs : List V}, (∀ v, v ∈ xs → FlatOk v) → PyData.canLayAll0 (xs.map fD) = true ∧ PyData.depthAll (xs.map fD) = 0
  | [], _ => ⟨rfl, rfl⟩
  | v :: xs, h => by
    obtain ⟨h1, h2⟩ := flat_lay (h v (by simp))
    obtain ⟨h3, h4⟩ := flats_lay (xs := xs) fun u hu => h u (by simp [hu])
    refine ⟨?_, ?_⟩
    · show ((fD v).canLay0 && PyData.canLayAll0 (xs.map fD)) = true
      rw [h1, h3] <;> rfl
    · show max (fD v).depth (PyData.depthAll (xs.map fD)) = 0
      rw [h2, h4] <;> rfl
theorem lst_shaped {xs : List V} (h : ∀ v, v ∈ xs → FlatOk v) : SeqAt.shaped (.list (xs.map fD)) = true := by
  obtain ⟨h1, h2⟩ := flats_lay h
  show ((PyData.canLay0 (.list (xs.map fD))) && decide (PyData.depth (.list (xs.map fD)) ≤ 64)) = true
  have e1 : PyData.canLay0 (.list (xs.map fD)) = true := by simpa [PyData.canLay0] using h1
  have e2 : PyData.depth (.list (xs.map fD)) = 1 := by
    show PyData.depthAll (xs.map fD) + 1 = 1
    rw [h2]
  rw [e1, e2] <;> rfl
theorem tup_shaped {xs : List V} (h : ∀ v, v ∈ xs → FlatOk v) : SeqAt.shaped (.tuple (xs.map fD)) = true := by
  obtain ⟨h1, h2⟩ := flats_lay h
  show ((PyData.canLay0 (.tuple (xs.map fD))) && decide (PyData.depth (.tuple (xs.map fD)) ≤ 64)) = true
  have e1 : PyData.canLay0 (.tuple (xs.map fD)) = true := by simpa [PyData.canLay0] using h1
  have e2 : PyData.depth (.tuple (xs.map fD)) = 1 := by
    show PyData.depthAll (xs.map fD) + 1 = 1
    rw [h2]
  rw [e1, e2] <;> rfl
theorem shaped_refl {d : PyData} (h : SeqAt.shaped d = true) : PyData.eqv d d = true := SeqAt.eqv_refl d (SeqAt.canLay_of_shaped h)
theorem flat_bl (b : Bool) : FlatOk (.bl b) := .inr (.inl ⟨b, rfl⟩)
theorem flat_int (i : Int) : FlatOk (.int i) := .inr (.inr (.inl ⟨i, rfl⟩))
/-- data that != finds alike -/
theorem ne_same {K : PySem.W.Frag} {H : Hp} {x y : V} {d : PyData} {Q : VK} (h1 : Dp K H x d) (h2 : Dp K H y d) (hs : SeqAt.shaped d = true) (q : Q (.bl false) H) : rNeD K x y H Q := ⟨d, d, h1, h2, hs, hs, by rw [shaped_refl hs]; exact q⟩
end Wc

set_option Elab.async false
set_option linter.all false
set_option maxRecDepth 100000
set_option maxHeartbeats 4000000
/-! the head's look with the tables of code objects of some defs (those that make lambdas) -/
namespace Wc
open PySem PySem.Spec PyProof.Rows L2
def obsY (n : Nat) (fa : List He.Fa) (fn : List He.DefD) (tf : List He.Defn) (ex : PySem.W.Frag → Bool) (g : Addr → Option Obj) : AlC :=
  (He.obsD fa fn (He.frT g (asC g n)), ex (He.frT g (asC g n)) && He.tabsB g tf (He.frT g (asC g n)))
structure SaysY (fa : List He.Fa) (fn : List He.DefD) (tf : List He.Defn) (ex : PySem.W.Frag → Bool) (h : Heap) (K : PySem.W.Frag) : Prop where
  d : He.SaysD fa fn K
  more : ex K = true
  hd : ∀ p ∈ tf, PySem.W.codeHdIn K (He.cT K p).1 (He.cT K p).2 = true
  out : ∀ p ∈ tf, K.lookup (He.cT K p).2 = none
  empty : ∀ p ∈ tf, h.get? (He.cT K p).2 = some { cls := .none, data := .fields #[] }
theorem saysY_of {n : Nat} {fa : List He.Fa} {fn : List He.DefD} {tf : List He.Defn} {ex : PySem.W.Frag → Bool} {h : Heap} (e : obsY n fa fn tf ex h.get? = valC fn) : SaysY fa fn tf ex h (He.frT h.get? (asC h.get? n)) := by
  have e1 : He.obsD fa fn (He.frT h.get? (asC h.get? n)) = He.valD fn := congrArg (fun z : AlC => z.1) e
  have e2 : (ex (He.frT h.get? (asC h.get? n)) && He.tabsB h.get? tf (He.frT h.get? (asC h.get? n))) = true := congrArg (fun z : AlC => z.2) e
  obtain ⟨h1, h2⟩ := He.ba e2
  have key : ∀ p ∈ tf, PySem.W.codeHdIn (He.frT h.get? (asC h.get? n)) (He.cT (He.frT h.get? (asC h.get? n)) p).1 (He.cT (He.frT h.get? (asC h.get? n)) p).2 = true ∧ ∃ o, h.get? (He.cT (He.frT h.get? (asC h.get? n)) p).2 = some o ∧ He.emptyTab o = true := fun p hp => by
    obtain ⟨h3, h4⟩ := He.ba (List.all_eq_true.mp h2 p hp)
    refine ⟨h3, ?_⟩
    cases q : h.get? (He.cT (He.frT h.get? (asC h.get? n)) p).2 with
    | none =>
      rw [q] at h4
      cases h4
    | some o =>
      rw [q] at h4
      exact ⟨o, rfl, h4⟩
  exact ⟨e1, h1, fun p hp => (key p hp).1, fun p hp => by
    obtain ⟨_, o, q, z⟩ := key p hp
    exact He.frT_none q z, fun p hp => by
    obtain ⟨_, o, q, z⟩ := key p hp
    rw [q, He.emptyTab_eq z]⟩
def hookY (n : Nat) (fa : List He.Fa) (fn : List He.DefD) (tf : List He.Defn) (ex : PySem.W.Frag → Bool) : PySem.W.Hook where
  α := AlC
  obs := fun s => obsY n fa fn tf ex s.heap.get?
  val := fun _ => valC fn
  says := fun _ h => ∃ K : PySem.W.Frag, K.In h ∧ SaysY fa fn tf ex h K
  of := fun _ _ e => ⟨_, He.frT_in, saysY_of e⟩
  keeps := fun _ _ _ ⟨K, hK, c⟩ k => ⟨K, PySem.W.Frag.In.keeps hK k, ⟨c.d, c.more, c.hd, c.out, fun p hp => k _ _ (c.empty p hp)⟩⟩
theorem obsY_eq {n : Nat} {fa : List He.Fa} {fn : List He.DefD} {tf : List He.Defn} {ex : PySem.W.Frag → Bool} {g : Addr → Option Obj} {s : Shared} (h : ∀ a, g a = s.heap.get? a) : obsY n fa fn tf ex g = (hookY n fa fn tf ex).obs s := by
  have e : g = s.heap.get? := funext h
  rw [e] <;> rfl
theorem SaysY.fact {fa : List He.Fa} {fn : List He.DefD} {tf : List He.Defn} {ex : PySem.W.Frag → Bool} {h : Heap} {K : PySem.W.Frag} (c : SaysY fa fn tf ex h K) {f : He.Fa} (hf : f ∈ fa) : f.ok K = true := by
  obtain ⟨i, hi, e⟩ := List.mem_iff_getElem.mp hf
  exact c.d.fact i (f := f) (by rw [List.getElem?_eq_getElem hi, e])
theorem SaysY.def_ {fa : List He.Fa} {fn : List He.DefD} {tf : List He.Defn} {ex : PySem.W.Frag → Bool} {h : Heap} {K : PySem.W.Frag} (c : SaysY fa fn tf ex h K) {d : He.DefD} (hd : d ∈ fn) : ∃ fd, FunD K d.name d.qual d.params d.body d.scope (d.dvs K) (d.kws K) (He.fAd K d.at_) fd := by
  obtain ⟨i, hi, e⟩ := List.mem_iff_getElem.mp hd
  exact c.d.def_ i (d := d) (by rw [List.getElem?_eq_getElem hi, e])
end Wc

set_option Elab.async false
set_option linter.all false
set_option maxRecDepth 100000
set_option maxHeartbeats 4000000
/-! comprehensions over any walk; fields, methods, dicts; the runtime's classes on the heap -/
namespace Wc
open PySem PySem.Spec PyProof.Rows L2
theorem pAppend {α β : Type} {F : α → β → Prop} : ∀ {a : List α} {b : List β} {c : List α} {d : List β}, Paired F a b → Paired F c d → Paired F (a ++ c) (b ++ d)
  | _, _, _, _, .nil, h => h
  | _, _, _, _, .cons x y, h => .cons x (pAppend y h)
/-! ### comprehensions -/
def LcJ (J : It) (g : TG) (tt : TT) (te : TE) (vs : List Nat) (σ : L2.St) (Q : VK) (H1 : Hp) : Prop := ∀ D, H1 D = none → ∃ W : Nat → Nat → Hp → Prop, (∃ m, W 0 m (upd H1 D (.lst []))) ∧ ∀ i m H, W i m H →
  (J.stop i H ∧ Q (.ref D) H) ∨ (J.go i H ∧ ∃ Nx : Hp → Prop, (∀ H', Nx H' → ∃ m', m' < m ∧ W (i + 1) m' H') ∧ ∀ x H', J.yld i H x H' → g x (wipe σ vs) H' fun σ2 H2 => wipe σ2 vs = wipe σ vs ∧ tt σ2 H2 fun b H3 =>
    if b = true then te σ2 H3 fun y H4 => ∃ acc, H4 D = some (.lst acc) ∧ acc.length < sizeLine ∧ Nx (upd H4 D (.lst (acc ++ [y]))) else Nx H3)
theorem lcJ {J : It} {n : Nat} {G : Hp → Prop} {Y : Nat → Hp → V → Hp → Prop} {g : TG} {tt : TT} {te : TE} {vs : List Nat} {σ : L2.St} {Q : VK} {H : Hp} (w : Walk J n G Y) (f : Nat → Option V) (hn : n ≤ 100000) (hG : ∀ H', Ext H H' → G H')
    (hs : ∀ (i : Nat) (x : V) (H1 H2 : Hp) (R : VK) (N : Hp → Prop), i < n → Ext H H1 → Y i H1 x H2 → (∀ v H4, f i = some v → Ext H1 H4 → R v H4) → (∀ H4, f i = none → Ext H1 H4 → N H4) →
      g x (wipe σ vs) H2 fun σ2 H3 => wipe σ2 vs = wipe σ vs ∧ tt σ2 H3 fun b H4 => if b = true then te σ2 H4 R else N H4)
    (q : ∀ p H', H p = none → Ext H H' → H' p = some (.lst ((List.range n).filterMap f)) → Q (.ref p) H') : LcJ J g tt te vs σ Q H := fun D hD =>
  lc_it w (fun i H' => Ext H H' ∧ H' D = some (.lst ((List.range i).filterMap f))) ⟨.new hD, upd_same⟩ (fun i H' _ p => hG H' p.1)
    (fun i x H1 H2 hi ⟨e, hd⟩ y => hs i x H1 H2 _ _ hi e y (fun v H4 hv e4 => by
        refine ⟨_, e4 _ _ hd, ?_, fun a o z => ?_, ?_⟩
        · refine sz_lt ?_
          have h1 := List.length_filterMap_le f (List.range i)
          rw [List.length_range] at h1
          omega
        · rw [upd_ne (ne_of_none z hD)]
          exact e4 _ _ (e _ _ z)
        · rw [upd_same, List.range_succ, List.filterMap_append]
          simp [hv]) fun H4 hv e4 => by
        refine ⟨e.trans e4, ?_⟩
        rw [List.range_succ, List.filterMap_append]
        simp [hv]
        exact e4 _ _ hd) fun H' ⟨e, hd⟩ => q D H' hD e hd
theorem range_get {α : Type} (l : List α) : (List.range l.length).map (fun i => l[i]?) = l.map some := by
  apply List.ext_getElem?
  intro i
  by_cases h : i < l.length
  · simp [h]
  · simp [h]
theorem range_fm {α β : Type} (l : List α) (g : α → Option β) : (List.range l.length).filterMap (fun i => l[i]?.bind g) = l.filterMap g := by
  have e : (List.range l.length).filterMap (fun i => l[i]?.bind g) = ((List.range l.length).map (fun i => l[i]?)).filterMap (fun o => o.bind g) := by
    rw [List.filterMap_map] <;> rfl
  rw [e, range_get, List.filterMap_map] <;> rfl
section
variable {K : PySem.W.Frag} {D : Ends} {σ : L2.St} {H : Hp} {Q : VK} {g : TG} {tt : TT} {te td tl ta : TE} {vs : List Nat}
theorem r_lcS (h : td σ H fun v H1 => ∃ x, v = .str x ∧ LcJ (Its x) g tt te vs σ Q H1) : tLc (iStr td) g tt te vs σ H Q := h
theorem r_lcS2 {x : Str} {R : Str → Prop} (h : R x) : ∃ y, V.str x = .str y ∧ R y := ⟨x, rfl, h⟩
theorem r_lcL (h : tl σ H fun x H1 => ∃ a, x = .ref a ∧ (∃ xs, SqL K H1 a xs) ∧ LcJ (Itl K a) g tt te vs σ Q H1) : tLc (iList K tl) g tt te vs σ H Q := h
theorem r_lcT (h : tl σ H fun x H1 => ∃ a, x = .ref a ∧ (∃ xs, SqT K H1 a xs) ∧ LcJ (Itt K a) g tt te vs σ Q H1) : tLc (iTup K tl) g tt te vs σ H Q := h
theorem r_lcI (h : td σ H fun x H1 => ∃ d o kvs, x = .ref d ∧ H1 d = some (.frz o (.dK kvs)) ∧ LcJ (Iti d o kvs) g tt te vs σ Q H1) : tLc (iItems td) g tt te vs σ H Q := h
theorem r_yes {R : Bool → Hp → Prop} (h : R true H) : tYes σ H R := h
theorem r_chain {r r' : R2} {tc : TE} {tb : TE} (h : ta σ H fun x H1 => tb σ H1 fun y H2 => r x y H2 fun z H3 => ∃ k, z = .bl k ∧ (if k = true then tc σ H3 fun w' H4 => r' y w' H4 Q else Q (.bl false) H3)) : tChain r r' ta tb tc σ H Q := h
/-! ### fields -/
def FldAt (K : PySem.W.Frag) (f : Str) (x : V) (H : Hp) (Q : VK) : Prop := ∃ a C dx fs v, x = .ref a ∧ H a = some (.ins C dx fs) ∧ Cls K C ∧ NoAttr K C f ∧ fs.lookup f = some v ∧ Q v H
theorem r_fld {f : Str} (h : ta σ H fun x H1 => FldAt K f x H1 Q) : tFld K ta f σ H Q := h
theorem FldAt.mk {f : Str} {a C dx : Addr} {fs : List (Str × V)} {v : V} (h : H a = some (.ins C dx fs)) (c : Cls K C) (n : NoAttr K C f) (e : fs.lookup f = some v) (q : Q v H) : FldAt K f (.ref a) H Q := ⟨a, C, dx, fs, v, rfl, h, c, n, e, q⟩
def SFldAt (K : PySem.W.Frag) (f : Str) (y x : V) (H : Hp) (R : Hp → Prop) : Prop := ∃ a C dx fs, x = .ref a ∧ H a = some (.ins C dx fs) ∧ Cls K C ∧ NoAttr K C f ∧ fs.length < 1000 ∧ R (upd H a (.ins C dx (putF f y fs)))
theorem r_sfld {f : Str} {tv : TE} (h : tv σ H fun y H1 => ta σ H1 fun x H2 => SFldAt K f y x H2 (D.nx σ)) : sFld K ta tv f D σ H := h
theorem SFldAt.mk {f : Str} {a C dx : Addr} {y : V} {fs : List (Str × V)} {R : Hp → Prop} {H0 : Hp} {M : List Addr} {L L' : List (Addr × HO)} (k : KH H0 M L H) (l : UpL L a (.ins C dx fs) (.ins C dx (putF f y fs)) L') (c : Cls K C) (n : NoAttr K C f) (hz : fs.length < 1000) (hm : a ∈ M ∨ H0 a = none)
    (h : H a = some (.ins C dx fs)) (q : ∀ H', KH H0 M L' H' → R H') : SFldAt K f y (.ref a) H R := ⟨a, C, dx, fs, rfl, h, c, n, hz, q _ (k.up l (Fr.updE (by simp)) upd_same hm)⟩
/-! ### methods, instances -/
theorem r_meth {C : Addr} {m : Str} {sp : Sp} {dvs : List V} {E : XK} {t : TA} (h : ta σ H fun x H1 => ∃ a dx fs, x = .ref a ∧ H1 a = some (.ins C dx fs) ∧ fs.lookup m = none ∧ t σ H1 fun vs H2 => sp (x :: (vs ++ dvs)) H2 Q E) : tMeth C m sp dvs E ta t σ H Q := h
theorem r_methA {C a dx : Addr} {m : Str} {fs : List (Str × V)} {R : Prop} (h : H a = some (.ins C dx fs)) (l : fs.lookup m = none) (q : R) : ∃ a' dx fs, V.ref a = .ref a' ∧ H a' = some (.ins C dx fs) ∧ fs.lookup m = none ∧ R := ⟨a, dx, fs, rfl, h, l, q⟩
theorem r_make {C : Addr} {sp : Sp} {dvs : List V} {E : XK} {t : TA} (h : t σ H fun vs H1 => ∀ x dx, H1 x = none → H1 dx = none → dx ≠ x → sp (.ref x :: (vs ++ dvs)) (upd (upd H1 dx (.own x)) x (.ins C dx [])) (fun v H2 => v = .non ∧ Q (.ref x) H2) E) : tMake C sp dvs E t σ H Q := h
/-! ### dicts -/
theorem r_dget {ty : TE} (h : td σ H fun x H1 => ty σ H1 fun y H2 => ∃ a v, x = .ref a ∧ DGet H2 a y (some v) ∧ Q v H2) : tDGet td ty σ H Q := h
theorem r_din {ty : TE} (h : ty σ H fun y H1 => td σ H1 fun x H2 => ∃ a o, x = .ref a ∧ DGet H2 a y o ∧ Q (.bl o.isSome) H2) : tDIn ty td σ H Q := h
theorem r_dput {ty tv : TE} (h : tv σ H fun v H1 => td σ H1 fun x H2 => ty σ H2 fun y H3 => ∃ a H4, x = .ref a ∧ DPut H3 a y v H4 ∧ D.nx σ H4) : sDPut td ty tv D σ H := h
theorem dget_mk {a : Addr} {x : Str} {kvs : List (Key × V)} {v : V} (h : Rd H a (.dK kvs)) (e : valV kvs (.inr x) = some v) {R : V → Prop} (q : R v) : ∃ a' v, V.ref a = .ref a' ∧ DGet H a' (.str x) (some v) ∧ R v := ⟨a, v, rfl, .inl ⟨kvs, .inr x, h, rfl, e.symm⟩, q⟩
theorem dget_mk' {a : Addr} {y : V} {x : Str} {kvs : List (Key × V)} {v : V} (hy : y = .str x) (h : Rd H a (.dK kvs)) (e : valV kvs (.inr x) = some v) {R : V → Prop} (q : R v) : ∃ a' v, V.ref a = .ref a' ∧ DGet H a' y (some v) ∧ R v := by
  subst hy
  exact dget_mk h e q
theorem pe_fldK {X : Cx} (K : PySem.W.Frag) {e : Expr} {f : Str} {pos : Pos} (he : PE X e ta) (hb : attributeBase e f X.env (eval e X.env) = eval e X.env) (hK : X.K = K := by rfl) : PE X (.Attribute e f pos) (tFld K ta f) := by
  subst hK
  exact pe_fld he hb
theorem r_lockE {t : TE} {d : Addr} {u : HO} (h : H d = some u) (m : Mut (some u)) (q : ∀ od, t σ (upd H d (.frz od u)) fun v H' => H' d = some (.frz od u) ∧ Q v (upd H' d u)) : tLockE t σ H Q := ⟨d, u, h, m, q⟩
theorem din_mkR {a : Addr} {x : Str} {kvs : List (Key × V)} (h : Rd H a (.dK kvs)) {R : Option V → Prop} (q : R (valV kvs (.inr x))) : ∃ a' o, V.ref a = .ref a' ∧ DGet H a' (.str x) o ∧ R o := ⟨a, _, rfl, .inl ⟨kvs, .inr x, h, rfl, rfl⟩, q⟩
theorem din_mk {a : Addr} {x : Str} {kvs : List (Key × V)} (h : Rd H a (.dK kvs)) (q : Q (.bl (valV kvs (.inr x)).isSome) H) : ∃ a' o, V.ref a = .ref a' ∧ DGet H a' (.str x) o ∧ Q (.bl o.isSome) H := ⟨a, _, rfl, .inl ⟨kvs, .inr x, h, rfl, rfl⟩, q⟩
end
theorem rd_ext {H H' : Hp} {a : Addr} {o : HO} (h : Rd H a o) (e : Ext H H') : Rd H' a o := h.elim (fun h => .inl (e _ _ h)) fun ⟨p, h⟩ => .inr ⟨p, e _ _ h⟩
/-! ### what never changes -/
def Imm : HO → Bool
  | .tup _ => true
  | .ins _ _ _ => true
  | _ => false
def Mo (H H' : Hp) : Prop := ∀ a o, Imm o = true → H a = some o → H' a = some o
theorem Ext.mo {H H' : Hp} (e : Ext H H') : Mo H H' := fun a o _ h => e a o h
theorem Mo.trans {H H1 H2 : Hp} (a : Mo H H1) (b : Mo H1 H2) : Mo H H2 := fun x o i h => b x o i (a x o i h)
theorem Mo.upd {H : Hp} {p : Addr} {u o : HO} (h : H p = some u) (n : Imm u = false) : Mo H (L2.upd H p o) := fun a v i e => by
  rw [upd_ne (fun z => by rw [z, h] at e; cases e; rw [n] at i; cases i)]
  exact e
theorem Mo.fr {A : List Addr} {H H' : Hp} (f : Fr A H H') (n : ∀ a, a ∈ A → ∃ u, H a = some u ∧ Imm u = false) : Mo H H' := fun a o i h => f a o (fun m => by
  obtain ⟨u, hu, nu⟩ := n a m
  rw [hu] at h
  cases h
  rw [nu] at i
  cases i) h
theorem Mo.fr1 {p : Addr} {H H' : Hp} {u : HO} (f : Fr [p] H H') (h : H p = some u) (n : Imm u = false) : Mo H H' := Mo.fr f fun a m => by
  have e : a = p := by simpa using m
  rw [e]
  exact ⟨u, h, n⟩
theorem paired_get {α β : Type} {F : α → β → Prop} : ∀ {xs : List α} {ys : List β} {i : Nat} {y : β}, Paired F xs ys → ys[i]? = some y → ∃ x, xs[i]? = some x ∧ F x y
  | _, _, _, _, .nil, e => by simp at e
  | _, _, 0, _, .cons h _, e => by
    simp at e
    subst e
    exact ⟨_, rfl, h⟩
  | _, _, i + 1, y, .cons _ t, e => by
    obtain ⟨x, h1, h2⟩ := paired_get (i := i) (y := y) t (by simpa using e)
    exact ⟨x, by simpa using h1, h2⟩
/-! ### classes -/
structure Cl where
  name : Str
  par : Option Str
  own : List V
  all : List V
  since : Nat
def optV : Option Str → V
  | none => .non
  | some s => .str s
def findC (T : List Cl) (x : Str) : Option Cl := T.find? fun c => decide (c.name = x)
/-- a dict by the classes' names -/
def ByN (R : Cl → V → Prop) (T : List Cl) (kvs : List (Key × V)) : Prop := Paired (fun c (kv : Key × V) => kv.1 = .inr c.name ∧ R c kv.2) T kvs
theorem ByN.mono {R R' : Cl → V → Prop} {T : List Cl} {kvs : List (Key × V)} (h : ByN R T kvs) (f : ∀ c v, R c v → R' c v) : ByN R' T kvs := Paired.mapP h fun _ _ z => ⟨z.1, f _ _ z.2⟩
theorem ByN.some {R : Cl → V → Prop} {T : List Cl} {kvs : List (Key × V)} {x : Str} {c : Cl} (h : ByN R T kvs) (e : findC T x = some c) : ∃ v, valV kvs (.inr x) = some v ∧ R c v := by
  unfold ByN at h
  induction h with
  | nil => cases e
  | @cons a b as bs h t ih =>
    unfold findC at e
    rw [List.find?_cons] at e
    unfold valV
    rw [List.find?_cons]
    by_cases q : a.name = x
    · rw [decide_eq_true q] at e
      cases e
      have : decide (b.1 = Sum.inr x) = true := decide_eq_true (by rw [h.1, q])
      rw [this]
      exact ⟨_, rfl, h.2⟩
    · rw [decide_eq_false q] at e
      have : decide (b.1 = Sum.inr x) = false := decide_eq_false (by rw [h.1]; intro z; exact q (Sum.inr.inj z))
      rw [this]
      exact ih e
theorem ByN.none {R : Cl → V → Prop} {T : List Cl} {kvs : List (Key × V)} {x : Str} (h : ByN R T kvs) (e : findC T x = none) : valV kvs (.inr x) = none := by
  unfold ByN at h
  induction h with
  | nil => rfl
  | @cons a b as bs h t ih =>
    unfold findC at e
    rw [List.find?_cons] at e
    unfold valV
    rw [List.find?_cons]
    by_cases q : a.name = x
    · rw [decide_eq_true q] at e
      cases e
    · rw [decide_eq_false q] at e
      have : decide (b.1 = Sum.inr x) = false := decide_eq_false (by rw [h.1]; intro z; exact q (Sum.inr.inj z))
      rw [this]
      exact ih e
theorem ByN.isSome {R : Cl → V → Prop} {T : List Cl} {kvs : List (Key × V)} (h : ByN R T kvs) (x : Str) : (valV kvs (.inr x)).isSome = (findC T x).isSome := by
  cases e : findC T x with
  | none => rw [h.none e] <;> rfl
  | some c =>
    obtain ⟨v, hv, _⟩ := h.some e
    rw [hv] <;> rfl
/-- put a new class behind -/
theorem ByN.put {R : Cl → V → Prop} {T : List Cl} {kvs : List (Key × V)} {c : Cl} {v : V} (h : ByN R T kvs) (e : findC T c.name = Option.none) (hr : R c v) : ByN R (T ++ [c]) (putK kvs (.inr c.name) v) := by
  have n := h.none e
  unfold putK
  rw [if_neg]
  · exact pAppend h (.cons ⟨rfl, hr⟩ .nil)
  · intro z
    obtain ⟨kv, hm, hk⟩ := List.any_eq_true.mp z
    unfold valV at n
    rw [Option.map_eq_none_iff] at n
    exact List.find?_eq_none.mp n kv hm hk
theorem ByN.length {R : Cl → V → Prop} {T : List Cl} {kvs : List (Key × V)} (h : ByN R T kvs) : kvs.length = T.length := (Paired.length h).symm
theorem ByN.keys {R : Cl → V → Prop} {T : List Cl} {kvs : List (Key × V)} (h : ByN R T kvs) : kvs.map (·.1) = (T.map (·.name)).map Sum.inr := by
  unfold ByN at h
  induction h with
  | nil => rfl
  | cons h t ih => rw [List.map_cons, List.map_cons, List.map_cons, ih, h.1]
/-- a tuple, of ours or written at the top -/
def SqM (K : PySem.W.Frag) (H : Hp) (a : Addr) (xs : List V) : Prop := H a = some (.tup xs) ∨ ∃ (o : Obj) (its : Array Value) (n : Nat), K.lookup a = some o ∧ o.cls = .type "tuple" ∧ o.data = .seq its n ∧ its.size ≤ sizeLine ∧ Vals xs its.toList
theorem SqM.t {K : PySem.W.Frag} {H : Hp} {a : Addr} {xs : List V} (h : SqM K H a xs) : SqT K H a xs := by
  rcases h with h | h
  · exact SqT.of h
  · exact .inr h
theorem SqM.mo {K : PySem.W.Frag} {H H' : Hp} {a : Addr} {xs : List V} (h : SqM K H a xs) (e : Mo H H') : SqM K H' a xs := h.imp (fun z => e _ _ rfl z) id
theorem SqM.ext {K : PySem.W.Frag} {H H' : Hp} {a : Addr} {xs : List V} (h : SqM K H a xs) (e : Ext H H') : SqM K H' a xs := h.imp (fun z => e _ _ z) id
/-- a class's object: its parent, its fields (all), its world -/
def KindAt (K : PySem.W.Frag) (CK : Addr) (H : Hp) (c : Cl) (v : V) : Prop := ∃ k dx ft, v = .ref k ∧ H k = some (.ins CK dx [("parent", optV c.par), ("fields", .ref ft), ("since", .int c.since)]) ∧ SqM K H ft c.all
theorem KindAt.mo {K : PySem.W.Frag} {CK : Addr} {H H' : Hp} {c : Cl} {v : V} (h : KindAt K CK H c v) (e : Mo H H') : KindAt K CK H' c v := by
  obtain ⟨k, dx, ft, rfl, h1, h2⟩ := h
  exact ⟨k, dx, ft, rfl, e _ _ rfl h1, h2.mo e⟩
theorem KindAt.ext {K : PySem.W.Frag} {CK : Addr} {H H' : Hp} {c : Cl} {v : V} (h : KindAt K CK H c v) (e : Ext H H') : KindAt K CK H' c v := by
  obtain ⟨k, dx, ft, rfl, h1, h2⟩ := h
  exact ⟨k, dx, ft, rfl, e _ _ h1, h2.ext e⟩
/-- the runtime at r, its dict of classes at kd, its list of tables at tl: classes T, n the newest world -/
structure RtAt (K : PySem.W.Frag) (CK CR : Addr) (H : Hp) (r kd tl : Addr) (T : List Cl) (n : Nat) : Prop where
  rt : ∃ dx fs, H r = some (.ins CR dx (("kinds", .ref kd) :: ("tables", .ref tl) :: fs)) ∧ fs.lookup ("newest" : Str) = none ∧ fs.lookup ("table" : Str) = none ∧ fs.lookup ("add_world" : Str) = none
  kd : ∃ kvs, Rd H kd (.dK kvs) ∧ ByN (KindAt K CK H) T kvs
  tl : ∃ xs, H tl = some (.lst xs) ∧ xs.length = n + 1
theorem RtAt.ext {K : PySem.W.Frag} {CK CR : Addr} {H H' : Hp} {r kd tl : Addr} {T : List Cl} {n : Nat} (h : RtAt K CK CR H r kd tl T n) (e : Ext H H') : RtAt K CK CR H' r kd tl T n := by
  obtain ⟨⟨dx, fs, h1, h2⟩, ⟨kvs, h3, h4⟩, xs, h5, h6⟩ := h
  exact ⟨⟨dx, fs, e _ _ h1, h2⟩, ⟨kvs, rd_ext h3 e, h4.mono fun _ _ z => z.ext e⟩, xs, e _ _ h5, h6⟩
/-- a class and those above it -/
inductive Line (T : List Cl) : Option Str → List Str → Prop where
  | nil : Line T none []
  | cons {x : Str} {c : Cl} {l : List Str} (h : findC T x = some c) (t : Line T c.par l) : Line T (some x) (x :: l)
theorem Line.det {T : List Cl} {o : Option Str} {l l' : List Str} (a : Line T o l) (b : Line T o l') : l = l' := by
  induction a generalizing l' with
  | nil => cases b; rfl
  | cons h t ih =>
    cases b with
    | cons h2 t2 =>
      rw [h] at h2
      cases h2
      rw [ih t2]
end Wc

set_option Elab.async false
set_option linter.all false
set_option maxRecDepth 100000
set_option maxHeartbeats 4000000
/-! methods, makers, raising an own exception with its field -/
namespace Wc
open PySem PySem.Spec PyProof.Rows L2
structure MtOk (P : Program) (w : World) (K : PySem.W.Frag) (mg : Str → Option Value) (base : Heap) (CX : CXT) (k : Nat) (C : Addr) (m : Str) (ps : List Str) (sp : Sp) : Prop where
  c : Cls K C
  ex : ∃ (f : Addr) (fd : FuncData), Meth K C m f ∧ Binds K fd ps [] ∧ FnOk P w K mg base CX k f fd ps sp
structure MkOk (P : Program) (w : World) (K : PySem.W.Frag) (mg : Str → Option Value) (base : Heap) (CX : CXT) (k : Nat) (x : Str) (C : Addr) (ps : List Str) (sp : Sp) : Prop where
  g : mg x = some (.ref C)
  ex : ∃ (f : Addr) (fd : FuncData), Mk K C f ∧ Binds K fd ps [] ∧ FnOk P w K mg base CX k f fd ps sp
section
variable {X : Cx} {CX : CXT} {k j : Nat} {C : Addr} {m x : Str} {ps : List Str} {sp : Sp} {o e : Expr} {es : List Expr} {ta te : TE} {t : TA} {p apos pos : Pos}
theorem pe_methC0 {pl : Sem Bool} (Mt : MtOk X.prog X.w X.K X.mg X.base CX k C m ps sp) (hr : Room j X.A) (he : PE X o ta) (hk : k ≤ j := by decide) (hx : Passes CX X E0 := by first | exact pass0 | exact passL)
    (ht : eval (.Call (.Attribute o m apos) [] [] pos) X.env = (do
      let ov ← eval o X.env
      standAt apos.atName
      let (f, first) ← holding [ov] (getMethod ov m pl)
      callWith pos f first (backTo pos (starEach [] X.env)) (backToKw pos (keywordEach [] X.env))) := by rfl) :
    PE X (.Call (.Attribute o m apos) [] [] pos) (tMeth C m sp [] E0 ta tNil) := by
  obtain ⟨f, fd, hm, hb, F⟩ := Mt.ex
  exact pe_meth0 he Mt.c hm F (hr.mono hk) hb .nil hx ht
theorem pe_methC {pl : Sem Bool} (Mt : MtOk X.prog X.w X.K X.mg X.base CX k C m ps sp) (hr : Room j X.A) (he : PE X o ta) (ha : PA X (e :: es) t) (hk : k ≤ j := by decide) (hx : Passes CX X E0 := by first | exact pass0 | exact passL)
    (hst : starEach (e :: es) X.env = (false, eval e X.env) :: starEach es X.env := by rfl) (hpl : (backTo pos (starEach es X.env)).any (·.1) = false := by rfl)
    (ht : eval (.Call (.Attribute o m apos) (e :: es) [] pos) X.env = (do
      let ov ← eval o X.env
      standAt apos.atName
      let (f, first) ← holding [ov] (getMethod ov m pl)
      callWith pos f first (backTo pos (starEach (e :: es) X.env)) (backToKw pos (keywordEach [] X.env))) := by rfl) :
    PE X (.Call (.Attribute o m apos) (e :: es) [] pos) (tMeth C m sp [] E0 ta t) := by
  obtain ⟨f, fd, hm, hb, F⟩ := Mt.ex
  exact pe_meth he Mt.c hm F (hr.mono hk) hb .nil hx ha hst hpl ht
theorem pe_makeC0 (M : MkOk X.prog X.w X.K X.mg X.base CX k x C ps sp) (hr : Room j X.A) (hk : k + 1 ≤ j := by decide) (hx : Passes CX X E0 := by first | exact pass0 | exact passL) (hg : Gl X x := by rfl)
    (hdb : (x == ("__debug__" : Str)) = false := by decide) : PE X (.Call (.Name x p) [] [] pos) (tMake C sp [] E0 tNil) := by
  obtain ⟨f, fd, hm, hb, F⟩ := M.ex
  exact pe_make0 hm F (hr.mono hk) hg M.g hb .nil hx hdb
theorem pe_makeC (M : MkOk X.prog X.w X.K X.mg X.base CX k x C ps sp) (hr : Room j X.A) (ha : PA X (e :: es) t) (hk : k + 1 ≤ j := by decide) (hx : Passes CX X E0 := by first | exact pass0 | exact passL) (hg : Gl X x := by rfl)
    (hdb : (x == ("__debug__" : Str)) = false := by decide) (he : starEach (e :: es) X.env = (false, eval e X.env) :: starEach es X.env := by rfl) (hpl : (backTo pos (starEach es X.env)).any (·.1) = false := by rfl) :
    PE X (.Call (.Name x p) (e :: es) [] pos) (tMake C sp [] E0 t) := by
  obtain ⟨f, fd, hm, hb, F⟩ := M.ex
  exact pe_make hm F (hr.mono hk) hg M.g hb .nil hx ha hdb he hpl
/-- raise C(e) -/
def RsG (K : PySem.W.Frag) (C : Addr) (fld : Str) (v : V) (H1 : Hp) (Q : XK) : Prop := [v].length ≤ 1000 ∧ ∀ a, H1 a = none → spInit K C fld (.ref a :: ([v] ++ [])) (upd H1 a (exo a C none))
  (fun v H2 => v = .non ∧ ∃ (d : Addr) (fs : List (Str × V)), H2 a = some (exo a C (some d)) ∧ H2 d = some (exd d fs) ∧ H1 d = none ∧ Q (.ref C) (some d) (upd (del H2 a) d (.xd fs))) (fun _ _ _ => False)
theorem RsG.mk {K : PySem.W.Frag} {C : Addr} {fld : Str} {v : V} {H1 : Hp} {Q : XK} (o : OexC K C) (no : PySem.W.findIn K (.ref C) fld = some none) (q : ∀ d H', Ext H1 H' → H1 d = none → H' d = some (.xd [(fld, v)]) → Q (.ref C) (some d) H') : RsG K C fld v H1 Q := by
  refine ⟨by simp, fun a ha => ⟨a, v, rfl, upd_same, o, no, fun d hd ne => ⟨rfl, d, [(fld, v)], upd_same, ?_, ?_, ?_⟩⟩⟩
  · rw [upd_ne ne, upd_same]
  · rw [upd_ne ne] at hd
    exact hd
  · rw [upd_ne ne] at hd
    refine q d _ (fun b u hb => ?_) hd upd_same
    rw [upd_ne (ne_of_none hb hd), del_ne (ne_of_none hb ha), upd_ne (ne_of_none hb ha), upd_ne (ne_of_none hb hd), upd_ne (ne_of_none hb ha)]
    exact hb
theorem ps_raiseE {W : WX} {fld : Str} (hc : X.calm = true) (tk : Takes X W) (Er : ErrOk X.prog X.w X.K X.mg X.base x C fld) (hr : Room j X.A) (he : PE X e te)
    (hk : 2 ≤ j := by decide) (hg : Gl X x := by rfl) (hdb : (x == ("__debug__" : Str)) = false := by decide)
    (hs : starEach [e] X.env = (false, eval e X.env) :: starEach [] X.env := by rfl) {p2 : Pos} :
    PS X (.Raise (some (.Call (.Name x p) [e] [] pos)) none p2) (fun _ σ H => te σ H fun v H1 => RsG X.K C fld v H1 fun cls d H' => W cls d σ H') := by
  obtain ⟨f, fd, ps, I, b, F⟩ := Er.ex
  exact ps_raise (pos := p2) hc tk (pmk_oex (p := p) (pos := pos) Er.o I.at_ I.ty F (hr.mono hk) b .nil pass0 hg Er.g (pa_cons he pa_nil hs) hdb hs (by rfl))
theorem r_raise {W : Value → Option Addr → Hp → Prop} {K : PySem.W.Frag} {fld : Str} {σ : L2.St} {H : Hp} (h : te σ H fun v H1 => RsG K C fld v H1 W) : te σ H fun v H1 => RsG K C fld v H1 W := h
/-- f(e, ..), f may raise what this def lets out -/
theorem pe_callDX {E : XK} (Df : DfOk X.prog X.w X.K X.mg X.base CX k x ps sp) (hr : Room j X.A) (hx : Passes CX X E) (ha : PA X (e :: es) t)
    (hk : k ≤ j := by decide) (hg : Gl X x := by rfl) (hdb : (x == ("__debug__" : Str)) = false := by decide)
    (he : starEach (e :: es) X.env = (false, eval e X.env) :: starEach es X.env := by rfl) (hpl : (backTo pos (starEach es X.env)).any (·.1) = false := by rfl) :
    PE X (.Call (.Name x p) (e :: es) [] pos) (tCall sp [] E t) := by
  obtain ⟨f, fd, hm, hkp, hb, F⟩ := Df.ex
  exact pe_call F (hr.mono hk) hg hm hkp hb .nil hx ha hdb he hpl
end
end Wc

set_option Elab.async false
set_option linter.all false
set_option maxRecDepth 100000
set_option maxHeartbeats 4000000
/-! names; things of any kind -/
namespace Wc
open PySem PySem.Spec PyProof.Rows L2
def LET : Str := "abcdefghijklmnopqrstuvwxyz"
def letB (z : Str) : Bool := !(Builtin.Str.occurrences LET z 0 LET.length 1).isEmpty
def nameS (s : Str) : Bool := decide (1 ≤ (s.length : Int)) && (decide ((s.length : Int) ≤ 8) && (s.cps.toList.map fun c => letB ⟨#[c]⟩).all id)
def nameV : V → Bool
  | .str s => nameS s
  | _ => false
def isS : V → Bool
  | .str _ => true
  | _ => false
/-- a thing of any kind: whether it is a text; whether a tuple, and of what -/
structure Th (K : PySem.W.Frag) (H : Hp) (x : V) (tp : Option (List V)) : Prop where
  ty : ∃ t, TyX K H x t ∧ PySem.W.kitOne K t (.type "str") = some (isS x) ∧ PySem.W.kitOne K t (.type "tuple") = some tp.isSome
  tup : ∀ xs, tp = some xs → ∃ a, x = .ref a ∧ SqM K H a xs
  len : ∀ s, x = .str s → s.length ≤ 1000
  fl : flatV x = true ∨ ∃ a, x = .ref a
section
variable {K : PySem.W.Frag} {H : Hp}
theorem Th.str {s : Str} (h : s.length ≤ 1000) : Th K H (.str s) none := ⟨⟨_, .base (.str s), kit_ty (show kitB "str" "str" = some true by decide +kernel), kit_ty (show kitB "str" "tuple" = some false by decide +kernel)⟩, fun _ z => (by cases z), fun z e => (by cases e; exact h), .inl rfl⟩
theorem Th.non : Th K H .non none := ⟨⟨_, .base .non, kit_ty (show kitB "NoneType" "str" = some false by decide +kernel), kit_ty (show kitB "NoneType" "tuple" = some false by decide +kernel)⟩, fun _ z => (by cases z), fun z e => (by cases e), .inl rfl⟩
theorem Th.int {i : Int} : Th K H (.int i) none := ⟨⟨_, .base (.int i), kit_ty (show kitB "int" "str" = some false by decide +kernel), kit_ty (show kitB "int" "tuple" = some false by decide +kernel)⟩, fun _ z => (by cases z), fun z e => (by cases e), .inl rfl⟩
theorem Th.bl {b : Bool} : Th K H (.bl b) none := ⟨⟨_, .base (.bl b), kit_ty (show kitB "bool" "str" = some false by decide +kernel), kit_ty (show kitB "bool" "tuple" = some false by decide +kernel)⟩, fun _ z => (by cases z), fun z e => (by cases e), .inl rfl⟩
theorem Th.tupl {a : Addr} {xs : List V} (h : H a = some (.tup xs)) : Th K H (.ref a) (some xs) := ⟨⟨_, .base (.tup h), kit_ty (show kitB "tuple" "str" = some false by decide +kernel), kit_ty (show kitB "tuple" "tuple" = some true by decide +kernel)⟩, fun ys z => by cases z; exact ⟨a, rfl, .inl h⟩, fun z e => (by cases e), .inr ⟨_, rfl⟩⟩
theorem Th.lst {a : Addr} {xs : List V} (h : H a = some (.lst xs)) : Th K H (.ref a) none := ⟨⟨_, .base (.lst h), kit_ty (show kitB "list" "str" = some false by decide +kernel), kit_ty (show kitB "list" "tuple" = some false by decide +kernel)⟩, fun _ z => (by cases z), fun z e => (by cases e), .inr ⟨_, rfl⟩⟩
theorem Th.dct {a : Addr} {kvs : List (Key × V)} (h : H a = some (.dK kvs)) : Th K H (.ref a) none := ⟨⟨_, .base (.dK h), kit_ty (show kitB "dict" "str" = some false by decide +kernel), kit_ty (show kitB "dict" "tuple" = some false by decide +kernel)⟩, fun _ z => (by cases z), fun z e => (by cases e), .inr ⟨_, rfl⟩⟩
theorem Th.isS {x : V} {tp : Option (List V)} (t : Th K H x tp) (h : Wc.isS x = true) : ∃ s, x = .str s ∧ s.length ≤ 1000 := by
  cases x <;> first | (cases h; done) | exact ⟨_, rfl, t.len _ rfl⟩
end
theorem nameV_of {x : V} (h : isS x = false) : nameV x = false := by
  cases x <;> first | rfl | cases h
theorem r_isi {K : PySem.W.Frag} {H : Hp} {Q : VK} {x c : V} {t u : Value} {b : Bool} (hc : ClsV c u) (ht : TyX K H x t) (e : PySem.W.kitOne K t u = some b) (q : Q (.bl b) H) : rIsi K [x, c] H Q := ⟨x, c, t, u, b, rfl, hc, ht, e, q⟩
theorem strs_fm (z : Str) {g : _ → V} : (List.range z.cps.size).filterMap (fun i => z.cps[i]?.map g) = z.cps.toList.map g := by
  have e := range_fm z.cps.toList (fun c => some (g c))
  rw [List.filterMap_eq_map'] at e
  rw [← e] 
  simp [Option.map_eq_bind]
  rfl
theorem un1 {A : Around} {k : Nat} (r : Room k A) : A.units + 1 < cLine := by
  have := r.un
  omega
theorem un64 {A : Around} {k : Nat} (r : Room k A) : A.units + 64 < cLine := by
  have := r.un
  omega
def clsV (T : List Cl) : V → Bool
  | .str s => nameS s && (findC T s).isSome
  | _ => false
theorem clsV_of {T : List Cl} {x : V} (h : nameV x = false) : clsV T x = false := by
  cases x <;> first | rfl | (show (nameS _ && _) = false; have h : nameS _ = false := h; rw [h]; rfl)
/-- while, by so many turns at most -/
def WhG (c : TT) (tb : TS) (D : Ends) (σ : L2.St) (H : Hp) : Prop := ∃ W : Nat → L2.St → Hp → Prop, (∃ m, W m σ H) ∧ ∀ m σ H, W m σ H →
  c σ H fun b H1 => if b = true then ∃ N : L2.St → Hp → Prop, (∀ σ' H', N σ' H' → ∃ m', m' < m ∧ W m' σ' H') ∧ tb { D with nx := N, ct := N, bk := D.nx } σ H1 else D.nx σ H1
theorem r_while {c : TT} {tb : TS} {D : Ends} {σ : L2.St} {H : Hp} (h : WhG c tb D σ H) : tWhile c tb D σ H := h
theorem WhG.mk {c : TT} {tb : TS} {D : Ends} {σ : L2.St} {H : Hp} (Pv : Nat → L2.St → Hp → Prop) (m : Nat) (h0 : Pv m σ H)
    (hs : ∀ m σ H, Pv m σ H → c σ H fun b H1 => if b = true then ∃ N : L2.St → Hp → Prop, (∀ σ' H', N σ' H' → ∃ m', m' < m ∧ Pv m' σ' H') ∧ tb { D with nx := N, ct := N, bk := D.nx } σ H1 else D.nx σ H1) : WhG c tb D σ H := ⟨Pv, ⟨m, h0⟩, hs⟩
theorem whN {Pv : Nat → L2.St → Hp → Prop} {tb : TS} {D : Ends} {σ : L2.St} {H : Hp} {n : Nat} (h : tb { D with nx := Pv n, ct := Pv n, bk := D.nx } σ H) :
    ∃ N : L2.St → Hp → Prop, (∀ σ' H', N σ' H' → ∃ m', m' < n + 1 ∧ Pv m' σ' H') ∧ tb { D with nx := N, ct := N, bk := D.nx } σ H := ⟨Pv n, fun _ _ z => ⟨n, Nat.lt_succ_self n, z⟩, h⟩
theorem optV_non (o : Option Str) : decide (optV o = .non) = o.isNone := by
  cases o <;> rfl
theorem r_disp {trs : List (TE × TE)} {σ : L2.St} {H : Hp} {Q : VK} {H0 : Hp} {M : List Addr} {L : List (Addr × HO)} (k : KH H0 M L H) (h : ∀ p H', H0 p = none → KH H0 M ((p, .dK []) :: L) H' → tPairs trs σ H' fun ps H2 => H2 p = some (.dK []) ∧ ∃ kvs : List (Key × V), ps = kvs.map (fun kv => (kV kv.1, kv.2)) ∧ kvs.length ≤ 15 ∧ Q (.ref p) (upd H2 p (.dK (mergeK [] kvs)))) : tDisp trs σ H Q :=
  fun p hp => h p _ (k.fresh hp) (k.new hp)
theorem r_pnil {σ : L2.St} {H : Hp} {Q : List (V × V) → Hp → Prop} (h : Q [] H) : tPairs [] σ H Q := h
theorem r_pcons {tk tv : TE} {r : List (TE × TE)} {σ : L2.St} {H : Hp} {Q : List (V × V) → Hp → Prop} (h : tk σ H fun x H1 => tv σ H1 fun y H2 => tPairs r σ H2 fun ps H3 => Q ((x, y) :: ps) H3) : tPairs ((tk, tv) :: r) σ H Q := h
theorem r_dispE {p : Addr} {ps : List (V × V)} {H : Hp} {R : List (Key × V) → Prop} (kvs : List (Key × V)) (h : H p = some (.dK [])) (e : ps = kvs.map (fun kv => (kV kv.1, kv.2))) (hl : kvs.length ≤ 15) (q : R kvs) :
    H p = some (.dK []) ∧ ∃ kvs : List (Key × V), ps = kvs.map (fun kv => (kV kv.1, kv.2)) ∧ kvs.length ≤ 15 ∧ R kvs := ⟨h, kvs, e, hl, q⟩
/-- the runtime, to be changed -/
structure RtW (K : PySem.W.Frag) (CK CR : Addr) (H : Hp) (r kd tl : Addr) (T : List Cl) (n : Nat) : Prop where
  at_ : RtAt K CK CR H r kd tl T n
  kd : ∃ kvs, H kd = some (.dK kvs)
/-- so it ends: C(v) is raised, its field fld -/
def ExTo (E : XK) (H : Hp) (C : Addr) (fld : Str) (v : V) : Prop := ∀ d H', Ext H H' → H d = none → H' d = some (.xd [(fld, v)]) → E (.ref C) (some d) H'
theorem ExTo.ext {E : XK} {H H1 : Hp} {C : Addr} {fld : Str} {v : V} (h : ExTo E H C fld v) (e : Ext H H1) : ExTo E H1 C fld v := fun d H' e2 hd hx => h d H' (e.trans e2) (e.free hd) hx
theorem cps_at {z : Str} {c : _} {i : Nat} (h : z.cps[i]? = some c) : z.cps.toList[i]? = some c := by simpa using h
theorem all_map_id (l : List V) (bs : List Bool) (h : l = bs.map V.bl) : l = bs.map V.bl := h
end Wc

set_option Elab.async false
set_option linter.all false
set_option maxRecDepth 100000
set_option maxHeartbeats 4000000
/-! try with many clauses, some of which name the exception -/
namespace Wc
open PySem PySem.Spec PyProof.Rows L2
abbrev SuT : Type := Addr → Value → Option Addr → TS
/-- the ends of a named clause: the name is gone behind it -/
def gone (D : Ends) (i : Nat) : Ends := { nx := fun z h => D.nx (z.set i none) h, rt := D.rt, bk := fun z h => D.bk (z.set i none) h, ct := fun z h => D.ct (z.set i none) h }
/-- one clause takes it -/
def clauseT (D : Ends) (oi : Option Nat) (ts : SuT) (cls : Value) (d : Option Addr) (z : L2.St) (h : Hp) : Prop := match oi with
  | none => ∀ a, h a = none → ts a cls d D z h
  | some i => ∀ a, h a = none → ts a cls d (gone D i) (z.set i (some (.ref a))) h
def wAll (K : PySem.W.Frag) (Wo : WX) (D : Ends) : List (Value × Option Nat × SuT) → WX
  | [] => Wo
  | q :: r => fun cls d z h => ∃ b, PySem.W.exmOne K cls q.1 = some b ∧ (b = true → clauseT D q.2.1 q.2.2 cls d z h) ∧ (b = false → wAll K Wo D r cls d z h)
/-- a suite that reads ts, whatever exception object stands there -/
abbrev SuOk (X : Cx) (l : List Stmt) (ts : SuT) : Prop := ∀ (a : Addr) (oe : Obj) (cls : Value) (d : Option Addr) (pn : List (Addr × Obj)), Zc cls d oe → (∃ vs, oe.data = .fields vs) → PSs (X.suite a ((a, oe) :: pn)) l (ts a cls d)
inductive ClOk (X : Cx) : List ExceptHandler → List (Value × Option Nat × SuT) → Prop
  | nil : ClOk X [] []
  | plain {x : Str} {c : Value} {ts : SuT} {b : Stmt} {su : List Stmt} {p1 p2 : Pos} {hds : List ExceptHandler} {l : List (Value × Option Nat × SuT)} (n : Names X x c) (s : SuOk X (b :: su) ts) (r : ClOk X hds l) :
      ClOk X (.ExceptHandler (some (.Name x p1)) none (b :: su) p2 :: hds) ((c, none, ts) :: l)
  | named {x y : Str} {i : Nat} {c : Value} {ts : SuT} {b : Stmt} {su : List Stmt} {p1 p2 : Pos} {hds : List ExceptHandler} {l : List (Value × Option Nat × SuT)} (hi : X.N[i]? = some y) (hl : X.env.kindOf y = some .local) (n : Names X x c) (s : SuOk X (b :: su) ts) (r : ClOk X hds l) :
      ClOk X (.ExceptHandler (some (.Name x p1)) (some y) (b :: su) p2 :: hds) ((c, some i, ts) :: l)
section
variable {X : Cx}
/-- the flow behind a suite -/
theorem sp_same {ok : X.Ok} {pins : List (Addr × Obj)} {D : Ends} {a : Addr} {pn : List (Addr × Obj)} {f : Flow} {s : Shared} (h : SP (X.suite a pn) [] D f s) (k : ∀ {z : L2.St} {H : Hp}, Inv (X.suite a pn) [] z H s → Inv X pins z H s) : SP X pins D f s := by
  cases f with
  | next => obtain ⟨z, H, I, q⟩ := h; exact ⟨z, H, k I, q⟩
  | brk => obtain ⟨z, H, I, q⟩ := h; exact ⟨z, H, k I, q⟩
  | cont => obtain ⟨z, H, I, q⟩ := h; exact ⟨z, H, k I, q⟩
  | ret u => obtain ⟨v, z, H, I, r, q⟩ := h; exact ⟨v, z, H, k I, r, q⟩
variable {body : List Stmt} {h0 : ExceptHandler} {hds : List ExceptHandler} {l : List (Value × Option Nat × SuT)} {pos : Pos} {tb : WX → TS} {Wo : WX}
theorem ps_tryA (hs : X.stack = X.env :: X.outer) (hf : X.env.frame = some X.env.locals) (nd : X.N.Nodup) (tk : Takes X Wo)
    (hb : ∀ (W : WX) (pn : List (Addr × Obj)) (xe : Value → Shared → Prop), Takes (X.tr pn xe) W → PassesOwn (model X.prog X.w) X.A X.env xe → PSs (X.tr pn xe) body (tb W))
    (cl : ClOk X (h0 :: hds) l) : PS X (.Try body (h0 :: hds) [] [] pos) (fun D z h => tb (wAll X.K Wo D l) D z h) := by
  refine ⟨fun pins s0 z0 H0 D I0 start => ?_⟩
  have okX := I0.ok
  have frames : X.A.frames = some (X.env :: X.outer) := okX.frames.trans (by rw [hs])
  refine wpAny_Try_except (wpAny_mono ((hb (wAll X.K Wo D l) (X.pn ++ pins) (fun e s1 => wpAny (model X.prog X.w) X.A (noteFrame e X.env) (fun _ s2 => wpAny (model X.prog X.w) X.A (setFlight e none)
    (fun _ s3 => wpAny (model X.prog X.w) X.A (handleBy e X.env (h0 :: hds)) (SP X pins D) X.xe s3) X.xe s2) X.xe s1) (fun u s1 caught => ?_) PassesOwn.looking).run [] s0 z0 H0 D (I0.toTry _) start) (fun f s1 sp => ?_) fun _ _ z => z)
  · obtain ⟨a, B, sI, pi, z, H, cls, d, rfl, JT, nb, up, sky, na, os, ag, wish⟩ := caught
    have J := JT.ofTry okX
    rw [hs] at sky
    show wpAny (model X.prog X.w) X.A (noteFrame (.ref a) X.env) _ _ _
    refine Sky.land Zc.steady frames hf sky fun g fl upg => ?_
    have upT := up.trans upg
    have JL : Inv X pins z H { s1 with heap := g } := J.landed nb fl.1 upT os ag
    obtain ⟨og, vg, eg, zg, dg⟩ := fl.there
    have off : a ∉ frs (X.env :: X.outer) := fun m => by
      obtain ⟨_, o2, e2, no2⟩ := fl.2.2.1.mem m
      rw [eg] at e2
      cases e2
      exact no2 _ dg
    have offL : a ≠ X.env.locals := fun e => off (List.mem_filterMap.mpr ⟨X.env, by simp, by rw [hf, e]⟩)
    have offF : a ∉ X.fs := fun m => by
      obtain ⟨env, me, q⟩ := List.mem_filterMap.mp m
      exact off (List.mem_filterMap.mpr ⟨env, by simp [me], q⟩)
    have looks : ∀ {c : Value} {b : Bool}, PySem.W.exmOne X.K cls c = some b → _ := fun {c b} e => PySem.W.exm_one (M := model X.prog X.w) JL.kIn (fun A Q E s k q => wpAny_typeOf_ref (k _ _ eg) (by rw [zg.1]; exact q) : PySem.W.Looks (model X.prog X.w) g (typeOf (.ref a)) cls) e
    have SL := JL.suite eg dg na offL offF
    have test : ∀ {x : Str} {c : Value} {np : Pos} {Q : Value → Shared → Prop} {E : Value → Shared → Prop}, Names X x c → Q c { s1 with heap := g } → wpAny (model X.prog X.w) (X.A.mark (some (.ref a))) (eval (.Name x np) X.env) Q E { s1 with heap := g } := fun {x c np Q E} nm q => by
      obtain ⟨g1, g2, m1 | ⟨m1, m2, m3⟩⟩ := nm
      · exact ld_glob (X := X.suite a ((a, og) :: (X.pn ++ pins))) SL g1 m1 q g2
      · exact ld_blt (X := X.suite a ((a, og) :: (X.pn ++ pins))) SL g1 m1 m2 q m3 g2
    have go : ∀ {hd : List ExceptHandler} {cs : List (Value × Option Nat × SuT)}, ClOk X hd cs → wAll X.K Wo D cs cls d z H → wpAny (model X.prog X.w) X.A (handleBy (.ref a) X.env hd) (SP X pins D) X.xe { s1 with heap := g } := by
      intro hd cs ck
      induction ck with
      | nil =>
        intro out
        refine wpAny_handleBy_nil ?_
        obtain ⟨_, _, _, ob, vs, tb0, otb, tz, eo, _, dv, hv, _⟩ := id fl
        unfold PySem.passOn
        refine wpAny_bind (wpAny_field eo dv hv ?_)
        rw [if_neg (show ¬ ((Value.ref tb0 == Value.none) = true) by simp)]
        have up2 : wpAny (model X.prog X.w) X.A (setFlight (.ref a) X.env.frame) (fun _ sz => wpAny (model X.prog X.w) X.A (throw (.ref a) : Sem Flow) (SP X pins D) X.xe sz) X.xe { s1 with heap := g } := by
          rw [hf]
          exact HandSPX.setFlight_upZ fl fun k hk upk => wpAny_throw (tk _ _ ⟨a, B, sI, pins, z, H, cls, d, rfl, J, nb, upT.trans upk, .inr (.inr (by rw [hs]; exact hk)), na, os, ag, out⟩)
        first
          | exact wpAny_bind (wpAny_pure (wpAny_bind up2))
          | exact wpAny_bind up2
      | @plain x c ts b su p1 p2 hds' l' nm so _ ih =>
        rintro ⟨bb, e1, yes, no⟩
        refine wpAny_handleBy_cons (codeAny_handlers_test (test nm ((looks e1).here ?_))) (fun q => by cases q)
        cases bb with
        | false => exact ih (no rfl)
        | true =>
          refine codeAny_handlers_suite (HandSPX.lands_againZ fl fun k fk upk => ?_)
          have JK : Inv X pins z H { s1 with heap := k } := J.landed nb fk.1 (upT.trans upk) os ag
          obtain ⟨ok', vk, ek, zk, dk⟩ := fk.there
          exact wpAny_mono ((so a ok' cls d (X.pn ++ pins) zk ⟨_, dk⟩).run [] _ _ H D (JK.suite ek dk na offL offF) (yes rfl a na)) (fun f s2 q => sp_same (ok := okX) q fun I2 => I2.unsuite okX) fun _ _ w => w.elim
      | @named x y i c ts b su p1 p2 hds' l' hi hl nm so _ ih =>
        rintro ⟨bb, e1, yes, no⟩
        refine wpAny_handleBy_cons (codeAny_handlers_test (test nm ((looks e1).here ?_))) (fun q => by cases q)
        cases bb with
        | false => exact ih (no rfl)
        | true =>
          refine codeAny_handlers_suite_as (HandSPX.lands_againZ fl fun k fk upk => ?_)
          have JK : Inv X pins z H { s1 with heap := k } := J.landed nb fk.1 (upT.trans upk) os ag
          obtain ⟨ok', vk, ek, zk, dk⟩ := fk.there
          refine store_ok (X := X.suite a ((a, ok') :: (X.pn ++ pins))) (v := .ref a) (JK.suite ek dk na offL offF) nd hi (.inl hl) rfl (fun s2 S2 => ?_) (.inr hl)
          refine wpAny_mono ((so a ok' cls d (X.pn ++ pins) zk ⟨_, dk⟩).run [] s2 _ H (gone D i) S2 (yes rfl a na)) (fun f s3 q => ?_) fun _ _ w => w.elim
          have fin : ∀ {z3 : L2.St} {H3 : Hp} {Q : Shared → Prop}, Inv (X.suite a ((a, ok') :: (X.pn ++ pins))) [] z3 H3 s3 → (∀ s4, Inv X pins (z3.set i none) H3 s4 → Q s4) →
              wpAny (model X.prog X.w) X.A (do bindName X.env y .none; unbindBehindTheSuite X.env y p2) (fun _ s4 => Q s4) X.xe s3 := fun I3 hq => gone_ok (I3.unsuite okX) nd hi hl hq
          cases f with
          | next => obtain ⟨z3, H3, I3, q3⟩ := q; exact fin I3 fun _ J4 => ⟨_, _, J4, q3⟩
          | brk => obtain ⟨z3, H3, I3, q3⟩ := q; exact fin I3 fun _ J4 => ⟨_, _, J4, q3⟩
          | cont => obtain ⟨z3, H3, I3, q3⟩ := q; exact fin I3 fun _ J4 => ⟨_, _, J4, q3⟩
          | ret u => obtain ⟨v3, z3, H3, I3, r3, q3⟩ := q; exact fin I3 fun _ J4 => ⟨_, _, _, J4, r3, q3⟩
    exact go cl wish
  · cases f with
    | next => obtain ⟨z, H, J, q⟩ := sp; exact wpAny_execs_nil ⟨z, H, J.ofTry okX, q⟩
    | brk => obtain ⟨z, H, J, q⟩ := sp; exact ⟨z, H, J.ofTry okX, q⟩
    | cont => obtain ⟨z, H, J, q⟩ := sp; exact ⟨z, H, J.ofTry okX, q⟩
    | ret u => obtain ⟨v, z, H, J, r, q⟩ := sp; exact ⟨v, z, H, J.ofTry okX, r, q⟩
end
/-- a def with defaults, called without them -/
structure DfOkD (P : Program) (w : World) (K : PySem.W.Frag) (mg : Str → Option Value) (base : Heap) (CX : CXT) (k : Nat) (x : Str) (ps : List Str) (dvs : List V) (sp : Sp) : Prop where
  ex : ∃ (f : Addr) (fd : FuncData) (ds : List Value), mg x = some (.ref f) ∧ PySem.W.keepIn K (.ref f) = true ∧ Vals dvs ds ∧ Binds K fd ps ds ∧ FnOk P w K mg base CX k f fd ps sp
theorem pe_callDf {X : Cx} {CX : CXT} {k j : Nat} {x : Str} {ps : List Str} {dvs : List V} {sp : Sp} {p pos : Pos} {e : Expr} {es : List Expr} {t : TA} (Df : DfOkD X.prog X.w X.K X.mg X.base CX k x ps dvs sp) (hr : Room j X.A) (ha : PA X (e :: es) t)
    (hk : k ≤ j := by decide) (hx : Passes CX X E0 := by first | exact pass0 | exact passL) (hg : Gl X x := by rfl) (hdb : (x == ("__debug__" : Str)) = false := by decide)
    (he : starEach (e :: es) X.env = (false, eval e X.env) :: starEach es X.env := by rfl) (hpl : (backTo pos (starEach es X.env)).any (·.1) = false := by rfl) :
    PE X (.Call (.Name x p) (e :: es) [] pos) (tCall sp dvs E0 t) := by
  obtain ⟨f, fd, ds, hm, hkp, hv, hb, F⟩ := Df.ex
  exact pe_call F (hr.mono hk) hg hm hkp hb hv hx ha hdb he hpl
/-- a for over any walk -/
def ForJ (J : It) (g : TG) (tb : TS) (D : Ends) (σ : L2.St) (H : Hp) : Prop := ∃ W : Nat → Nat → L2.St → Hp → Prop, (∃ m, W 0 m σ H) ∧ ∀ i m σ H, W i m σ H →
  (J.stop i H ∧ D.nx σ H) ∨ (J.go i H ∧ ∃ N : L2.St → Hp → Prop, (∀ σ' H', N σ' H' → ∃ m', m' < m ∧ W (i + 1) m' σ' H') ∧ ∀ x H', J.yld i H x H' → g x σ H' fun σ2 H2 => tb { D with nx := N, ct := N, bk := D.nx } σ2 H2)
theorem ForJ.mk {J : It} {n : Nat} {G : Hp → Prop} {Y : Nat → Hp → V → Hp → Prop} {g : TG} {tb : TS} {D : Ends} {σ : L2.St} {H : Hp} (w : Walk J n G Y) (Pv : Nat → L2.St → Hp → Prop) (h0 : Pv 0 σ H) (hG : ∀ i σ H, i ≤ n → Pv i σ H → G H)
    (hs : ∀ i x σ H H', i < n → Pv i σ H → Y i H x H' → g x σ H' fun σ2 H2 => tb { D with nx := Pv (i + 1), ct := Pv (i + 1), bk := D.nx } σ2 H2) (hd : ∀ σ H, Pv n σ H → D.nx σ H) : ForJ J g tb D σ H := for_it w Pv h0 hG hs hd
theorem r_forK {td : TE} {g : TG} {tb : TS} {D : Ends} {σ : L2.St} {H : Hp} (h : td σ H fun x H1 => ∃ d o, x = .ref d ∧ ((∃ kvs, H1 d = some (.frz o (.dK kvs)) ∧ ForJ (Itk d o kvs) g tb D σ H1) ∨ ∃ kvs, H1 d = some (.frz o (.dT kvs)) ∧ ForJ (Itkt d o kvs) g tb D σ H1)) : tFor (iKeys td) g tb D σ H := h
theorem r_lock {t : TS} {D : Ends} {σ : L2.St} {H : Hp} {d : Addr} {u : HO} (h : H d = some u) (m : Mut (some u)) (q : ∀ od, t ⟨fun σ' H' => H' d = some (.frz od u) ∧ D.nx σ' (upd H' d u), fun v H' => H' d = some (.frz od u) ∧ D.rt v (upd H' d u), fun σ' H' => H' d = some (.frz od u) ∧ D.bk σ' (upd H' d u), fun σ' H' => H' d = some (.frz od u) ∧ D.ct σ' (upd H' d u)⟩ σ (upd H d (.frz od u))) : tLock t D σ H := ⟨d, u, h, m, q⟩
theorem r_clear {l : Addr} {xs : List V} {H : Hp} {Q : VK} (h : H l = some (.lst xs)) (q : UpdO l (.lst []) (Q .non) H) : rClear (.ref l) [] H Q := ⟨l, xs, rfl, rfl, h, q⟩
theorem ne_data {K : PySem.W.Frag} {H : Hp} {x y : V} {d : PyData} {Q : VK} (h1 : Dp K H x d) (h2 : Dp K H y d) (hs : SeqAt.shaped d = true) (q : Q (.bl false) H) : rNeD K x y H Q := ne_same h1 h2 hs q
theorem strs_dp {K : PySem.W.Frag} {H : Hp} : ∀ l : List Str, DpAll K H (l.map V.str) (l.map PyData.str)
  | [] => .nil
  | x :: l => .cons (.str x) (strs_dp l)
theorem strs_lay : ∀ {l : List Str}, (∀ x, x ∈ l → PyData.strOk x = true) → PyData.canLayAll0 (l.map PyData.str) = true ∧ PyData.depthAll (l.map PyData.str) = 0
  | [], _ => ⟨rfl, rfl⟩
  | x :: l, h => by
    obtain ⟨h1, h2⟩ := strs_lay (l := l) fun u hu => h u (by simp [hu])
    refine ⟨?_, ?_⟩
    · show (PyData.canLay0 (.str x) && PyData.canLayAll0 (l.map PyData.str)) = true
      rw [h1, show PyData.canLay0 (.str x) = true by simpa [PyData.canLay0] using h x (by simp)] <;> rfl
    · show max (PyData.depth (.str x)) (PyData.depthAll (l.map PyData.str)) = 0
      rw [h2] <;> rfl
theorem strs_shaped {l : List Str} (h : ∀ x, x ∈ l → PyData.strOk x = true) : SeqAt.shaped (.list (l.map PyData.str)) = true := by
  obtain ⟨h1, h2⟩ := strs_lay h
  show (PyData.canLay0 (.list (l.map PyData.str)) && decide (PyData.depth (.list (l.map PyData.str)) ≤ 64)) = true
  rw [show PyData.canLay0 (.list (l.map PyData.str)) = true by simpa [PyData.canLay0] using h1, show PyData.depth (.list (l.map PyData.str)) = 1 by show PyData.depthAll (l.map PyData.str) + 1 = 1; rw [h2]]
  rfl
/-- what stands besides some lists and dicts -/
theorem RtW.fr {K : PySem.W.Frag} {CK CR : Addr} {A : List Addr} {H H' : Hp} {r kd tl : Addr} {T : List Cl} {n : Nat} (R : RtW K CK CR H r kd tl T n) (f : Fr A H H') (m : Mo H H') (h1 : kd ∉ A) (h2 : tl ∉ A) : RtW K CK CR H' r kd tl T n := by
  obtain ⟨⟨⟨dx, fs, a1, a2⟩, ⟨kvs, b1, b2⟩, xs, c1, c2⟩, kv0, d0⟩ := R
  refine ⟨⟨⟨dx, fs, m _ _ rfl a1, a2⟩, ⟨kvs, ?_, b2.mono fun _ _ z => z.mo m⟩, xs, f _ _ h2 c1, c2⟩, kv0, f _ _ h1 d0⟩
  rcases b1 with b | ⟨o, b⟩
  · exact .inl (f _ _ h1 b)
  · exact .inr ⟨o, f _ _ h1 b⟩
theorem r_revL {K : PySem.W.Frag} {te : TE} {σ : L2.St} {H : Hp} {Q : VK} (h : te σ H fun x H1 => ∃ a xs, x = .ref a ∧ SqL K H1 a xs ∧ AllocO (.lst xs.reverse) Q H1) : tRevL K te σ H Q := h
end Wc

set_option Elab.async false
set_option linter.all false
set_option maxRecDepth 100000
set_option maxHeartbeats 4000000
/-! the tree of classes, in plain Lean -/
namespace Wc
open PySem PySem.Spec PyProof.Rows L2
def okNames : List Str := ["any", "int", "a", "b", "cat", "dog", "edge", "eightabc", "g"]
theorem okNames_ok : ∀ z, z ∈ okNames → nameS z = true ∧ z.length ≤ 8 := by decide +kernel
structure WF (T : List Cl) (n : Nat) : Prop where
  nd : (T.map (·.name)).Nodup
  nm : ∀ c, c ∈ T → c.name ∈ okNames
  tl : T.length = n + 2
  ok : ∀ c, c ∈ T → (c.par = none ∧ c.all = c.own) ∨ ∃ p c', c.par = some p ∧ findC T p = some c' ∧ c.all = c'.all ++ c.own
  ln : ∀ c, c ∈ T → ∃ l, Line T (some c.name) l ∧ l.length ≤ T.length
  since : ∀ c, c ∈ T → c.since ≤ n
  al : ∀ c, c ∈ T → c.all.length ≤ 3 * T.length
  int : ∃ c, findC T "int" = some c
  any : ∃ c, findC T "any" = some c
theorem find_mem {T : List Cl} {x : Str} {c : Cl} (h : findC T x = some c) : c ∈ T ∧ c.name = x :=
  ⟨List.mem_of_find?_eq_some h, by simpa using List.find?_some h⟩
theorem find_of {T : List Cl} {c : Cl} (nd : (T.map (·.name)).Nodup) (h : c ∈ T) : findC T c.name = some c := by
  induction T with
  | nil => cases h
  | cons d T ih =>
    rw [List.map_cons, List.nodup_cons] at nd
    unfold findC
    rw [List.find?_cons]
    rcases List.mem_cons.mp h with e | h
    · rw [e, decide_eq_true rfl]
    · have ne : d.name ≠ c.name := fun z => nd.1 (by rw [z]; exact List.mem_map_of_mem h)
      rw [decide_eq_false ne]
      exact ih nd.2 h
theorem find_app {T : List Cl} {x : Str} {c d : Cl} (h : findC T x = some c) : findC (T ++ [d]) x = some c := by
  unfold findC
  rw [List.find?_append, show T.find? (fun c => decide (c.name = x)) = some c from h]
  rfl
theorem find_new {T : List Cl} {d : Cl} (h : findC T d.name = none) : findC (T ++ [d]) d.name = some d := by
  unfold findC
  rw [List.find?_append, show T.find? (fun c => decide (c.name = d.name)) = none from h]
  simp
theorem Line.app {T : List Cl} {o : Option Str} {l : List Str} {d : Cl} (h : Line T o l) : Line (T ++ [d]) o l := by
  induction h with
  | nil => exact .nil
  | cons h t ih => exact .cons (find_app h) ih
theorem WF.find {T : List Cl} {n : Nat} (w : WF T n) {c : Cl} (h : c ∈ T) : findC T c.name = some c := find_of w.nd h
theorem WF.add {T : List Cl} {n : Nat} (w : WF T n) {z p : Str} {c : Cl} {xs : List V} (hz : findC T z = none) (ho : z ∈ okNames) (hp : findC T p = some c) (hx : xs.length ≤ 3) :
    WF (T ++ [⟨z, some p, xs, c.all ++ xs, n + 1⟩]) (n + 1) := by
  have cT := (find_mem hp).1
  have old : ∀ d, d ∈ T ++ [(⟨z, some p, xs, c.all ++ xs, n + 1⟩ : Cl)] → d ∈ T ∨ d = ⟨z, some p, xs, c.all ++ xs, n + 1⟩ := fun d h => by simpa using h
  have zn : z ∉ T.map (·.name) := fun m => by
    obtain ⟨d, hd, e⟩ := List.mem_map.mp m
    have := w.find hd
    rw [e, hz] at this
    cases this
  refine ⟨?_, fun d h => ?_, by rw [List.length_append, w.tl]; rfl, fun d h => ?_, fun d h => ?_, fun d h => ?_, fun d h => ?_, ?_, ?_⟩
  · rw [List.map_append, List.nodup_append]
    refine ⟨w.nd, by simp, fun a ha b hb e => ?_⟩
    simp at hb
    rw [e, hb] at ha
    exact zn ha
  · rcases old d h with h | rfl
    · exact w.nm d h
    · exact ho
  · rcases old d h with h | rfl
    · rcases w.ok d h with h | ⟨q, c', h1, h2, h3⟩
      · exact .inl h
      · exact .inr ⟨q, c', h1, find_app h2, h3⟩
    · exact .inr ⟨p, c, rfl, find_app hp, rfl⟩
  · rcases old d h with h | rfl
    · obtain ⟨l, h1, h2⟩ := w.ln d h
      exact ⟨l, h1.app, by rw [List.length_append]; omega⟩
    · obtain ⟨l, h1, h2⟩ := w.ln c cT
      rw [(find_mem hp).2] at h1
      exact ⟨z :: l, .cons (find_new (d := ⟨z, some p, xs, c.all ++ xs, n + 1⟩) hz) h1.app, by rw [List.length_append, List.length_cons]; show l.length + 1 ≤ T.length + 1; omega⟩
  · rcases old d h with h | rfl
    · have := w.since d h
      omega
    · exact Nat.le_refl _
  · rcases old d h with h | rfl
    · have := w.al d h
      rw [List.length_append]
      omega
    · have := w.al c cT
      show (c.all ++ xs).length ≤ _
      rw [List.length_append, List.length_append]
      show c.all.length + xs.length ≤ 3 * (T.length + 1)
      omega
  · obtain ⟨d, h⟩ := w.int
    exact ⟨d, find_app h⟩
  · obtain ⟨d, h⟩ := w.any
    exact ⟨d, find_app h⟩
/-- the fields of some classes, one after the other -/
def ownsOf (T : List Cl) (l : List Str) : List V := l.flatMap fun x => match findC T x with
  | some c => c.own
  | none => []
theorem owns_all {T : List Cl} {n : Nat} (w : WF T n) {o : Option Str} {l : List Str} (h : Line T o l) : ∀ x c, o = some x → findC T x = some c → ownsOf T l.reverse = c.all := by
  induction h with
  | nil => intro x c e; cases e
  | @cons x c l h t ih =>
    intro y d e hd
    cases e
    rw [h] at hd
    cases hd
    have e : ownsOf T (x :: l).reverse = ownsOf T l.reverse ++ c.own := by
      rw [List.reverse_cons]
      unfold ownsOf
      rw [List.flatMap_append]
      show _ ++ ((match findC T x with | some c => c.own | none => []) ++ []) = _
      rw [h, List.append_nil]
    rw [e]
    rcases w.ok c (find_mem h).1 with ⟨h1, h2⟩ | ⟨p, c', h1, h2, h3⟩
    · rw [h1] at t
      cases t
      rw [h2]
      rfl
    · rw [ih p c' h1 h2, h3]
def knownL' (T : List Cl) (n : Nat) : List Str := (T.filter fun c => decide ((c.since : Int) ≤ (n : Int))).map (·.name)
theorem known_all {T : List Cl} {n : Nat} (w : WF T n) : knownL' T n = T.map (·.name) := by
  unfold knownL'
  rw [List.filter_eq_self.mpr]
  intro c h
  have := w.since c h
  exact decide_eq_true (by omega)
theorem WF.start : WF [⟨"any", none, [], [], 0⟩, ⟨"int", some "any", [], [], 0⟩] 0 := by
  have f1 : findC [⟨"any", none, [], [], 0⟩, ⟨"int", some "any", [], [], 0⟩] "any" = some ⟨"any", none, [], [], 0⟩ := rfl
  have f2 : findC [⟨"any", none, [], [], 0⟩, ⟨"int", some "any", [], [], 0⟩] "int" = some ⟨"int", some "any", [], [], 0⟩ := rfl
  have two : ∀ {P : Cl → Prop}, P ⟨"any", none, [], [], 0⟩ → P ⟨"int", some "any", [], [], 0⟩ → ∀ c, c ∈ ([⟨"any", none, [], [], 0⟩, ⟨"int", some "any", [], [], 0⟩] : List Cl) → P c := fun {P} h1 h2 c h => by
    simp at h
    rcases h with rfl | rfl
    · exact h1
    · exact h2
  refine ⟨by decide +kernel, two (by decide +kernel) (by decide +kernel), rfl, two (.inl ⟨rfl, rfl⟩) (.inr ⟨"any", _, rfl, f1, rfl⟩), two ⟨["any"], .cons f1 .nil, by decide⟩ ⟨["int", "any"], .cons f2 (.cons f1 .nil), by decide⟩, two (Nat.le_refl _) (Nat.le_refl _), two (Nat.zero_le _) (Nat.zero_le _), ⟨_, f2⟩, ⟨_, f1⟩⟩
/-! ### sorted lists of texts -/
theorem rising_pw : ∀ (l : List Str) (p : Str), risingS p l = true → (p :: l).Pairwise (fun a b => a.cps.toList ≤ b.cps.toList)
  | [], p, _ => by simp
  | x :: r, p, h => by
    have h : (!ltCps x.cps.toList p.cps.toList && risingS x r) = true := h
    rw [Bool.and_eq_true] at h
    have ih := rising_pw r x h.2
    have hx : p.cps.toList ≤ x.cps.toList := by
      have h1 := h.1
      rw [ltCps_eq] at h1
      simpa using h1
    refine List.pairwise_cons.mpr ⟨fun y hy => ?_, ih⟩
    rcases List.mem_cons.mp hy with e | hy
    · rw [e]
      exact hx
    · exact List.le_trans hx ((List.pairwise_cons.mp ih).1 y hy)
theorem sorted_pw {l : List Str} (h : sortedS l = true) : l.Pairwise (fun a b => a.cps.toList ≤ b.cps.toList) := by
  cases l with
  | nil => exact .nil
  | cons x r => exact rising_pw r x h
theorem sorted_one {l m : List Str} (p : l.Perm m) (h1 : sortedS l = true) (h2 : sortedS m = true) : l = m := by
  refine List.Perm.eq_of_pairwise (le := fun a b => a.cps.toList ≤ b.cps.toList) (fun a b _ _ h1 h2 => ?_) (sorted_pw h1) (sorted_pw h2) p
  have e := List.le_antisymm h1 h2
  cases a
  cases b
  congr
  exact Array.toList_inj.mp e
end Wc

set_option Elab.async false
set_option linter.all false
set_option maxRecDepth 100000
set_option maxHeartbeats 4000000
/-! == of two tuples of the same parts; frames that leave tables of code objects out -/
namespace Wc
open PySem PySem.Spec PyProof.Rows L2
/-- the same value -/
def DSm : Eqv := fun x y _ => (x = y ∧ flatV x = true) ∨ ∃ a, x = .ref a ∧ y = .ref a
theorem mon_same : Mon DSm := fun _ _ _ _ _ d => d
theorem eqG_same {X : Cx} : EqG X 0 DSm := by
  intro A pins s σ H x y u v sb I rx ry d
  rcases d with ⟨rfl, f⟩ | ⟨a, rfl, rfl⟩
  · refine eqG_flat A pins s σ H x x u v sb I rx ry ⟨f, f, ?_⟩
    cases x <;> first | rfl | (cases f; done) | simp [eqV]
  · obtain rfl : u = Value.ref a := rx
    obtain rfl : v = Value.ref a := ry
    exact SeqAt.EqAt.same (A := A) (s := s) (.ref a) X.prog X.w X.xe _ ⟨rfl, H, I, fun _ _ h => h⟩
def rEqB (K : PySem.W.Frag) : R2 := fun x y H Q => rEq x y H Q ∨ rEqG (DTup K DSm) x y H Q
theorem op_eqB {X : Cx} {j : Nat} (hr : Room j X.A) (hj : 1 ≤ j := by decide) : OpR X (compareOp .Eq) (rEqB X.K) := by
  intro pins s σ H x y v u Q I rx ry h
  rcases h with h | h
  · exact op_eq pins s σ H x y v u Q I rx ry h
  · exact op_eqG (rcG_tup mon_same eqG_same) (hr.mono hj) pins s σ H x y v u Q I rx ry h
theorem eqB_int {K : PySem.W.Frag} {i j : Int} {H : Hp} {Q : VK} (h : i = j) (q : Q (.bl true) H) : rEqB K (.int i) (.int j) H Q := by
  refine .inl ⟨rfl, ?_⟩
  rw [h, decide_eq_true rfl]
  exact q
theorem eqB_tup {K : PySem.W.Frag} {a b : Addr} {t : Str} {v : V} {H : Hp} {Q : VK} (h1 : H a = some (.tup [.str t, v])) (h2 : H b = some (.tup [.str t, v])) (hv : DSm v v H) (q : ∀ H', Wc.Ext H H' → Q (.bl true) H') : rEqB K (.ref a) (.ref b) H Q :=
  .inr ⟨⟨a, b, _, _, rfl, rfl, SqT.of h1, SqT.of h2, .cons (.inl ⟨rfl, rfl⟩) (.cons hv .nil)⟩, q⟩
/-- all but A and the tables stays -/
def FrN (A : List Addr) (H H' : Hp) : Prop := ∀ a o, a ∉ A → (∀ ps, o ≠ .tbl ps) → H a = some o → H' a = some o
theorem Fr.n {A : List Addr} {H H' : Hp} (f : Fr A H H') : FrN A H H' := fun a o n _ h => f a o n h
theorem FrN.trans {A : List Addr} {H H1 H2 : Hp} (f : FrN A H H1) (g : FrN A H1 H2) : FrN A H H2 := fun a o n t h => g a o n t (f a o n t h)
theorem FrN.mono {A B : List Addr} {H H' : Hp} (f : FrN A H H') (h : ∀ a, a ∈ A → a ∈ B) : FrN B H H' := fun a o n t z => f a o (fun m => n (h a m)) t z
theorem FrN.of {H H' : Hp} (e : LamX.ExtN H H') : FrN [] H H' := fun a o _ t h => e a o h t
theorem FrN.mo {A : List Addr} {H H' : Hp} (f : FrN A H H') (n : ∀ a, a ∈ A → ∃ u, H a = some u ∧ Imm u = false) : Mo H H' := fun a o i h => f a o (fun m => by
  obtain ⟨u, hu, nu⟩ := n a m
  rw [hu] at h
  cases h
  rw [nu] at i
  cases i) (fun ps z => by rw [z] at i; cases i) h
theorem RtW.frn {K : PySem.W.Frag} {CK CR : Addr} {A : List Addr} {H H' : Hp} {r kd tl : Addr} {T : List Cl} {n : Nat} (R : RtW K CK CR H r kd tl T n) (f : FrN A H H') (m : Mo H H') (h1 : kd ∉ A) (h2 : tl ∉ A) : RtW K CK CR H' r kd tl T n := by
  obtain ⟨⟨⟨dx, fs, a1, a2⟩, ⟨kvs, b1, b2⟩, xs, c1, c2⟩, kv0, d0⟩ := R
  refine ⟨⟨⟨dx, fs, m _ _ rfl a1, a2⟩, ⟨kvs, ?_, b2.mono fun _ _ z => z.mo m⟩, xs, f _ _ h2 (fun _ z => nomatch z) c1, c2⟩, kv0, f _ _ h1 (fun _ z => nomatch z) d0⟩
  rcases b1 with b | ⟨o, b⟩
  · exact .inl (f _ _ h1 (fun _ z => nomatch z) b)
  · exact .inr ⟨o, f _ _ h1 (fun _ z => nomatch z) b⟩
/-- tables stay where lists, dicts change -/
theorem tabs_fr {T : List (Addr × Str)} {A : List Addr} {H H' : Hp} (t : LamX.Tabs T H) (f : Fr A H H') (n : ∀ a, a ∈ A → ∃ u, H a = some u ∧ (∀ ps, u ≠ .tbl ps) ∧ ∀ φ, u ≠ .ext φ) : LamX.Tabs T H' := fun p hp => by
  obtain ⟨ps, h1, h2, h3⟩ := t p hp
  refine ⟨ps, f _ _ (fun m => ?_) h1, h2, fun pos cv hc => ?_⟩
  · obtain ⟨u, hu, nu, _⟩ := n _ m
    rw [hu] at h1
    exact nu ps (Option.some.inj h1)
  · obtain ⟨c, e1, e2⟩ := h3 pos cv hc
    refine ⟨c, e1, f _ _ (fun m => ?_) e2⟩
    obtain ⟨u, hu, _, nu⟩ := n _ m
    rw [hu] at e2
    exact nu _ (Option.some.inj e2)
end Wc

set_option Elab.async false
set_option linter.all false
set_option maxRecDepth 100000
set_option maxHeartbeats 1000000
/-! dicts whose keys are tuples in tuples (over KE.KeyNested) -/
namespace Wc
open PySem PySem.Spec PyProof.Rows L2
abbrev NK : Type := NestedKey
mutual
/-- the value v, in the heap H, is the key k -/
inductive KeyV (H : Hp) : V → NK → Prop
  | int (i : Int) : KeyV H (.int i) (.num i)
  | str (x : Str) : KeyV H (.str x) (.text x)
  | tup {a : Addr} {vs : List V} {ks : List NK} (h : H a = some (.tup vs)) (t : KeyVs H vs ks) : KeyV H (.ref a) (.tup ks)
inductive KeyVs (H : Hp) : List V → List NK → Prop
  | nil : KeyVs H [] []
  | cons {v : V} {k : NK} {vs : List V} {ks : List NK} (h : KeyV H v k) (t : KeyVs H vs ks) : KeyVs H (v :: vs) (k :: ks)
end
mutual
theorem KeyV.mo {H H' : Hp} (m : Mo H H') : ∀ (k : NK) (v : V), KeyV H v k → KeyV H' v k
  | .none, _, h => by cases h
  | .num i, _, h => by cases h; exact .int _
  | .text x, _, h => by cases h; exact .str _
  | .tup ks, _, h => by
    cases h with
    | tup h t => exact .tup (m _ _ rfl h) (KeyVs.mo m ks _ t)
theorem KeyVs.mo {H H' : Hp} (m : Mo H H') : ∀ (ks : List NK) (vs : List V), KeyVs H vs ks → KeyVs H' vs ks
  | [], _, h => by cases h; exact .nil
  | k :: ks, _, h => by
    cases h with
    | cons h t => exact .cons (KeyV.mo m k _ h) (KeyVs.mo m ks _ t)
end
mutual
theorem KeyV.is {P : Program} {w : World} {H : Hp} {h : Heap} (ok : HOk P w H h) : ∀ (k : NK) (v : V) (u : Value), KeyV H v k → RelV v u → NestedIs h k u
  | .none, _, _, x, _ => by cases x
  | .num i, _, u, x, r => by
    cases x
    obtain ⟨t, e⟩ := (show ∃ t, u = Value.int i t from r)
    rw [e]
    exact .int _ _
  | .text y, _, u, x, r => by
    cases x
    obtain ⟨t, e⟩ := (show ∃ t, u = Value.str y t from r)
    rw [e]
    exact .text _ _
  | .tup ks, _, u, x, r => by
    cases x with
    | @tup a vs _ hx t =>
      obtain rfl : u = Value.ref a := r
      obtain ⟨_, its, rv, o, h1, h2, n, h3⟩ := (show ObjOk P w H h a (.tup vs) from ok a _ hx)
      exact .tup h1 h2 h3 (by simpa using KeyVs.is ok ks _ _ t rv)
theorem KeyVs.is {P : Program} {w : World} {H : Hp} {h : Heap} (ok : HOk P w H h) : ∀ (ks : List NK) (vs : List V) (us : List Value), KeyVs H vs ks → Vals vs us → NestedAll h ks us
  | [], _, _, x, r => by
    cases x
    cases r
    exact .nil
  | k :: ks, _, _, x, r => by
    cases x with
    | cons x t =>
      cases r with
      | cons r rt => exact .cons (KeyV.is ok k _ _ x r) (KeyVs.is ok ks _ _ t rt)
end
/-- so stands such a dict at d -/
def NDo (P : Program) (w : World) (d : Addr) (xs : List (NK × Addr × Value)) (h : Heap) : Prop := ∃ o es ep, h.get? d = some o ∧ o.ExactDict ∧ o.data = .dict es ep ∧ es.toList = xs.map (entryOfKey (nestedKind P w))
def NRel (H : Hp) (p : NK × V) (q : NK × Addr × Value) : Prop := p.1 = q.1 ∧ KeyV H (.ref q.2.1) p.1 ∧ p.1.depth ≤ 8 ∧ RelV p.2 q.2.2
/-- a dict with the keys and values kvs -/
def ND (P : Program) (w : World) (H : Hp) (d : Addr) (kvs : List (NK × V)) : Prop := ∃ xs, H d = some (.ext (NDo P w d xs)) ∧ (d == sysModules) = false ∧ xs.length ≤ sizeLine ∧ (xs.map (·.1)).Nodup ∧ PySem.Paired (NRel H) kvs xs
/-- .. or an empty one -/
def Tb (P : Program) (w : World) (H : Hp) (d : Addr) (kvs : List (NK × V)) : Prop := ND P w H d kvs ∨ (kvs = [] ∧ H d = some (.dK []))
theorem NRel.mo {H H' : Hp} (m : Mo H H') {p : NK × V} {q : NK × Addr × Value} (h : NRel H p q) : NRel H' p q := ⟨h.1, KeyV.mo m _ _ h.2.1, h.2.2⟩
theorem ND.fr {P : Program} {w : World} {H H' : Hp} {d : Addr} {kvs : List (NK × V)} (h : ND P w H d kvs) (m : Mo H H') (e : ∀ o, H d = some o → (∀ ps, o ≠ .tbl ps) → H' d = some o) : ND P w H' d kvs := by
  obtain ⟨xs, h1, h2, h3, h4, h5⟩ := h
  exact ⟨xs, e _ h1 (fun _ z => nomatch z), h2, h3, h4, Paired.mapP h5 fun _ _ z => z.mo m⟩
theorem Tb.fr {P : Program} {w : World} {H H' : Hp} {d : Addr} {kvs : List (NK × V)} (h : Tb P w H d kvs) (m : Mo H H') (e : ∀ o, H d = some o → (∀ ps, o ≠ .tbl ps) → H' d = some o) : Tb P w H' d kvs := by
  rcases h with h | ⟨h1, h2⟩
  · exact .inl (h.fr m e)
  · exact .inr ⟨h1, e _ h2 (fun _ z => nomatch z)⟩
theorem NRel.is {P : Program} {w : World} {H : Hp} {h : Heap} (ok : HOk P w H h) : ∀ {kvs : List (NK × V)} {xs : List (NK × Addr × Value)}, PySem.Paired (NRel H) kvs xs → ∀ x ∈ xs, (nestedKind P w).is h x.1 x.2.1
  | _, _, .nil, x, hx => by cases hx
  | _, _, .cons (a := p) (b := q) r t, x, hx => by
    rcases List.mem_cons.mp hx with e | hx
    · subst e
      obtain ⟨e1, k, dp, _⟩ := r
      rw [← e1]
      exact ⟨KeyV.is ok _ _ _ k rfl, dp⟩
    · exact NRel.is ok t x hx
theorem ND.at_ {P : Program} {w : World} {H : Hp} {h : Heap} {d : Addr} {kvs : List (NK × V)} (ok : HOk P w H h) (n : ND P w H d kvs) : ∃ xs, h.DictOfH (nestedKind P w) d xs ∧ (d == sysModules) = false ∧ xs.length ≤ sizeLine ∧ PySem.Paired (NRel H) kvs xs := by
  obtain ⟨xs, h1, h2, h3, h4, h5⟩ := n
  obtain ⟨⟨o, es, ep, g1, g2, g3, g4⟩, _⟩ := (show ObjOk P w H h d (.ext (NDo P w d xs)) from ok d _ h1)
  exact ⟨xs, ⟨o, es, ep, g1, g2, g3, g4, NRel.is ok h5, h4⟩, h2, h3, h5⟩
theorem Tb.at_ {P : Program} {w : World} {H : Hp} {h : Heap} {d : Addr} {kvs : List (NK × V)} (ok : HOk P w H h) (n : Tb P w H d kvs) : ∃ xs, h.DictOfH (nestedKind P w) d xs ∧ (d == sysModules) = false ∧ xs.length ≤ sizeLine ∧ PySem.Paired (NRel H) kvs xs := by
  rcases n with n | ⟨rfl, e⟩
  · exact n.at_ ok
  · obtain ⟨_, hm, vs, rv, o, es, ep, g1, g2, g3, g4, g5, g6⟩ := (show ObjOk P w H h d (.dK []) from ok d _ e)
    cases rv
    have e0 : es.toList = [] := by
      cases hh : es.toList with
      | nil => rfl
      | cons a l =>
        rw [hh] at g5
        cases g5
    exact ⟨[], ⟨o, es, ep, g1, g2, g3, by rw [e0]; rfl, (fun x hx => by cases hx), List.nodup_nil⟩, hm, Nat.zero_le _, .nil⟩
theorem NRel.val {H : Hp} {kvs : List (NK × V)} {xs : List (NK × Addr × Value)} (r : PySem.Paired (NRel H) kvs xs) (k : NK) : RelO (valV kvs k) ((atKey xs k).map (·.2)) := by
  induction r with
  | nil => exact True.intro
  | @cons p q ps qs h t ih =>
    obtain ⟨h1, _, _, h2⟩ := h
    by_cases e : p.1 = k
    · have e' : q.1 = k := h1.symm.trans e
      have b : atKey (q :: qs) k = some q.2 := by simp [atKey, List.find?_cons, e']
      rw [valV_pos e, b]
      exact h2
    · have e' : ¬ q.1 = k := fun z => e (h1.trans z)
      have b : atKey (q :: qs) k = atKey qs k := by simp [atKey, List.find?_cons, e']
      rw [valV_neg e, b]
      exact ih
theorem NRel.repl {H : Hp} {kvs : List (NK × V)} {xs : List (NK × Addr × Value)} (r : PySem.Paired (NRel H) kvs xs) (k : NK) {y : V} {u : Value} (ry : RelV y u) :
    PySem.Paired (NRel H) (kvs.map fun kv => if kv.1 = k then (kv.1, y) else kv) (xs.map (putAt k u)) := by
  induction r with
  | nil => exact .nil
  | @cons p q ps qs h t ih =>
    rw [List.map_cons, List.map_cons]
    refine .cons ?_ ih
    obtain ⟨h1, h2, h3, h4⟩ := h
    unfold putAt
    by_cases e : p.1 = k
    · rw [if_pos e, if_pos (h1.symm.trans e)]
      exact ⟨h1, h2, h3, ry⟩
    · rw [if_neg e, if_neg (fun z => e (h1.trans z))]
      exact ⟨h1, h2, h3, h4⟩
theorem NRel.put {H : Hp} {kvs : List (NK × V)} {xs : List (NK × Addr × Value)} (r : PySem.Paired (NRel H) kvs xs) (k : NK) {b : Addr} {y : V} {u : Value} (hb : KeyV H (.ref b) k) (hd : k.depth ≤ 8) (ry : RelV y u) :
    PySem.Paired (NRel H) (putK kvs k y) (storedH xs k b u) := by
  have e : (kvs.any fun kv => decide (kv.1 = k)) = (atKey xs k).isSome := by
    rw [valV_any, (NRel.val r k).isSome_eq, Option.isSome_map]
  unfold putK storedH
  rw [e]
  by_cases q : (atKey xs k).isSome = true
  · rw [if_pos q, if_pos q]
    exact NRel.repl r k ry
  · rw [if_neg q, if_neg q]
    exact Paired.snoc r ⟨rfl, hb, hd, ry⟩
theorem NRel.drop {H : Hp} {kvs : List (NK × V)} {xs : List (NK × Addr × Value)} (r : PySem.Paired (NRel H) kvs xs) (k : NK) : PySem.Paired (NRel H) (dropK kvs k) (withoutH xs k) := by
  unfold dropK withoutH
  induction r with
  | nil => exact .nil
  | @cons p q ps qs h t ih =>
    rw [List.filter_cons, List.filter_cons]
    by_cases e : p.1 = k
    · have a : ¬ decide (p.1 ≠ k) = true := by simp [e]
      have b : ¬ decide (q.1 ≠ k) = true := by simp [h.1.symm.trans e]
      first
        | (rw [if_neg a, if_neg b]; exact ih)
        | (simp only [h.1.symm.trans e, e]; simpa using ih)
    · have e' : ¬ q.1 = k := fun z => e (h.1.trans z)
      have a : decide (p.1 ≠ k) = true := by simp [e]
      have b : decide (q.1 ≠ k) = true := by simp [e']
      first
        | (rw [if_pos a, if_pos b]; exact .cons h ih)
        | (simp only [e, e']; simpa using PySem.Paired.cons h ih)
/-! ### the rules -/
/-- a key: its value, the key -/
def NKey (H : Hp) (y : V) (k : NK) : Prop := (∃ b, y = .ref b) ∧ KeyV H y k ∧ k.depth ≤ 8
def tNGet (P : Program) (w : World) (td ty : TE) : TE := fun σ H Q => td σ H fun x H1 => ty σ H1 fun y H2 => ∃ a kvs k v, x = .ref a ∧ NKey H2 y k ∧ Tb P w H2 a kvs ∧ valV kvs k = some v ∧ Q v H2
def tNIn (P : Program) (w : World) (ty td : TE) : TE := fun σ H Q => ty σ H fun y H1 => td σ H1 fun x H2 => ∃ a kvs k, x = .ref a ∧ NKey H2 y k ∧ Tb P w H2 a kvs ∧ Q (.bl (valV kvs k).isSome) H2
def tNNot (P : Program) (w : World) (ty td : TE) : TE := fun σ H Q => ty σ H fun y H1 => td σ H1 fun x H2 => ∃ a kvs k, x = .ref a ∧ NKey H2 y k ∧ Tb P w H2 a kvs ∧ Q (.bl (!(valV kvs k).isSome)) H2
/-- d[y] = v: behind it -/
def NPut (P : Program) (w : World) (a : Addr) (y v : V) (R : Hp → Prop) (H : Hp) : Prop := ∃ kvs k, NKey H y k ∧ Tb P w H a kvs ∧ kvs.length < sizeLine ∧ ∀ H', Fr [a] H H' → Mo H H' → ND P w H' a (putK kvs k v) → R H'
def sNPut (P : Program) (w : World) (td ty tv : TE) : TS := fun D σ H => tv σ H fun v H1 => td σ H1 fun x H2 => ty σ H2 fun y H3 => ∃ a, x = .ref a ∧ NPut P w a y v (D.nx σ) H3
def rNPop (P : Program) (w : World) : V → List V → Hp → VK → Prop := fun x xs H Q => ∃ a y kvs k v, x = .ref a ∧ xs = [y] ∧ NKey H y k ∧ Tb P w H a kvs ∧ valV kvs k = some v ∧ ∀ H', Fr [a] H H' → Mo H H' → ND P w H' a (dropK kvs k) → Q v H'
/-- dict(d) of one that holds at most one -/
def rNCopy (P : Program) (w : World) : List V → Hp → VK → Prop := fun xs H Q => ∃ a kvs, xs = [.ref a] ∧ Tb P w H a kvs ∧ kvs.length ≤ 1 ∧ ∀ d H', H d = none → Ext H H' → ND P w H' d kvs → Q (.ref d) H'
section
variable {X : Cx} {o i e value : Expr} {pos pos' apos cpos : Pos} {td ty tv : TE}
theorem nkey_is {P : Program} {w : World} {H : Hp} {h : Heap} (ok : HOk P w H h) {y : V} {k : NK} {u : Value} (n : NKey H y k) (r : RelV y u) : ∃ b, u = .ref b ∧ y = .ref b ∧ (nestedKind P w).is h k b := by
  obtain ⟨⟨b, rfl⟩, h1, h2⟩ := n
  obtain rfl : u = Value.ref b := r
  exact ⟨b, rfl, rfl, KeyV.is ok _ _ _ h1 rfl, h2⟩
theorem pe_nget (hu : X.A.units + 9 < cLine) (ho : PE X o td) (hi : PE X i ty) (hs : NoSl i) : PE X (.Subscript o i pos) (tNGet X.prog X.w td ty) := by
  refine ⟨fun pins s σ H Q I h => ?_⟩
  refine subD_of PySem.F.slot_dict_getitem.lookup hs (thn (ho.run pins s σ H _ I h) fun u s1 ⟨x, H1, I1, rx, q1⟩ => thn (hi.run pins s1 σ H1 _ I1 q1) fun iv s2 ⟨y, H2, I2, ry, a, kvs, k, v, ex, nk, tb, hv, q2⟩ => ?_)
  subst ex
  obtain rfl : u = Value.ref a := rx
  obtain ⟨b, rfl, rfl, hk⟩ := nkey_is I2.hok nk ry
  obtain ⟨xs, dd, _, _, rel⟩ := tb.at_ I2.hok
  obtain ⟨w', hw, rw'⟩ := RelO.some_of (v := v) (o := (atKey xs k).map (·.2)) (by rw [← hv]; exact NRel.val rel k)
  obtain ⟨p, hp, hp2⟩ := Option.map_eq_some_iff.mp hw
  refine ⟨dd.typeIs, wpAny_getItem_heap (by show _ + 1 + 8 < cLine; exact hu) hk dd hp ?_⟩
  rw [hp2]
  exact ⟨v, H2, I2.tok _, rw', q2⟩
theorem pc_nin (hu : X.A.units + 9 < cLine) (hi : PE X i ty) (ho : PE X o td) : PC X .In i o (tNIn X.prog X.w ty td) := by
  refine ⟨fun pins s σ H Q I h => ?_⟩
  refine thn (hi.run pins s σ H _ I h) fun iv s1 ⟨y, H1, I1, ry, q1⟩ => thn (ho.run pins s1 σ H1 _ I1 q1) fun u s2 ⟨x, H2, I2, rx, a, kvs, k, ex, nk, tb, q2⟩ => ?_
  subst ex
  obtain rfl : u = Value.ref a := rx
  obtain ⟨b, rfl, rfl, hk⟩ := nkey_is I2.hok nk ry
  obtain ⟨xs, dd, hm, _, rel⟩ := tb.at_ I2.hok
  refine wpAny_in_heap (by show _ + 1 + 8 < cLine; exact hu) hk hm dd ?_
  have q := (NRel.val rel k).isSome_eq
  rw [Option.isSome_map] at q
  rw [← q]
  exact ⟨.bl (valV kvs k).isSome, H2, I2.tok _, rfl, q2⟩
theorem pc_nnot (hu : X.A.units + 9 < cLine) (hi : PE X i ty) (ho : PE X o td) : PC X .NotIn i o (tNNot X.prog X.w ty td) := by
  refine ⟨fun pins s σ H Q I h => ?_⟩
  refine thn (hi.run pins s σ H _ I h) fun iv s1 ⟨y, H1, I1, ry, q1⟩ => thn (ho.run pins s1 σ H1 _ I1 q1) fun u s2 ⟨x, H2, I2, rx, a, kvs, k, ex, nk, tb, q2⟩ => ?_
  subst ex
  obtain rfl : u = Value.ref a := rx
  obtain ⟨b, rfl, rfl, hk⟩ := nkey_is I2.hok nk ry
  obtain ⟨xs, dd, hm, _, rel⟩ := tb.at_ I2.hok
  refine wpAny_notIn_heap (by show _ + 1 + 8 < cLine; exact hu) hk hm dd ?_
  have q := (NRel.val rel k).isSome_eq
  rw [Option.isSome_map] at q
  rw [← q]
  exact ⟨.bl (!(valV kvs k).isSome), H2, I2.tok _, rfl, q2⟩
theorem tb_mut {P : Program} {w : World} {H : Hp} {a : Addr} {kvs : List (NK × V)} (t : Tb P w H a kvs) : Mut (H a) ∧ ∃ u, H a = some u ∧ Imm u = false := by
  rcases t with ⟨xs, h, _⟩ | ⟨_, h⟩ <;> (rw [h]; exact ⟨True.intro, _, rfl, rfl⟩)
/-- behind a write of such a dict -/
theorem nd_laid {P : Program} {w : World} {H : Hp} {h h' : Heap} {a : Addr} {kvs : List (NK × V)} {xs : List (NK × Addr × Value)} (dd : h'.DictOfH (nestedKind P w) a xs) (hm : (a == sysModules) = false) (hz : xs.length ≤ sizeLine) (rel : PySem.Paired (NRel H) kvs xs) (m : Mo H (upd H a (.ext (NDo P w a xs)))) :
    ObjOk P w (upd H a (.ext (NDo P w a xs))) h' a (.ext (NDo P w a xs)) ∧ ND P w (upd H a (.ext (NDo P w a xs))) a kvs := by
  obtain ⟨o, es, ep, h1, h2, h3, h4, _, h5⟩ := dd
  exact ⟨⟨⟨o, es, ep, h1, h2, h3, h4⟩, ⟨o, h1⟩, fun g1 g2 ⟨o', es', ep', k1, k⟩ z => ⟨o', es', ep', z _ k1, k⟩⟩, xs, upd_same, hm, hz, h5, Paired.mapP rel fun _ _ z => z.mo m⟩
theorem ps_nput (hu : X.A.units + 9 < cLine) (ho : PE X o td) (hi : PE X i ty) (hv : PE X value tv) (hs : swapsWith value (some (.Subscript o i pos')) pos.line X.env = pure false) :
    PS X (.Assign [.Subscript o i pos'] value pos) (sNPut X.prog X.w td ty tv) := by
  refine ⟨fun pins s σ H D I h => ?_⟩
  refine wpAny_Assign_Subscript (thn (hv.run pins s σ H _ I h) fun r s1 ⟨v, H1, I1, rv, q1⟩ => thn (ho.run pins s1 σ H1 _ I1 q1) fun u s2 ⟨x, H2, I2, rx, q2⟩ => thn (hi.run pins s2 σ H2 _ I2 q2) fun iv s3 ⟨y, H3, I3, ry, a, ex, kvs, k, nk, tb, hl, q3⟩ => ?_) hs
  subst ex
  obtain rfl : u = Value.ref a := rx
  obtain ⟨mu, u0, hu0, im⟩ := tb_mut tb
  obtain ⟨_, hky, hdk⟩ := id nk
  obtain ⟨b, rfl, rfl, hk⟩ := nkey_is I3.hok nk ry
  obtain ⟨xs, dd, hm, hz, rel⟩ := tb.at_ I3.hok
  refine wpAny_setItem_heap (hsz := hz) (by show _ + 1 + 8 < cLine; exact hu) hk dd fun h' dd' hs' => ?_
  have rel' := NRel.put rel k hky hdk rv
  have hz' : (storedH xs k b r).length ≤ sizeLine := by
    rw [← Paired.length rel']
    have := length_putK kvs k v
    omega
  have mo : Mo H3 (upd H3 a (.ext (NDo X.prog X.w a (storedH xs k b r)))) := Mo.upd hu0 im
  obtain ⟨n1, n2⟩ := nd_laid (h := s3.heap) dd' hm hz' rel' mo
  have he : ∃ q, h'.get? a = some q := let ⟨q, _, _, hq, _⟩ := dd'; ⟨q, hq⟩
  exact ⟨σ, _, d_write I3 mu hs' he n1, q3 _ (Fr.updE (by simp)) mo n2⟩
theorem withoutH_le (xs : List (NK × Addr × Value)) (k : NK) : (withoutH xs k).length ≤ xs.length := by
  unfold withoutH
  exact List.length_filter_le _ _
theorem mt_npop (hu : X.A.units + 9 < cLine) : MtR X "dict.pop" (rNPop X.prog X.w) := by
  intro pins s σ H x xs v us Q I rx rxs h
  obtain ⟨a, y, kvs, k, v0, rfl, rfl, nk, tb, hv, q⟩ := h
  obtain ⟨u1, rfl, ry⟩ := vals1 rxs
  obtain rfl : v = Value.ref a := rx
  obtain ⟨mu, u0, hu0, im⟩ := tb_mut tb
  obtain ⟨b, rfl, rfl, hk⟩ := nkey_is I.hok nk ry
  obtain ⟨xs, dd, hm, hz, rel⟩ := tb.at_ I.hok
  obtain ⟨w', hw, rw'⟩ := RelO.some_of (v := v0) (o := (atKey xs k).map (·.2)) (by rw [← hv]; exact NRel.val rel k)
  obtain ⟨p, hp, hp2⟩ := Option.map_eq_some_iff.mp hw
  refine call_pop_heap (hsz := hz) (.inl rfl) (PySem.F.args_dict_pop_2 _ _) (by show _ + 1 + 8 < cLine; exact hu) hk hm dd hp fun h' dd' hs' => ?_
  have mo : Mo H (upd H a (.ext (NDo X.prog X.w a (withoutH xs k)))) := Mo.upd hu0 im
  obtain ⟨n1, n2⟩ := nd_laid (h := s.heap) dd' hm (Nat.le_trans (withoutH_le xs k) hz) (NRel.drop rel k) mo
  have he : ∃ q, h'.get? a = some q := let ⟨q, _, _, hq, _⟩ := dd'; ⟨q, hq⟩
  rw [hp2]
  exact ⟨v0, _, d_write I mu hs' he n1, rw', q _ (Fr.updE (by simp)) mo n2⟩
theorem nodup_le1 {α β : Type} (f : α → β) : ∀ {l : List α}, l.length ≤ 1 → (l.map f).Nodup
  | [], _ => List.nodup_nil
  | [x], _ => List.nodup_cons.mpr ⟨List.not_mem_nil, List.nodup_nil⟩
  | _ :: _ :: _, h => by simp at h
theorem call_ncopy (hu : X.A.units + 10 < cLine) : CallR X (.type "dict") (rNCopy X.prog X.w) := by
  intro pins s σ H xs us Q I r h
  obtain ⟨a, kvs, rfl, tb, h1, q⟩ := h
  obtain ⟨u1, rfl, ru⟩ := vals1 r
  obtain rfl : u1 = Value.ref a := ru
  obtain ⟨xs, dd, hm, hz, rel⟩ := tb.at_ I.hok
  have hl : xs.length ≤ 1 := by rw [← Paired.length rel]; exact h1
  refine callType_codes (Q₁ := fun obj s₁ => obj = .ref s.heap.objs.size ∧ s₁ = { s with heap := s.heap.push { cls := .type "dict", data := .dict #[] } }) PySem.F.kt_called_dict (PySem.F.kt_typeCall_dict_1 _) PySem.F.entry_dict_init (kt_code_dict_new _ ⟨rfl, rfl⟩) ?_
  rintro obj s₁ ⟨rfl, rfl⟩
  have hnew : (s.heap.push { cls := .type "dict", data := .dict #[] }).DictOfH (nestedKind X.prog X.w) s.heap.objs.size [] := Heap.DictOfH.new s.heap
  have dd2 : (s.heap.push { cls := .type "dict", data := .dict #[] }).DictOfH (nestedKind X.prog X.w) a xs := by
    obtain ⟨o, es, ep, g1, g2, g3, g4, g5, g6⟩ := dd
    refine ⟨o, es, ep, Heap.get?_push_of_some _ g1, g2, g3, g4, fun x hx => ?_, g6⟩
    obtain ⟨k1, k2⟩ := g5 x hx
    exact ⟨NestedIs.at (fun b o' vs n hb _ => Heap.get?_push_of_some _ hb) _ _ k1, k2⟩
  have hdo : s.heap.objs.size ≠ a := by
    obtain ⟨_, _, _, hg, _⟩ := dd
    exact fun e => absurd (Heap.lt_size hg) (by rw [e]; exact Nat.lt_irrefl _)
  have hty : ∀ x ∈ xs, Shared.TypeIs { s with heap := s.heap.push { cls := .type "dict", data := .dict #[] } } (.ref x.2.1) "tuple" := fun x hx => by
    obtain ⟨_, _, _, _, _, _, _, g5, _⟩ := dd2
    obtain ⟨k1, _⟩ := g5 x hx
    have all : ∀ (l : List (NK × Addr × Value)) (m : List (NK × V)), PySem.Paired (NRel H) m l → ∀ y ∈ l, KeyV H (.ref y.2.1) y.1 := fun l m p => by
      induction p with
      | nil => intro y hy; cases hy
      | cons r _ ih =>
        intro y hy
        rcases List.mem_cons.mp hy with e | hy
        · rw [e, ← r.1]
          exact r.2.1
        · exact ih y hy
    have kv := all _ _ rel x hx
    obtain ⟨kx, ax, vx⟩ := x
    cases kv with
    | @tup _ vs ks ha _ =>
      obtain ⟨_, its, rv, o, g1, g2, n, g3⟩ := (show ObjOk X.prog X.w H s.heap ax (.tup vs) from I.hok ax _ ha)
      exact ⟨o, Heap.get?_push_of_some _ g1, g2⟩
  have hap : (xs.map fun x => (nestedKind X.prog X.w).hash x.1).Nodup := nodup_le1 _ hl
  refine ⟨hnew.typeIs, PySem.F.args_dict_init_2 _ _, ?_⟩
  unfold Builtin.«dict.__init__»
  refine wpAny_bind ?_
  unfold Builtin.Dict.selfAndRest
  refine wpAny_bind (wpAny_notOrdered_dict hnew.typeIs ?_)
  show wpAny _ _ (pure (s.heap.objs.size, [Value.ref a])) _ _ _
  refine wpAny_pure ?_
  show wpAny _ _ (Builtin.Dict.updateFrom "dict.__init__" s.heap.objs.size (.ref a) [] .none) _ _ _
  unfold Builtin.Dict.updateFrom
  refine wpAny_bind (wpAny_typeOf dd2.typeIs ?_)
  rw [if_neg (by decide)]
  refine wpAny_bind ?_
  unfold Builtin.Dict.merge
  refine wpAny_bind ?_
  unfold Builtin.Dict.readDirectly
  refine wpAny_bind (wpAny_isInstance dd2.typeIs isSubtype_dict_dict ?_)
  simp only [Bool.not_true, Bool.false_eq_true, if_false]
  refine wpAny_bind (wpAny_specialOf dd2.typeIs PySem.F.slot_dict_iter.lookup (wpAny_pure ?_))
  simp only [beq_self_eq_true, if_true]
  refine wpAny_bind (wpAny_pure ?_)
  refine wpAny_mergeDict_heap (knd := nestedKind X.prog X.w) (hsz := by simpa using hz) (by show _ + 1 + 1 + 8 < cLine; omega) hdo hm hnew dd2 (.inr ⟨hty, hap⟩) fun h' hd' _ hs' => ?_
  show wpAny _ _ (Builtin.Dict.addKeywords s.heap.objs.size [] >>= _) _ _ _
  rw [storedAllH_nil_of_nodup _ dd2.nodup] at hd'
  have fr : H s.heap.objs.size = none := I.hok.fresh (Nat.le_refl _)
  obtain ⟨n1, n2⟩ := nd_laid (kvs := kvs) (H := H) (h := s.heap) hd' (beq_eq_false_iff_ne.mpr (Ne.symm (Nat.ne_of_lt I.big))) hz rel (Ext.new fr).mo
  have kp : ∀ b ob, s.heap.get? b = some ob → h'.get? b = some ob := fun b ob e => by
    have ne : b ≠ s.heap.objs.size := fun z => absurd (Heap.lt_size e) (by rw [z]; exact Nat.lt_irrefl _)
    exact (hs'.2 b ne).trans (Heap.get?_push_of_some _ e)
  exact wpAny_bind (wpAny_pure (wpAny_pure ⟨rfl, .ref s.heap.objs.size, _, I.laid (t' := s.toks) kp (Nat.le_refl _) n1, rfl, q _ _ fr (Ext.new fr) n2⟩))
end
end Wc

set_option Elab.async false
set_option linter.all false
set_option maxRecDepth 100000
set_option maxHeartbeats 4000000
/-! the head's look with the module's dicts of text keys, too -/
namespace Wc
open PySem PySem.Spec PyProof.Rows L2
abbrev AlZ : Type := He.AlT × Bool
def obsZ (n : Nat) (fa : List He.Fa) (fn : List He.DefD) (ts : List He.Tab) (tf : List He.Defn) (ex : PySem.W.Frag → Bool) (g : Addr → Option Obj) : AlZ :=
  (He.obsT fa fn ts (He.frT g (asC g n)), ex (He.frT g (asC g n)) && He.tabsB g tf (He.frT g (asC g n)))
def valZ (fn : List He.DefD) (ts : List He.Tab) (w : World) : AlZ := (He.valT fn ts w, true)
structure SaysZ (fa : List He.Fa) (fn : List He.DefD) (ts : List He.Tab) (tf : List He.Defn) (ex : PySem.W.Frag → Bool) (w : World) (h : Heap) (K : PySem.W.Frag) : Prop where
  t : He.SaysT fa fn ts w K
  more : ex K = true
  hd : ∀ p ∈ tf, PySem.W.codeHdIn K (He.cT K p).1 (He.cT K p).2 = true
  out : ∀ p ∈ tf, K.lookup (He.cT K p).2 = none
  empty : ∀ p ∈ tf, h.get? (He.cT K p).2 = some { cls := .none, data := .fields #[] }
theorem saysZ_of {n : Nat} {fa : List He.Fa} {fn : List He.DefD} {ts : List He.Tab} {tf : List He.Defn} {ex : PySem.W.Frag → Bool} {w : World} {h : Heap} (e : obsZ n fa fn ts tf ex h.get? = valZ fn ts w) : SaysZ fa fn ts tf ex w h (He.frT h.get? (asC h.get? n)) := by
  have e1 : He.obsT fa fn ts (He.frT h.get? (asC h.get? n)) = He.valT fn ts w := congrArg (fun z : AlZ => z.1) e
  have e2 : (ex (He.frT h.get? (asC h.get? n)) && He.tabsB h.get? tf (He.frT h.get? (asC h.get? n))) = true := congrArg (fun z : AlZ => z.2) e
  obtain ⟨h1, h2⟩ := He.ba e2
  have key : ∀ p ∈ tf, PySem.W.codeHdIn (He.frT h.get? (asC h.get? n)) (He.cT (He.frT h.get? (asC h.get? n)) p).1 (He.cT (He.frT h.get? (asC h.get? n)) p).2 = true ∧ ∃ o, h.get? (He.cT (He.frT h.get? (asC h.get? n)) p).2 = some o ∧ He.emptyTab o = true := fun p hp => by
    obtain ⟨h3, h4⟩ := He.ba (List.all_eq_true.mp h2 p hp)
    refine ⟨h3, ?_⟩
    cases q : h.get? (He.cT (He.frT h.get? (asC h.get? n)) p).2 with
    | none =>
      rw [q] at h4
      cases h4
    | some o =>
      rw [q] at h4
      exact ⟨o, rfl, h4⟩
  exact ⟨e1, h1, fun p hp => (key p hp).1, fun p hp => by
    obtain ⟨_, o, q, z⟩ := key p hp
    exact He.frT_none q z, fun p hp => by
    obtain ⟨_, o, q, z⟩ := key p hp
    rw [q, He.emptyTab_eq z]⟩
def hookZ (n : Nat) (fa : List He.Fa) (fn : List He.DefD) (ts : List He.Tab) (tf : List He.Defn) (ex : PySem.W.Frag → Bool) : PySem.W.Hook where
  α := AlZ
  obs := fun s => obsZ n fa fn ts tf ex s.heap.get?
  val := fun w => valZ fn ts w
  says := fun w h => ∃ K : PySem.W.Frag, K.In h ∧ SaysZ fa fn ts tf ex w h K
  of := fun _ _ e => ⟨_, He.frT_in, saysZ_of e⟩
  keeps := fun _ _ _ ⟨K, hK, c⟩ k => ⟨K, PySem.W.Frag.In.keeps hK k, ⟨c.t, c.more, c.hd, c.out, fun p hp => k _ _ (c.empty p hp)⟩⟩
theorem obsZ_eq {n : Nat} {fa : List He.Fa} {fn : List He.DefD} {ts : List He.Tab} {tf : List He.Defn} {ex : PySem.W.Frag → Bool} {g : Addr → Option Obj} {s : Shared} (h : ∀ a, g a = s.heap.get? a) : obsZ n fa fn ts tf ex g = (hookZ n fa fn ts tf ex).obs s := by
  have e : g = s.heap.get? := funext h
  rw [e] <;> rfl
section
variable {fa : List He.Fa} {fn : List He.DefD} {ts : List He.Tab} {tf : List He.Defn} {ex : PySem.W.Frag → Bool} {w : World} {h : Heap} {K : PySem.W.Frag}
theorem SaysZ.fact (c : SaysZ fa fn ts tf ex w h K) {f : He.Fa} (hf : f ∈ fa) : f.ok K = true := c.t.d.facts hf
theorem SaysZ.def_ (c : SaysZ fa fn ts tf ex w h K) {d : He.DefD} (hd : d ∈ fn) : ∃ fd, FunD K d.name d.qual d.params d.body d.scope (d.dvs K) (d.kws K) (He.fAd K d.at_) fd := c.t.d.defs hd
/-- the keys of a dict of the module -/
theorem dicW_more {P : Params} {a : Addr} {ks : List Str} (e : He.dicW K a = some (He.keysIn P ks)) {es : Array DictEntry} {n : Nat} (hl : K.lookup a = some ⟨.type "dict", none, .dict es n, #[]⟩) : es.toList.map He.keyOf = He.keysIn P ks := by
  unfold He.dicW at e
  rw [hl] at e
  dsimp only at e
  split at e
  · exact Option.some.inj e
  · cases e
theorem SaysZ.tab (c : SaysZ fa fn ts tf ex w h K) (i : Nat) {t : He.Tab} (ht : ts[i]? = some t := by rfl) : ∃ es n, KDict K w (t.1 K) es n ∧ es.toList.map He.keyOf = He.keysIn w.params t.2 := by
  obtain ⟨es, n, D⟩ := c.t.tab i ht
  have e : ts.map (fun t => He.dicW K (t.1 K)) = ts.map fun t => some (He.keysIn w.params t.2) := congrArg (fun z : He.AlT => z.2) c.t
  have e2 : (ts.map fun t => He.dicW K (t.1 K))[i]? = (ts.map fun t => some (He.keysIn w.params t.2))[i]? := by rw [e]
  rw [List.getElem?_map, List.getElem?_map, ht] at e2
  exact ⟨es, n, D, dicW_more (Option.some.inj e2) D.at_⟩
end
end Wc

set_option Elab.async false
set_option linter.all false
set_option maxRecDepth 100000
set_option maxHeartbeats 1000000
/-! dicts and tuples of the module's top, read; lists of any items -/
namespace Wc
open PySem PySem.Spec PyProof.Rows L2
/-! ### what the written part says -/
def litB : Value → V → Bool
  | .int i _, .int j => decide (i = j)
  | .str x _, .str y => decide (x = y)
  | _, _ => false
theorem litB_ok {u : Value} {v : V} (h : litB u v = true) : RelV v u := by
  unfold litB at h
  split at h
  · rw [of_decide_eq_true h]
    exact ⟨_, rfl⟩
  · rw [of_decide_eq_true h]
    exact ⟨_, rfl⟩
  · cases h
def litsB : List Value → List V → Bool
  | [], [] => true
  | u :: us, v :: vs => litB u v && litsB us vs
  | _, _ => false
theorem litsB_ok : ∀ {us : List Value} {vs : List V}, litsB us vs = true → Vals vs us
  | [], [], _ => .nil
  | u :: us, v :: vs, h => by
    obtain ⟨h1, h2⟩ := He.ba (show (litB u v && litsB us vs) = true from h)
    exact .cons (litB_ok h1) (litsB_ok h2)
  | [], _ :: _, h => by cases h
  | _ :: _, [], h => by cases h
def seqB (K : PySem.W.Frag) (t : Addr) (vs : List V) : Bool := match K.lookup t with
  | some ⟨.type c, _, .seq its _, _⟩ => decide (c = "tuple") && (decide (its.size ≤ 1000) && litsB its.toList vs)
  | _ => false
theorem seqB_ok {K : PySem.W.Frag} {t : Addr} {vs : List V} (h : seqB K t vs = true) (H : Hp) : SqT K H t vs := by
  unfold seqB at h
  split at h
  · rename_i c od its n sl e
    obtain ⟨h1, h2⟩ := He.ba h
    obtain ⟨h2, h3⟩ := He.ba h2
    have ec := of_decide_eq_true h1
    subst ec
    exact .inr ⟨_, its, n, e, rfl, rfl, by have := of_decide_eq_true h2; rw [sizeLine_eq]; omega, litsB_ok h3⟩
  · cases h
def dictB (K : PySem.W.Frag) (d : Addr) (kvs : List (Str × V)) : Bool := kvs.all fun p => match PySem.W.nsIn K d p.1 with
  | some (some u) => litB u p.2
  | _ => false
def dictTB (K : PySem.W.Frag) (d : Addr) (kvs : List (Str × List V)) : Bool := kvs.all fun p => match PySem.W.nsIn K d p.1 with
  | some (some (.ref t)) => seqB K t p.2
  | _ => false
/-- what a dict of the top holds -/
def assocV {α : Type} (kvs : List (Str × α)) (z : Str) : Option α := (kvs.find? fun p => decide (p.1 = z)).map (·.2)
theorem nsIn_none {K : PySem.W.Frag} {a : Addr} {es : Array DictEntry} {n : Nat} {P : Params} {ks : List Str} {z : Str} (hl : K.lookup a = some ⟨.type "dict", none, .dict es n, #[]⟩) (hk : es.toList.map He.keyOf = He.keysIn P ks) (hz : z ∉ ks) : PySem.W.nsIn K a z = some none := by
  have key : ∀ (l : List DictEntry) (ks : List Str), l.map He.keyOf = He.keysIn P ks → z ∉ ks → l.find? (·.key.isStr z) = none ∧ l.any (·.refKey) = false := by
    intro l
    induction l with
    | nil => intro ks _ _; exact ⟨rfl, rfl⟩
    | cons e r ih =>
      intro ks h hz
      cases ks with
      | nil => cases h
      | cons k ks =>
        have h1 : He.keyOf e :: r.map He.keyOf = some (k, PyData.keyHash P k) :: He.keysIn P ks := h
        injection h1 with h2 h3
        obtain ⟨i1, i2⟩ := ih ks h3 (fun m => hz (List.mem_cons_of_mem _ m))
        unfold He.keyOf at h2
        split at h2
        · rename_i x t q
          obtain ⟨h5, h6⟩ := Prod.mk.inj (Option.some.inj h2)
          have ne : e.key.isStr z = false := by
            rw [q]
            show (x == z) = false
            rw [h5]
            exact beq_eq_false_iff_ne.mpr fun w => hz (by rw [← w]; exact List.mem_cons_self)
          have nr : e.refKey = false := by
            unfold DictEntry.refKey
            rw [q] <;> rfl
          refine ⟨?_, ?_⟩
          · rw [List.find?_cons, ne]
            exact i1
          · rw [List.any_cons, nr, i2] <;> rfl
        · cases h2
  obtain ⟨k1, k2⟩ := key _ _ hk hz
  unfold PySem.W.nsIn
  rw [hl]
  dsimp only
  rw [k1, k2]
  rfl
/-- d: a dict of the top, at every text -/
structure KD (K : PySem.W.Frag) (w : World) (d : Addr) (f : Str → Option Value → Prop) : Prop where
  ex : ∃ es n, KDict K w d es n
  get : ∀ z, ∃ r, PySem.W.nsIn K d z = some r ∧ f z r
theorem assoc_mem {α : Type} {kvs : List (Str × α)} {z : Str} {v : α} (h : assocV kvs z = some v) : (z, v) ∈ kvs := by
  unfold assocV at h
  obtain ⟨p, hp, e⟩ := Option.map_eq_some_iff.mp h
  have h1 := List.mem_of_find?_eq_some hp
  have h2 : p.1 = z := by simpa using List.find?_some hp
  obtain ⟨a, b⟩ := p
  dsimp only at h2 e
  rw [← h2, ← e]
  exact h1
theorem assoc_none {α : Type} {kvs : List (Str × α)} {z : Str} (h : assocV kvs z = none) : z ∉ kvs.map (·.1) := fun m => by
  unfold assocV at h
  rw [Option.map_eq_none_iff] at h
  obtain ⟨p, hp, e⟩ := List.mem_map.mp m
  exact List.find?_eq_none.mp h p hp (decide_eq_true e)
theorem kd_of {K : PySem.W.Frag} {w : World} {d : Addr} {kvs : List (Str × V)} (h : ∃ es n, KDict K w d es n ∧ es.toList.map He.keyOf = He.keysIn w.params (kvs.map (·.1))) (hb : dictB K d kvs = true) : KD K w d (fun z r => RelO (assocV kvs z) r) := by
  obtain ⟨es, n, D, hk⟩ := h
  refine ⟨⟨es, n, D⟩, fun z => ?_⟩
  cases q : assocV kvs z with
  | none => exact ⟨none, nsIn_none D.at_ hk (assoc_none q), True.intro⟩
  | some v =>
    have h2 := List.all_eq_true.mp hb _ (assoc_mem q)
    split at h2
    · rename_i u e
      exact ⟨some u, e, litB_ok h2⟩
    · cases h2
/-- .. whose values are tuples -/
theorem kdT_of {K : PySem.W.Frag} {w : World} {d : Addr} {kvs : List (Str × List V)} (h : ∃ es n, KDict K w d es n ∧ es.toList.map He.keyOf = He.keysIn w.params (kvs.map (·.1))) (hb : dictTB K d kvs = true) :
    KD K w d (fun z r => match assocV kvs z with | none => r = none | some xs => ∃ t, r = some (.ref t) ∧ ∀ H, SqT K H t xs) := by
  obtain ⟨es, n, D, hk⟩ := h
  refine ⟨⟨es, n, D⟩, fun z => ?_⟩
  cases q : assocV kvs z with
  | none => exact ⟨none, nsIn_none D.at_ hk (assoc_none q), rfl⟩
  | some v =>
    have h2 := List.all_eq_true.mp hb _ (assoc_mem q)
    split at h2
    · rename_i t e
      exact ⟨_, e, t, rfl, seqB_ok h2⟩
    · cases h2
/-! ### the rules -/
def tKGet (K : PySem.W.Frag) (w : World) (td ty tx : TE) : TE := fun σ H Q => td σ H fun x H1 => ∃ a, x = .ref a ∧ (∃ es n, KDict K w a es n) ∧ ty σ H1 fun y H2 => tx σ H2 fun z H3 => ∃ s r o, y = .str s ∧ PySem.W.nsIn K a s = some r ∧ RelO o r ∧ Q (o.getD z) H3
theorem pe_kget {X : Cx} {o e f : Expr} {apos cpos : Pos} {td ty tx : TE} (ho : PE X o td) (he : PE X e ty) (hf : PE X f tx) (m : M2 X o "get" apos e f cpos) : PE X (.Call (.Attribute o "get" apos) [e, f] [] cpos) (tKGet X.K X.w td ty tx) := by
  refine ⟨fun pins s σ H Q I h => ?_⟩
  refine wpAny_Call_method m.base m.few m.line PySem.F.plainAttrs_dict PySem.F.slot_dict_get PySem.F.type_dict_get (thn (ho.run pins s σ H _ I h) fun u s1 ⟨x, H1, I1, rx, a, ex, ⟨es, n, D⟩, q1⟩ => ?_)
  subst ex
  obtain rfl : u = Value.ref a := rx
  refine ⟨kd_type D I1, fun b q => ?_, ?_⟩
  · cases q
    exact ⟨_, I1.kIn _ _ D.at_, rfl⟩
  rw [m.trees]
  refine Calls.callWith_builtin rfl (Calls.evalArgs_plain (Calls.spliced_cons (thn (he.run pins s1 σ H1 _ I1 q1) fun iv s2 ⟨y, H2, I2, ry, q2⟩ =>
    Calls.spliced_cons (thn (hf.run pins s2 σ H2 _ I2 q2) fun fv s3 ⟨z, H3, I3, rz, sx, r, ov, ey, hr, ro, q3⟩ => Calls.spliced_nil ?_))))
  subst ey
  obtain ⟨t, rfl⟩ := (show ∃ t, iv = Value.str sx t from ry)
  have mo := PySem.W.mapOf_K (prog := X.prog) (w := X.w) I3.kIn D.at_ D.lit
  refine call_meetsIn PySem.F.slot_dict_get mo.typeIs PySem.F.entry_dict_get (PySem.F.args_dict_get_3 _ _ _) (meets_dict_get_default (strKind X.prog X.w) a (strKind_is X.prog X.w sx t) D.low fv) ⟨_, mo, ?_⟩
  rw [PySem.W.find_K D.at_ hr]
  exact ⟨_, H3, I3.tok _, RelO.getD ro rz, q3⟩
end Wc

set_option Elab.async false
set_option linter.all false
set_option maxRecDepth 100000
set_option maxHeartbeats 1000000
/-! bodies: objects as trees; which of their parts is not valid -/
namespace Wc
open PySem PySem.Spec PyProof.Rows L2
/-! ### == (), != [] -/
def rEq0 (K : PySem.W.Frag) : R2 := fun x y H Q => ∃ a b xs, x = .ref a ∧ y = .ref b ∧ SqT K H a xs ∧ SqT K H b [] ∧ Q (.bl xs.isEmpty) H
theorem op_eq0 {X : Cx} {j : Nat} (hr : Room j X.A) : OpR X (compareOp .Eq) (rEq0 X.K) := by
  intro pins s σ H x y v u Q I rx ry h
  obtain ⟨a, b, xs, rfl, rfl, ha, hb, q⟩ := h
  obtain rfl : v = Value.ref a := rx
  obtain rfl : u = Value.ref b := ry
  obtain ⟨its, r1, p1, _⟩ := I.tuple ha
  obtain ⟨its2, r2, p2, _⟩ := I.tuple hb
  cases r2
  have hu := un1 hr
  refine SeqAt.eq_tupleAt (e := fun _ => true) p1 p2 (by show X.A.units < cLine; omega) (fun j h1 h2 => absurd h2 (by simp)) ?_
  have e : ((List.range (min its.toArray.size ([] : List Value).toArray.size)).all (fun _ => true) && its.toArray.size == ([] : List Value).toArray.size) = xs.isEmpty := by
    cases r1 <;> simp
  rw [e]
  exact ⟨.bl xs.isEmpty, H, I, rfl, q⟩
def rNe0 (K : PySem.W.Frag) : R2 := fun x y H Q => ∃ a b xs, x = .ref a ∧ y = .ref b ∧ SqL K H a xs ∧ SqL K H b [] ∧ Q (.bl (!xs.isEmpty)) H
theorem op_ne0 {X : Cx} {j : Nat} (hr : Room j X.A) : OpR X (compareOp .NotEq) (rNe0 X.K) := by
  intro pins s σ H x y v u Q I rx ry h
  obtain ⟨a, b, xs, rfl, rfl, ha, hb, q⟩ := h
  obtain rfl : v = Value.ref a := rx
  obtain rfl : u = Value.ref b := ry
  obtain ⟨its, r1, p1, _⟩ := I.list ha
  obtain ⟨its2, r2, p2, _⟩ := I.list hb
  cases r2
  have hu := un1 hr
  cases xs with
  | nil =>
    cases r1
    refine SeqAt.RcNeAt.lists (e := fun _ => true) p1.isList p2.isList rfl (by show X.A.units < cLine; omega) (fun j h1 h2 => absurd h2 (by simp)) X.prog X.w _ _ ?_
    exact ⟨.bl false, H, I, rfl, q⟩
  | cons x xs =>
    cases r1 with
    | cons _ t =>
      refine SeqAt.RcNeAt.lists_lengths p1.isList p2.isList (by simp) (by show X.A.units < cLine; omega) X.prog X.w _ _ ?_
      exact ⟨.bl true, H, I, rfl, q⟩
/-! ### objects as trees -/
inductive Dt where
  | str (s : Str)
  | int (i : Int)
  | oth
  | tup (l : List Dt)
mutual
/-- the value v, in the heap H, is the tree d -/
inductive DtAt (K : PySem.W.Frag) (H : Hp) : V → Dt → Prop
  | str {s : Str} (h : s.length ≤ 1000) : DtAt K H (.str s) (.str s)
  | int (i : Int) : DtAt K H (.int i) (.int i)
  | oth {v : V} {t : Value} {b : Bool} (th : Th K H v none) (hs : Wc.isS v = false) (ty : TyX K H v t) (k1 : PySem.W.kitOne K t (.type "int") = some b) (k2 : PySem.W.kitOne K t (.type "bool") = some b) : DtAt K H v .oth
  | tup {a : Addr} {vs : List V} {ds : List Dt} (h : H a = some (.tup vs)) (hl : vs.length ≤ 1000) (t : DtAll K H vs ds) : DtAt K H (.ref a) (.tup ds)
inductive DtAll (K : PySem.W.Frag) (H : Hp) : List V → List Dt → Prop
  | nil : DtAll K H [] []
  | cons {v : V} {d : Dt} {vs : List V} {ds : List Dt} (h : DtAt K H v d) (t : DtAll K H vs ds) : DtAll K H (v :: vs) (d :: ds)
end
section
variable {K : PySem.W.Frag} {H : Hp}
theorem DtAll.length : ∀ {vs : List V} {ds : List Dt}, DtAll K H vs ds → vs.length = ds.length
  | _, _, .nil => rfl
  | _, _, .cons _ t => by rw [List.length_cons, List.length_cons, DtAll.length t]
theorem DtAll.get : ∀ {vs : List V} {ds : List Dt} {i : Nat} {d : Dt}, DtAll K H vs ds → ds[i]? = some d → ∃ v, vs[i]? = some v ∧ DtAt K H v d
  | _, _, _, _, .nil, e => by simp at e
  | _, _, 0, _, .cons h _, e => by
    simp at e
    subst e
    exact ⟨_, rfl, h⟩
  | _, _, i + 1, d, .cons _ t, e => by
    obtain ⟨x, h1, h2⟩ := DtAll.get (i := i) (d := d) t (by simpa using e)
    exact ⟨x, by simpa using h1, h2⟩
theorem DtAll.mem : ∀ {vs : List V} {ds : List Dt}, DtAll K H vs ds → ∀ v, v ∈ vs → ∃ d, d ∈ ds ∧ DtAt K H v d
  | _, _, .nil, v, hv => by cases hv
  | _, _, .cons h t, v, hv => by
    rcases List.mem_cons.mp hv with e | hv
    · rw [e]
      exact ⟨_, List.mem_cons_self, h⟩
    · obtain ⟨d, h1, h2⟩ := DtAll.mem t v hv
      exact ⟨d, List.mem_cons_of_mem _ h1, h2⟩
/-- its kind for isinstance -/
def tupOf : V → Dt → Hp → Option (List V)
  | .ref a, .tup _, H => match H a with
    | some (.tup vs) => some vs
    | _ => none
  | _, _, _ => none
theorem DtAt.th {v : V} {d : Dt} (h : DtAt K H v d) : ∃ tp, Th K H v tp ∧ ((∃ l, d = .tup l) ↔ tp.isSome = true) := by
  cases h with
  | str h => exact ⟨none, .str h, by simp⟩
  | int i => exact ⟨none, .int, by simp⟩
  | oth th _ _ _ _ => exact ⟨none, th, by simp⟩
  | tup h _ t => exact ⟨_, .tupl h, by simp⟩
def intD : Dt → Bool
  | .int _ => true
  | _ => false
def betD (lo hi : Int) : Dt → Bool
  | .int i => decide (lo ≤ i) && decide (i ≤ hi)
  | _ => false
def nameD : Dt → Bool
  | .str s => nameS s
  | _ => false
def clsD (T : List Cl) : Dt → Bool
  | .str s => nameS s && (findC T s).isSome
  | _ => false
theorem DtAt.name {v : V} {d : Dt} (h : DtAt K H v d) : nameV v = nameD d := by
  cases h with
  | str h => rfl
  | int i => rfl
  | oth th hs _ _ _ => exact nameV_of hs
  | tup h _ t => rfl
theorem DtAt.cls {T : List Cl} {v : V} {d : Dt} (h : DtAt K H v d) : clsV T v = clsD T d := by
  cases h with
  | str h => rfl
  | int i => rfl
  | oth th hs _ _ _ => exact clsV_of (nameV_of hs)
  | tup h _ t => rfl
/-- isinstance(v, int), isinstance(v, bool) -/
theorem DtAt.ints {v : V} {d : Dt} (h : DtAt K H v d) : ∃ t b, TyX K H v t ∧ PySem.W.kitOne K t (.type "int") = some (intD d || b) ∧ PySem.W.kitOne K t (.type "bool") = some b ∧ (intD d = true → b = false ∧ ∃ i, v = .int i) := by
  cases h with
  | str h => exact ⟨_, false, .base (.str _), kit_ty (show kitB "str" "int" = some false by decide +kernel), kit_ty (show kitB "str" "bool" = some false by decide +kernel), fun z => by cases z⟩
  | int i => exact ⟨_, false, .base (.int _), kit_ty (show kitB "int" "int" = some true by decide +kernel), kit_ty (show kitB "int" "bool" = some false by decide +kernel), fun _ => ⟨rfl, _, rfl⟩⟩
  | oth th hs ty k1 k2 => exact ⟨_, _, ty, k1, k2, fun z => by cases z⟩
  | tup h _ t => exact ⟨_, false, .base (.tup h), kit_ty (show kitB "tuple" "int" = some false by decide +kernel), kit_ty (show kitB "tuple" "bool" = some false by decide +kernel), fun z => by cases z⟩
end
/-! ### which parts are valid -/
/-- a part, the path that leads to it, and what may be named there -/
structure Pl where
  d : Dt
  path : List Nat
  count : Nat
  names : List Str
def LENS : List (Str × Nat) := [("int", 2), ("arg", 2), ("name", 2), ("let", 4), ("field", 3), ("add", 3), ("less", 3), ("is", 3), ("if", 4), ("define", 4)]
def WITH : List (Str × List Nat) := [("let", [2, 3]), ("field", [1]), ("add", [1, 2]), ("less", [1, 2]), ("is", [1]), ("if", [1, 2, 3]), ("define", [3])]
def isCallW (w : Str) : Bool := decide (w = "call") || decide (w = "newest")
def sigD (T : List Cl) : Dt → Bool
  | .tup l => (decide (l.length = 1) || decide (l.length = 2)) && l.all (clsD T)
  | _ => false
def callB (w : Str) (l : List Dt) : Bool := isCallW w && ((decide (l.length = 3) || decide (l.length = 4)) && nameD (l.getD 1 .oth))
def fieldsOf (T : List Cl) : Dt → Nat
  | .str s => match findC T s with
    | some c => c.all.length
    | none => 0
  | _ => 0
def isStrD (x : Str) : Dt → Bool
  | .str s => decide (s = x)
  | _ => false
def newB (T : List Cl) (w : Str) (l : List Dt) : Bool := decide (w = "new") && (decide (2 ≤ l.length) && (clsD T (l.getD 1 .oth) && (!isStrD "int" (l.getD 1 .oth) && decide (l.length = 2 + fieldsOf T (l.getD 1 .oth)))))
def nmB (names : List Str) : Dt → Bool
  | .str s => nameS s && names.contains s
  | _ => false
def leafB (count : Nat) (names : List Str) (w : Str) (x : Dt) : Bool :=
  if w = "int" then betD (-1000000000) 1000000000 x else if w = "arg" then betD 0 ((count : Int) - 1) x else nmB names x
def formB (T : List Cl) (p : Pl) (w : Str) (l : List Dt) : Bool :=
  callB w l || (newB T w l || (decide ((assocV LENS w).getD 0 = l.length) && (
    if w = "int" ∨ w = "arg" ∨ w = "name" then leafB p.count p.names w (l.getD 1 .oth)
    else if w = "let" then nameD (l.getD 1 .oth)
    else if w = "field" then nameD (l.getD 2 .oth)
    else if w = "is" then clsD T (l.getD 2 .oth)
    else (!decide (w = "define") || (nameD (l.getD 1 .oth) && sigD T (l.getD 2 .oth))))))
def validB (T : List Cl) (p : Pl) : Bool := match p.d with
  | .tup (.str w :: l) => formB T p w (.str w :: l)
  | _ => false
def withinI (w : Str) (n : Nat) : List Nat := if isCallW w ∨ w = "new" then (List.range (n - 2)).map (· + 2) else (assocV WITH w).getD []
def strD : Dt → Str
  | .str s => s
  | _ => ""
def placeAt (p : Pl) (w : Str) (l : List Dt) (i : Nat) : Pl :=
  ⟨l.getD i .oth, p.path ++ [i], if w = "define" then (match l.getD 2 .oth with | .tup s => s.length | _ => 0) else p.count, if w = "define" then [] else if w = "let" ∧ i = 3 then p.names ++ [strD (l.getD 1 .oth)] else p.names⟩
def placesB (p : Pl) : List Pl := match p.d with
  | .tup (.str w :: l) => (withinI w (l.length + 1)).map (placeAt p w (.str w :: l))
  | _ => []
/-- the path of the first part that is not valid; what waits, the next one first -/
def chk (T : List Cl) : Nat → List Pl → Option (List Nat)
  | _, [] => none
  | 0, _ :: _ => some []
  | n + 1, p :: st => if validB T p then chk T n (placesB p ++ st) else some p.path
end Wc

set_option Elab.async false
set_option linter.all false
set_option maxRecDepth 100000
set_option maxHeartbeats 1000000
/-! bodies: which forms are valid; how far a check comes; pure trees -/
namespace Wc
open PySem PySem.Spec PyProof.Rows L2
/-! ### trees of texts, integers and tuples alone -/
mutual
def pureD : Dt → Bool
  | .str s => decide (s.length ≤ 1000) && PyData.strOk s
  | .int _ => true
  | .oth => false
  | .tup l => decide (l.length ≤ 1000) && pureDs l
def pureDs : List Dt → Bool
  | [] => true
  | d :: l => pureD d && pureDs l
end
mutual
theorem dtMo {K : PySem.W.Frag} {H H' : Hp} (e : Mo H H') : ∀ (d : Dt) (v : V), pureD d = true → DtAt K H v d → DtAt K H' v d
  | .str s, _, _, h => by
    cases h with
    | str h => exact .str h
  | .int i, _, _, h => by
    cases h with
    | int => exact .int _
  | .oth, v, p, _ => by cases p
  | .tup ds, _, p, h => by
    cases h with
    | tup h hl t => exact .tup (e _ _ rfl h) hl (dtMoA e ds _ (He.ba (show (decide (ds.length ≤ 1000) && pureDs ds) = true from p)).2 t)
theorem dtMoA {K : PySem.W.Frag} {H H' : Hp} (e : Mo H H') : ∀ (ds : List Dt) (vs : List V), pureDs ds = true → DtAll K H vs ds → DtAll K H' vs ds
  | [], _, _, h => by
    cases h
    exact .nil
  | d :: ds, _, p, h => by
    obtain ⟨p1, p2⟩ := He.ba (show (pureD d && pureDs ds) = true from p)
    cases h with
    | cons h t => exact .cons (dtMo e d _ p1 h) (dtMoA e ds _ p2 t)
end
mutual
/-- as a key -/
def keyOf : Dt → NK
  | .str s => .text s
  | .int i => .num i
  | .oth => .none
  | .tup l => .tup (keysOf l)
def keysOf : List Dt → List NK
  | [] => []
  | d :: l => keyOf d :: keysOf l
end
mutual
theorem keyAt {K : PySem.W.Frag} {H : Hp} : ∀ (d : Dt) (v : V), pureD d = true → DtAt K H v d → KeyV H v (keyOf d)
  | .str s, _, _, h => by
    cases h with
    | str h => exact .str _
  | .int i, _, _, h => by
    cases h with
    | int => exact .int _
  | .oth, v, p, _ => by cases p
  | .tup ds, _, p, h => by
    cases h with
    | tup h hl t => exact .tup h (keyAtA ds _ (He.ba (show (decide (ds.length ≤ 1000) && pureDs ds) = true from p)).2 t)
theorem keyAtA {K : PySem.W.Frag} {H : Hp} : ∀ (ds : List Dt) (vs : List V), pureDs ds = true → DtAll K H vs ds → KeyVs H vs (keysOf ds)
  | [], _, _, h => by
    cases h
    exact .nil
  | d :: ds, _, p, h => by
    obtain ⟨p1, p2⟩ := He.ba (show (pureD d && pureDs ds) = true from p)
    cases h with
    | cons h t => exact .cons (keyAt d _ p1 h) (keyAtA ds _ p2 t)
end
mutual
/-- how deep tuples are nested -/
def dep : Dt → Nat
  | .tup l => deps l + 1
  | _ => 0
def deps : List Dt → Nat
  | [] => 0
  | d :: l => max (dep d) (deps l)
end
mutual
/-- as data -/
def datD : Dt → PyData
  | .str s => .str s
  | .int i => .int i
  | .oth => .none
  | .tup l => .tuple (datDs l)
def datDs : List Dt → List PyData
  | [] => []
  | d :: l => datD d :: datDs l
end
mutual
theorem datAt {K : PySem.W.Frag} {H : Hp} : ∀ (d : Dt) (v : V), pureD d = true → DtAt K H v d → Dp K H v (datD d)
  | .str s, _, _, h => by
    cases h with
    | str h => exact .str _
  | .int i, _, _, h => by
    cases h with
    | int => exact .int _
  | .oth, v, p, _ => by cases p
  | .tup ds, _, p, h => by
    cases h with
    | tup h hl t => exact .tup (SqT.of h) (datAtA ds _ (He.ba (show (decide (ds.length ≤ 1000) && pureDs ds) = true from p)).2 t)
theorem datAtA {K : PySem.W.Frag} {H : Hp} : ∀ (ds : List Dt) (vs : List V), pureDs ds = true → DtAll K H vs ds → DpAll K H vs (datDs ds)
  | [], _, _, h => by
    cases h
    exact .nil
  | d :: ds, _, p, h => by
    obtain ⟨p1, p2⟩ := He.ba (show (pureD d && pureDs ds) = true from p)
    cases h with
    | cons h t => exact .cons (datAt d _ p1 h) (datAtA ds _ p2 t)
end
mutual
theorem datD_can : ∀ d : Dt, pureD d = true → PyData.canLay0 (datD d) = true
  | .str s, p => by
    show PyData.canLay0 (.str s) = true
    simpa [PyData.canLay0] using (He.ba (show (decide (s.length ≤ 1000) && PyData.strOk s) = true from p)).2
  | .int i, _ => rfl
  | .oth, p => by cases p
  | .tup l, p => by
    show PyData.canLay0 (.tuple (datDs l)) = true
    simpa [PyData.canLay0] using datDs_can l (He.ba (show (decide (l.length ≤ 1000) && pureDs l) = true from p)).2
theorem datDs_can : ∀ l : List Dt, pureDs l = true → PyData.canLayAll0 (datDs l) = true
  | [], _ => rfl
  | d :: l, p => by
    obtain ⟨p1, p2⟩ := He.ba (show (pureD d && pureDs l) = true from p)
    show (PyData.canLay0 (datD d) && PyData.canLayAll0 (datDs l)) = true
    rw [datD_can d p1, datDs_can l p2] <;> rfl
end
mutual
theorem datD_dep : ∀ d : Dt, PyData.depth (datD d) = dep d
  | .str s => rfl
  | .int i => rfl
  | .oth => rfl
  | .tup l => by
    show PyData.depthAll (datDs l) + 1 = deps l + 1
    rw [datDs_dep l]
theorem datDs_dep : ∀ l : List Dt, PyData.depthAll (datDs l) = deps l
  | [] => rfl
  | d :: l => by
    show max (PyData.depth (datD d)) (PyData.depthAll (datDs l)) = max (dep d) (deps l)
    rw [datD_dep d, datDs_dep l]
end
theorem shapedD {d : Dt} (p : pureD d = true) (h : dep d ≤ 64) : SeqAt.shaped (datD d) = true := by
  show (PyData.canLay0 (datD d) && decide (PyData.depth (datD d) ≤ 64)) = true
  rw [datD_can d p, datD_dep d, decide_eq_true h] <;> rfl
/-! ### which forms are valid -/
theorem w_int : isCallW "int" = false ∧ ("int" : Str) ≠ "new" ∧ (assocV LENS "int").getD 0 = 2 := by decide +kernel
theorem w_arg : isCallW "arg" = false ∧ ("arg" : Str) ≠ "new" ∧ (assocV LENS "arg").getD 0 = 2 ∧ ("arg" : Str) ≠ "int" := by decide +kernel
theorem w_name : isCallW "name" = false ∧ ("name" : Str) ≠ "new" ∧ (assocV LENS "name").getD 0 = 2 ∧ ("name" : Str) ≠ "int" ∧ ("name" : Str) ≠ "arg" := by decide +kernel
theorem w_let : isCallW "let" = false ∧ ("let" : Str) ≠ "new" ∧ (assocV LENS "let").getD 0 = 4 ∧ ¬ (("let" : Str) = "int" ∨ ("let" : Str) = "arg" ∨ ("let" : Str) = "name") := by decide +kernel
theorem w_field : isCallW "field" = false ∧ ("field" : Str) ≠ "new" ∧ (assocV LENS "field").getD 0 = 3 ∧ ¬ (("field" : Str) = "int" ∨ ("field" : Str) = "arg" ∨ ("field" : Str) = "name") ∧ ("field" : Str) ≠ "let" := by decide +kernel
theorem w_is : isCallW "is" = false ∧ ("is" : Str) ≠ "new" ∧ (assocV LENS "is").getD 0 = 3 ∧ ¬ (("is" : Str) = "int" ∨ ("is" : Str) = "arg" ∨ ("is" : Str) = "name") ∧ ("is" : Str) ≠ "let" ∧ ("is" : Str) ≠ "field" := by decide +kernel
theorem w_add : isCallW "add" = false ∧ ("add" : Str) ≠ "new" ∧ (assocV LENS "add").getD 0 = 3 ∧ ¬ (("add" : Str) = "int" ∨ ("add" : Str) = "arg" ∨ ("add" : Str) = "name") ∧ ("add" : Str) ≠ "let" ∧ ("add" : Str) ≠ "field" ∧ ("add" : Str) ≠ "is" ∧ ("add" : Str) ≠ "define" := by decide +kernel
theorem w_less : isCallW "less" = false ∧ ("less" : Str) ≠ "new" ∧ (assocV LENS "less").getD 0 = 3 ∧ ¬ (("less" : Str) = "int" ∨ ("less" : Str) = "arg" ∨ ("less" : Str) = "name") ∧ ("less" : Str) ≠ "let" ∧ ("less" : Str) ≠ "field" ∧ ("less" : Str) ≠ "is" ∧ ("less" : Str) ≠ "define" := by decide +kernel
theorem w_if : isCallW "if" = false ∧ ("if" : Str) ≠ "new" ∧ (assocV LENS "if").getD 0 = 4 ∧ ¬ (("if" : Str) = "int" ∨ ("if" : Str) = "arg" ∨ ("if" : Str) = "name") ∧ ("if" : Str) ≠ "let" ∧ ("if" : Str) ≠ "field" ∧ ("if" : Str) ≠ "is" ∧ ("if" : Str) ≠ "define" := by decide +kernel
theorem w_define : isCallW "define" = false ∧ ("define" : Str) ≠ "new" ∧ (assocV LENS "define").getD 0 = 4 ∧ ¬ (("define" : Str) = "int" ∨ ("define" : Str) = "arg" ∨ ("define" : Str) = "name") ∧ ("define" : Str) ≠ "let" ∧ ("define" : Str) ≠ "field" ∧ ("define" : Str) ≠ "is" := by decide +kernel
theorem w_new : isCallW "new" = false ∧ (assocV LENS "new").getD 0 = 0 := by decide +kernel
section
variable {T : List Cl} {p : List Nat} {c : Nat} {ns : List Str} {a b d e : Dt} {x y : Str}
/-- what is left of the form where it is neither a call nor a new part -/
theorem formB_of {pl : Pl} {w : Str} {l : List Dt} (h1 : isCallW w = false) (h2 : w ≠ "new") : formB T pl w l = (decide ((assocV LENS w).getD 0 = l.length) && (
    if w = "int" ∨ w = "arg" ∨ w = "name" then leafB pl.count pl.names w (l.getD 1 .oth)
    else if w = "let" then nameD (l.getD 1 .oth)
    else if w = "field" then nameD (l.getD 2 .oth)
    else if w = "is" then clsD T (l.getD 2 .oth)
    else (!decide (w = "define") || (nameD (l.getD 1 .oth) && sigD T (l.getD 2 .oth))))) := by
  unfold formB callB newB
  rw [h1, decide_eq_false h2]
  rfl
theorem v_int {i : Int} : validB T ⟨.tup [.str "int", .int i], p, c, ns⟩ = (decide ((-1000000000 : Int) ≤ i) && decide (i ≤ 1000000000)) := by
  show formB T _ "int" [.str "int", .int i] = _
  rw [formB_of w_int.1 w_int.2.1, w_int.2.2, if_pos (.inl rfl)]
  show leafB c ns "int" (.int i) = _
  unfold leafB
  rw [if_pos rfl] <;> rfl
theorem v_arg {i : Int} : validB T ⟨.tup [.str "arg", .int i], p, c, ns⟩ = (decide (0 ≤ i) && decide (i ≤ (c : Int) - 1)) := by
  show formB T _ "arg" [.str "arg", .int i] = _
  rw [formB_of w_arg.1 w_arg.2.1, w_arg.2.2.1, if_pos (.inr (.inl rfl))]
  show leafB c ns "arg" (.int i) = _
  unfold leafB
  rw [if_neg w_arg.2.2.2, if_pos rfl] <;> rfl
theorem v_name : validB T ⟨.tup [.str "name", .str x], p, c, ns⟩ = (nameS x && ns.contains x) := by
  show formB T _ "name" [.str "name", .str x] = _
  rw [formB_of w_name.1 w_name.2.1, w_name.2.2.1, if_pos (.inr (.inr rfl))]
  show leafB c ns "name" (.str x) = _
  unfold leafB
  rw [if_neg w_name.2.2.2.1, if_neg w_name.2.2.2.2] <;> rfl
theorem v_let : validB T ⟨.tup [.str "let", a, b, d], p, c, ns⟩ = nameD a := by
  show formB T _ "let" [.str "let", a, b, d] = _
  rw [formB_of w_let.1 w_let.2.1, w_let.2.2.1, if_neg w_let.2.2.2, if_pos rfl] <;> rfl
theorem v_field : validB T ⟨.tup [.str "field", a, b], p, c, ns⟩ = nameD b := by
  show formB T _ "field" [.str "field", a, b] = _
  rw [formB_of w_field.1 w_field.2.1, w_field.2.2.1, if_neg w_field.2.2.2.1, if_neg w_field.2.2.2.2, if_pos rfl] <;> rfl
theorem v_is : validB T ⟨.tup [.str "is", a, b], p, c, ns⟩ = clsD T b := by
  show formB T _ "is" [.str "is", a, b] = _
  rw [formB_of w_is.1 w_is.2.1, w_is.2.2.1, if_neg w_is.2.2.2.1, if_neg w_is.2.2.2.2.1, if_neg w_is.2.2.2.2.2, if_pos rfl] <;> rfl
theorem v_add : validB T ⟨.tup [.str "add", a, b], p, c, ns⟩ = true := by
  show formB T _ "add" [.str "add", a, b] = _
  obtain ⟨h1, h2, h3, h4, h5, h6, h7, h8⟩ := w_add
  rw [formB_of h1 h2, h3, if_neg h4, if_neg h5, if_neg h6, if_neg h7, decide_eq_false h8] <;> rfl
theorem v_less : validB T ⟨.tup [.str "less", a, b], p, c, ns⟩ = true := by
  show formB T _ "less" [.str "less", a, b] = _
  obtain ⟨h1, h2, h3, h4, h5, h6, h7, h8⟩ := w_less
  rw [formB_of h1 h2, h3, if_neg h4, if_neg h5, if_neg h6, if_neg h7, decide_eq_false h8] <;> rfl
theorem v_if : validB T ⟨.tup [.str "if", a, b, d], p, c, ns⟩ = true := by
  show formB T _ "if" [.str "if", a, b, d] = _
  obtain ⟨h1, h2, h3, h4, h5, h6, h7, h8⟩ := w_if
  rw [formB_of h1 h2, h3, if_neg h4, if_neg h5, if_neg h6, if_neg h7, decide_eq_false h8] <;> rfl
theorem v_define : validB T ⟨.tup [.str "define", a, b, d], p, c, ns⟩ = (nameD a && sigD T b) := by
  show formB T _ "define" [.str "define", a, b, d] = _
  obtain ⟨h1, h2, h3, h4, h5, h6, h7⟩ := w_define
  rw [formB_of h1 h2, h3, if_neg h4, if_neg h5, if_neg h6, if_neg h7, decide_eq_true rfl] <;> rfl
theorem v_call {w : Str} {l : List Dt} (h : isCallW w = true) (hx : nameD a = true) (hl : l.length = 1 ∨ l.length = 2) : validB T ⟨.tup (.str w :: a :: l), p, c, ns⟩ = true := by
  show formB T _ w (.str w :: a :: l) = _
  unfold formB
  have e : callB w (.str w :: a :: l) = true := by
    unfold callB
    rw [h]
    show (true && ((decide (l.length + 1 + 1 = 3) || decide (l.length + 1 + 1 = 4)) && nameD a)) = true
    rw [hx]
    rcases hl with q | q <;> rw [q] <;> rfl
  rw [e] <;> rfl
theorem isCall_call : isCallW "call" = true ∧ isCallW "newest" = true := by decide +kernel
theorem pl_leaf {w : Str} {l : List Dt} (h : withinI w (l.length + 1) = []) : placesB ⟨.tup (.str w :: l), p, c, ns⟩ = [] := by
  show (withinI w (l.length + 1)).map _ = []
  rw [h] <;> rfl
theorem in_int : withinI "int" 2 = [] ∧ withinI "arg" 2 = [] ∧ withinI "name" 2 = [] := by decide +kernel
theorem in_two : withinI "let" 4 = [2, 3] ∧ withinI "field" 3 = [1] ∧ withinI "is" 3 = [1] ∧ withinI "add" 3 = [1, 2] ∧ withinI "less" 3 = [1, 2] ∧ withinI "if" 4 = [1, 2, 3] ∧ withinI "define" 4 = [3] := by decide +kernel
theorem in_call {w : Str} (h : isCallW w = true) : withinI w 3 = [2] ∧ withinI w 4 = [2, 3] := by
  unfold withinI
  rw [if_pos (.inl h), if_pos (.inl h)]
  exact ⟨rfl, rfl⟩
theorem placeAt_plain {pl : Pl} {w : Str} {l : List Dt} {i : Nat} (n : w ≠ "define") (m : ¬ (w = "let" ∧ i = 3)) : placeAt pl w l i = ⟨l.getD i .oth, pl.path ++ [i], pl.count, pl.names⟩ := by
  unfold placeAt
  rw [if_neg n, if_neg n, if_neg m]
theorem p_let : placesB ⟨.tup [.str "let", .str x, b, d], p, c, ns⟩ = [⟨b, p ++ [2], c, ns⟩, ⟨d, p ++ [3], c, ns ++ [x]⟩] := by
  show (withinI "let" 4).map (placeAt _ "let" [.str "let", .str x, b, d]) = _
  rw [in_two.1]
  have n : ("let" : Str) ≠ "define" := by decide +kernel
  show [placeAt _ "let" _ 2, placeAt _ "let" _ 3] = _
  rw [placeAt_plain n (fun z => absurd z.2 (by decide))]
  unfold placeAt
  rw [if_neg n, if_neg n, if_pos ⟨rfl, rfl⟩] <;> rfl
theorem p_field : placesB ⟨.tup [.str "field", a, b], p, c, ns⟩ = [⟨a, p ++ [1], c, ns⟩] := by
  show (withinI "field" 3).map (placeAt _ "field" [.str "field", a, b]) = _
  rw [in_two.2.1]
  have n : ("field" : Str) ≠ "define" := by decide +kernel
  have m : ("field" : Str) ≠ "let" := by decide +kernel
  show [placeAt _ "field" _ 1] = _
  rw [placeAt_plain n (fun z => m z.1)] <;> rfl
theorem p_is : placesB ⟨.tup [.str "is", a, b], p, c, ns⟩ = [⟨a, p ++ [1], c, ns⟩] := by
  show (withinI "is" 3).map (placeAt _ "is" [.str "is", a, b]) = _
  rw [in_two.2.2.1]
  have n : ("is" : Str) ≠ "define" := by decide +kernel
  have m : ("is" : Str) ≠ "let" := by decide +kernel
  show [placeAt _ "is" _ 1] = _
  rw [placeAt_plain n (fun z => m z.1)] <;> rfl
theorem p_add : placesB ⟨.tup [.str "add", a, b], p, c, ns⟩ = [⟨a, p ++ [1], c, ns⟩, ⟨b, p ++ [2], c, ns⟩] := by
  show (withinI "add" 3).map (placeAt _ "add" [.str "add", a, b]) = _
  rw [in_two.2.2.2.1]
  have n : ("add" : Str) ≠ "define" := by decide +kernel
  have m : ("add" : Str) ≠ "let" := by decide +kernel
  show [placeAt _ "add" _ 1, placeAt _ "add" _ 2] = _
  rw [placeAt_plain n (fun z => m z.1), placeAt_plain n (fun z => m z.1)] <;> rfl
theorem p_less : placesB ⟨.tup [.str "less", a, b], p, c, ns⟩ = [⟨a, p ++ [1], c, ns⟩, ⟨b, p ++ [2], c, ns⟩] := by
  show (withinI "less" 3).map (placeAt _ "less" [.str "less", a, b]) = _
  rw [in_two.2.2.2.2.1]
  have n : ("less" : Str) ≠ "define" := by decide +kernel
  have m : ("less" : Str) ≠ "let" := by decide +kernel
  show [placeAt _ "less" _ 1, placeAt _ "less" _ 2] = _
  rw [placeAt_plain n (fun z => m z.1), placeAt_plain n (fun z => m z.1)] <;> rfl
theorem p_if : placesB ⟨.tup [.str "if", a, b, d], p, c, ns⟩ = [⟨a, p ++ [1], c, ns⟩, ⟨b, p ++ [2], c, ns⟩, ⟨d, p ++ [3], c, ns⟩] := by
  show (withinI "if" 4).map (placeAt _ "if" [.str "if", a, b, d]) = _
  rw [in_two.2.2.2.2.2.1]
  have n : ("if" : Str) ≠ "define" := by decide +kernel
  have m : ("if" : Str) ≠ "let" := by decide +kernel
  show [placeAt _ "if" _ 1, placeAt _ "if" _ 2, placeAt _ "if" _ 3] = _
  rw [placeAt_plain n (fun z => m z.1), placeAt_plain n (fun z => m z.1), placeAt_plain n (fun z => m z.1)] <;> rfl
theorem p_define {l : List Dt} : placesB ⟨.tup [.str "define", a, .tup l, d], p, c, ns⟩ = [⟨d, p ++ [3], l.length, []⟩] := by
  show (withinI "define" 4).map (placeAt _ "define" [.str "define", a, .tup l, d]) = _
  rw [in_two.2.2.2.2.2.2]
  show [placeAt _ "define" _ 3] = _
  unfold placeAt
  rw [if_pos rfl, if_pos rfl] <;> rfl
theorem call_ne {w : Str} (h : isCallW w = true) : w ≠ "define" ∧ w ≠ "let" := by
  refine ⟨fun e => ?_, fun e => ?_⟩ <;> (rw [e] at h; revert h; decide +kernel)
theorem p_call1 {w : Str} (h : isCallW w = true) : placesB ⟨.tup [.str w, a, b], p, c, ns⟩ = [⟨b, p ++ [2], c, ns⟩] := by
  show (withinI w 3).map (placeAt _ w [.str w, a, b]) = _
  obtain ⟨n, m⟩ := call_ne h
  rw [(in_call h).1]
  show [placeAt _ w _ 2] = _
  rw [placeAt_plain n (fun z => m z.1)] <;> rfl
theorem p_call2 {w : Str} (h : isCallW w = true) : placesB ⟨.tup [.str w, a, b, d], p, c, ns⟩ = [⟨b, p ++ [2], c, ns⟩, ⟨d, p ++ [3], c, ns⟩] := by
  show (withinI w 4).map (placeAt _ w [.str w, a, b, d]) = _
  obtain ⟨n, m⟩ := call_ne h
  rw [(in_call h).2]
  show [placeAt _ w _ 2, placeAt _ w _ 3] = _
  rw [placeAt_plain n (fun z => m z.1), placeAt_plain n (fun z => m z.1)] <;> rfl
theorem v_new {l : List Dt} : validB T ⟨.tup (.str "new" :: .str x :: l), p, c, ns⟩ = (clsD T (.str x) && (!decide (x = "int") && decide (l.length = fieldsOf T (.str x)))) := by
  show formB T _ "new" (.str "new" :: .str x :: l) = _
  unfold formB callB newB
  rw [w_new.1, w_new.2, decide_eq_true rfl]
  have e1 : decide (0 = (Dt.str "new" :: Dt.str x :: l).length) = false := decide_eq_false (by simp)
  rw [e1]
  have e2 : decide (2 ≤ (Dt.str "new" :: Dt.str x :: l).length) = true := decide_eq_true (by simp)
  rw [e2]
  have e3 : decide ((Dt.str "new" :: Dt.str x :: l).length = 2 + fieldsOf T (.str x)) = decide (l.length = fieldsOf T (.str x)) := by
    rw [List.length_cons, List.length_cons]
    by_cases h : l.length = fieldsOf T (.str x)
    · rw [decide_eq_true h, decide_eq_true (by omega)]
    · rw [decide_eq_false h, decide_eq_false (by omega)]
  show (false && _ || (true && (true && (clsD T (.str x) && (!isStrD "int" (.str x) && decide ((Dt.str "new" :: Dt.str x :: l).length = 2 + fieldsOf T (.str x))))) || false && _)) = _
  rw [e3]
  show (false || ((clsD T (.str x) && (!decide (x = "int") && decide (l.length = fieldsOf T (.str x)))) || false)) = _
  rw [Bool.or_false, Bool.false_or]
theorem p_new {l : List Dt} : placesB ⟨.tup (.str "new" :: .str x :: l), p, c, ns⟩ = (List.range l.length).map fun i => ⟨l.getD i .oth, p ++ [i + 2], c, ns⟩ := by
  show (withinI "new" (l.length + 1 + 1)).map (placeAt _ "new" (.str "new" :: .str x :: l)) = _
  have e : withinI "new" (l.length + 1 + 1) = (List.range l.length).map (· + 2) := by
    unfold withinI
    rw [if_pos (.inr rfl)]
    rfl
  rw [e, List.map_map]
  refine List.map_congr_left fun i _ => ?_
  exact placeAt_plain (by decide +kernel) (fun z => absurd z.1 (by decide +kernel))
/-! ### how far a check comes -/
/-- what the check makes of a place within k parts, whatever waits behind it -/
def Does (T : List Cl) (p : Pl) (k : Nat) (r : Option (List Nat)) : Prop := ∀ n st, k ≤ n → chk T n (p :: st) = match r with | none => chk T (n - k) st | some q => some q
def DoesL (T : List Cl) (ps : List Pl) (k : Nat) (r : Option (List Nat)) : Prop := ∀ n st, k ≤ n → chk T n (ps ++ st) = match r with | none => chk T (n - k) st | some q => some q
theorem DoesL.nil : DoesL T [] 0 none := fun n st _ => rfl
theorem DoesL.cons {pl : Pl} {ps : List Pl} {j k : Nat} {r : Option (List Nat)} (h : Does T pl k none) (t : DoesL T ps j r) : DoesL T (pl :: ps) (k + j) r := fun n st hn => by
  rw [List.cons_append, h n (ps ++ st) (by omega)]
  show chk T (n - k) (ps ++ st) = _
  rw [t (n - k) st (by omega), Nat.sub_sub]
theorem DoesL.bad {pl : Pl} {ps : List Pl} {k : Nat} {q : List Nat} (h : Does T pl k (some q)) : DoesL T (pl :: ps) k (some q) := fun n st hn => by
  rw [List.cons_append]
  exact h n (ps ++ st) hn
theorem DoesL.one {pl : Pl} {k : Nat} {r : Option (List Nat)} (h : Does T pl k r) : DoesL T [pl] k r := fun n st hn => h n st hn
theorem Does.cast {pl : Pl} {j k : Nat} {r : Option (List Nat)} (h : Does T pl k r) (e : k = j) : Does T pl j r := e ▸ h
theorem DoesL.le {ps : List Pl} {k j : Nat} {q : List Nat} (h : DoesL T ps k (some q)) (e : k ≤ j) : DoesL T ps j (some q) := fun n st hn => h n st (Nat.le_trans e hn)
theorem Does.le {pl : Pl} {k j : Nat} {q : List Nat} (h : Does T pl k (some q)) (e : k ≤ j) : Does T pl j (some q) := fun n st hn => h n st (Nat.le_trans e hn)
theorem Does.node {pl : Pl} {k : Nat} {r : Option (List Nat)} (v : validB T pl = true) (h : DoesL T (placesB pl) k r) : Does T pl (k + 1) r := fun n st hn => by
  cases n with
  | zero => omega
  | succ n =>
    show (if validB T pl = true then chk T n (placesB pl ++ st) else some pl.path) = _
    rw [if_pos v, h n st (by omega), Nat.succ_sub_succ]
theorem Does.leaf {pl : Pl} (v : validB T pl = true) (h : placesB pl = []) : Does T pl 1 none := Does.node v (by rw [h]; exact DoesL.nil)
theorem Does.no {pl : Pl} (v : validB T pl = false) : Does T pl 1 (some pl.path) := fun n st hn => by
  cases n with
  | zero => omega
  | succ n =>
    show (if validB T pl = true then chk T n (placesB pl ++ st) else some pl.path) = _
    rw [v, if_neg Bool.false_ne_true]
theorem Does.end_ {pl : Pl} {k n : Nat} {r : Option (List Nat)} (h : Does T pl k r) (hk : k ≤ n) : chk T n [pl] = r := by
  rw [h n [] hk]
  cases r with
  | none => cases n - k <;> rfl
  | some q => rfl
theorem does_int {i : Int} (h1 : -1000000000 ≤ i) (h2 : i ≤ 1000000000) : Does T ⟨.tup [.str "int", .int i], p, c, ns⟩ 1 none :=
  .leaf (by rw [v_int, decide_eq_true h1, decide_eq_true h2] <;> rfl) (pl_leaf in_int.1)
theorem does_arg {i : Int} : Does T ⟨.tup [.str "arg", .int i], p, c, ns⟩ 1 (if 0 ≤ i ∧ i < c then none else some p) := by
  by_cases h : 0 ≤ i ∧ i < c
  · rw [if_pos h]
    exact .leaf (by rw [v_arg, decide_eq_true h.1, decide_eq_true (show i ≤ (c : Int) - 1 by omega)] <;> rfl) (pl_leaf in_int.2.1)
  · rw [if_neg h]
    refine Does.no (pl := ⟨.tup [.str "arg", .int i], p, c, ns⟩) ?_
    rw [v_arg]
    by_cases h0 : 0 ≤ i
    · rw [decide_eq_false (show ¬ i ≤ (c : Int) - 1 by omega), Bool.and_false]
    · rw [decide_eq_false h0, Bool.false_and]
theorem does_name (hx : nameS x = true) : Does T ⟨.tup [.str "name", .str x], p, c, ns⟩ 1 (if ns.contains x = true then none else some p) := by
  by_cases h : ns.contains x = true
  · rw [if_pos h]
    exact .leaf (by rw [v_name, hx, h] <;> rfl) (pl_leaf in_int.2.2)
  · rw [if_neg h]
    refine Does.no (pl := ⟨.tup [.str "name", .str x], p, c, ns⟩) ?_
    rw [v_name, Bool.eq_false_iff.mpr h, Bool.and_false]
/-- many parts that are each one valid part -/
theorem doesL_ones : ∀ {ps : List Pl}, (∀ pl, pl ∈ ps → Does T pl 1 none) → DoesL T ps ps.length none
  | [], _ => DoesL.nil
  | pl :: ps, h => by
    have t := doesL_ones (ps := ps) fun q hq => h q (List.mem_cons_of_mem _ hq)
    have g := DoesL.cons (h pl List.mem_cons_self) t
    rw [List.length_cons, Nat.add_comm]
    exact g
end
end Wc

set_option Elab.async false
set_option linter.all false
set_option maxRecDepth 100000
set_option maxHeartbeats 4000000
/-! a tuple times an int, once, too -/
namespace Wc
open PySem PySem.Spec PyProof.Rows L2
theorem tuple_mul1 (l : Addr) (items : Array Value) (n : Nat) (dd : Option Addr) (sl : Array (Option Value)) (u : Tok) :
    Meets (Builtin.«tuple.__mul__» ⟨[.ref l, .int 1 u], []⟩) (fun _ R s => s.heap.get? l = some { cls := .type "tuple", dict := dd, data := .seq items n, slots := sl } ∧
      R (.ok (.ret (Value.ref l))) s) :=
  .of_wp fun prog w A R s h => by
    obtain ⟨hp, g, d, tk, os⟩ := s
    obtain ⟨hl, h⟩ := h
    have f1 := AutoSeq1.idx_int
    have c1 : (items.isEmpty || ((1 : Int) == 1)) = true := by simp
    wp_walk using wpAny_loadPart' hl
    repeat (first
      | (refine wpAny_ite_true (decide_eq_true c1) ?_; wp_walk using wpAny_loadPart' hl)
      | (refine wpAny_ite_false (decide_eq_false (by decide)) ?_; wp_walk using wpAny_loadPart' hl))
    exact ⟨_, rfl, h⟩
/-- t * 1 is t; t * k a new one -/
def rRepA (K : PySem.W.Frag) : R2 := fun x y H Q => ∃ l k xs, x = .ref l ∧ y = .int k ∧ SqT K H l xs ∧ xs ≠ [] ∧ 1 ≤ k ∧ k ≤ 1000 ∧ xs.length ≤ 1000 ∧ (k = 1 → Q (.ref l) H) ∧ (k ≠ 1 → ∀ p, H p = none → Q (.ref p) (upd H p (.tup (List.replicate k.toNat xs).flatten)))
section
variable {X : Cx}
theorem op_repA : OpR X (binaryOp .Mult) (rRepA X.K) := by
  intro pins s σ H x y v u Q I rx ry h
  obtain ⟨l, k, xs, rfl, rfl, hT, hne, h1, h2, hz, q1, q2⟩ := h
  by_cases hk : k = 1
  · subst hk
    cases rx
    obtain ⟨t, rfl⟩ := ry
    obtain ⟨its, r, ⟨⟨cls, dd, data, sl⟩, ho, hc, n, hd⟩, hs⟩ := I.tuple hT
    simp only at hc hd
    subst hc hd
    refine wpAny_binaryOp_repeat_ref (T := "tuple") (U := "int") (by decide) ⟨_, ho, rfl⟩ (fun s' => typeIs_int s' 1 t) noFill_tuple_mul F.fills_int_mul F.slot_int_rmul repeat_tuple F.slot_int_index.lookup
      (call_meets F.slot_int_rmul (typeIs_int s 1 t) F.entry_int_rmul (F.args_int_rmul_2 _ _) (int_rmul_tuple 1 t l its.toArray n dd sl)
        ⟨ho, rfl, ⟨_, ho, rfl⟩, call_meets F.slot_tuple_mul ⟨_, ho, rfl⟩ F.entry_tuple_mul (F.args_tuple_mul_2 _ _) (tuple_mul1 l its.toArray n dd sl t) ⟨ho, ?_⟩⟩)
    exact ⟨.ref l, H, I, rfl, q1 rfl⟩
  · exact op_repT pins s σ H _ _ v u Q I rx ry ⟨l, k, xs, rfl, rfl, hT, hne, by omega, h2, hz, q2 hk⟩
end
theorem tuple_mul0 (l : Addr) (items : Array Value) (n : Nat) (dd : Option Addr) (sl : Array (Option Value)) (u : Tok) (hne : items.isEmpty = false) :
    Meets (Builtin.«tuple.__mul__» ⟨[.ref l, .int 0 u], []⟩) (fun _ R s => s.heap.get? l = some { cls := .type "tuple", dict := dd, data := .seq items n, slots := sl } ∧
      R (.ok (.ret (Value.ref s.heap.objs.size))) { s with heap := s.heap.push { cls := Value.type "tuple", data := Data.seq #[] }, toks := s.toks }) :=
  .of_wp fun prog w A R s h => by
    obtain ⟨hp, g, d, tk, os⟩ := s
    obtain ⟨hl, h⟩ := h
    have f1 := AutoSeq1.idx_int
    have c1 : (items.isEmpty || ((0 : Int) == 1)) = false := by rw [hne] <;> rfl
    wp_walk using wpAny_loadPart' hl
    repeat (first
      | (refine wpAny_ite_false (decide_eq_false (by rw [c1]; exact Bool.false_ne_true)) ?_; wp_walk using wpAny_loadPart' hl)
      | (refine wpAny_ite_true (decide_eq_true (by simp)) ?_; wp_walk using wpAny_loadPart' hl)
      | (refine wpAny_ite_false (decide_eq_false (by decide)) ?_; wp_walk using wpAny_loadPart' hl))
    exact ⟨_, rfl, h⟩
/-- t * k, k not negative -/
def rRepZ (K : PySem.W.Frag) : R2 := fun x y H Q => ∃ l k xs, x = .ref l ∧ y = .int k ∧ SqT K H l xs ∧ xs ≠ [] ∧ 0 ≤ k ∧ k ≤ 1000 ∧ xs.length ≤ 1000 ∧ (k = 1 → Q (.ref l) H) ∧ (k ≠ 1 → ∀ p, H p = none → Q (.ref p) (upd H p (.tup (List.replicate k.toNat xs).flatten)))
section
variable {X : Cx}
theorem op_repZ : OpR X (binaryOp .Mult) (rRepZ X.K) := by
  intro pins s σ H x y v u Q I rx ry h
  obtain ⟨l, k, xs, rfl, rfl, hT, hne, h1, h2, hz, q1, q2⟩ := h
  by_cases hk : k = 0
  · subst hk
    cases rx
    obtain ⟨t, rfl⟩ := ry
    obtain ⟨its, r, ⟨⟨cls, dd, data, sl⟩, ho, hc, n, hd⟩, hs⟩ := I.tuple hT
    simp only at hc hd
    subst hc hd
    have hi : its.toArray.isEmpty = false := by
      cases its with
      | nil => exact absurd (List.eq_nil_of_length_eq_zero (by have := r.length; simpa using this)) hne
      | cons a b => rfl
    refine wpAny_binaryOp_repeat_ref (T := "tuple") (U := "int") (by decide) ⟨_, ho, rfl⟩ (fun s' => typeIs_int s' 0 t) noFill_tuple_mul F.fills_int_mul F.slot_int_rmul repeat_tuple F.slot_int_index.lookup
      (call_meets F.slot_int_rmul (typeIs_int s 0 t) F.entry_int_rmul (F.args_int_rmul_2 _ _) (int_rmul_tuple 0 t l its.toArray n dd sl)
        ⟨ho, rfl, ⟨_, ho, rfl⟩, call_meets F.slot_tuple_mul ⟨_, ho, rfl⟩ F.entry_tuple_mul (F.args_tuple_mul_2 _ _) (tuple_mul0 l its.toArray n dd sl t hi) ⟨ho, ?_⟩⟩)
    refine ⟨.ref s.heap.objs.size, _, I.laid (t' := s.toks) (o := .tup []) (fun b ob q => Heap.get?_push_of_some _ q) (Nat.le_refl _) ?_, rfl, q2 (by decide) _ (I.hok.fresh (Nat.le_refl _))⟩
    exact ⟨by simp, _, .nil, IsTup.new _ _⟩
  · exact op_repA pins s σ H _ _ v u Q I rx ry ⟨l, k, xs, rfl, rfl, hT, hne, by omega, h2, hz, q1, q2⟩
end
end Wc

set_option Elab.async false
set_option linter.all false
set_option maxRecDepth 100000
set_option maxHeartbeats 4000000
/-! the tree of drawn classes of the laws on bodies, in plain Lean -/
namespace Wc
open PySem PySem.Spec PyProof.Rows L2
def bkL : List Str := ["a", "b", "c", "d", "e"]
def bkN : List Str := (["any", "int"] : List Str) ++ bkL
theorem bkN_ok : ∀ z, z ∈ bkN → nameS z = true ∧ z.length ≤ 8 ∧ PyData.strOk z = true := by decide +kernel
def fldN (z : Str) : List Str := [z ++ "x", z ++ "y"]
theorem fldN_ok : ∀ z, z ∈ bkL → ∀ a, a ∈ fldN z → nameS a = true ∧ a.length ≤ 8 ∧ PyData.strOk a = true := by decide +kernel
theorem fldN_ne : ∀ q, q ∈ bkN → ∀ z, z ∈ bkL → q ≠ z → ∀ a, a ∈ fldN z → a ∉ fldN q := by decide +kernel
theorem fldN_xy : ∀ z, z ∈ bkL → (z ++ "x" : Str) ≠ z ++ "y" := by decide +kernel
theorem bkL_N : ∀ z, z ∈ bkL → z ∈ bkN ∧ z ≠ "int" ∧ z ≠ "any" := by decide +kernel
structure BK (T : List Cl) (n : Nat) : Prop where
  nd : (T.map (·.name)).Nodup
  nm : ∀ c, c ∈ T → c.name ∈ bkN
  tl : T.length = n + 2
  al : ∀ c, c ∈ T → c.all.length ≤ 4
  since : ∀ c, c ∈ T → c.since ≤ n
  int : ∃ c, findC T "int" = some c ∧ c.all = []
  any : ∃ c, findC T "any" = some c ∧ c.all = []
  ln : ∀ c, c ∈ T → ∃ l, Line T (some c.name) l ∧ l.length ≤ T.length
theorem BK.find {T : List Cl} {n : Nat} (w : BK T n) {c : Cl} (h : c ∈ T) : findC T c.name = some c := find_of w.nd h
theorem BK.start : BK [⟨"any", none, [], [], 0⟩, ⟨"int", some "any", [], [], 0⟩] 0 := by
  have f1 : findC [⟨"any", none, [], [], 0⟩, ⟨"int", some "any", [], [], 0⟩] "any" = some ⟨"any", none, [], [], 0⟩ := rfl
  have f2 : findC [⟨"any", none, [], [], 0⟩, ⟨"int", some "any", [], [], 0⟩] "int" = some ⟨"int", some "any", [], [], 0⟩ := rfl
  have two : ∀ {P : Cl → Prop}, P ⟨"any", none, [], [], 0⟩ → P ⟨"int", some "any", [], [], 0⟩ → ∀ c, c ∈ [(⟨"any", none, [], [], 0⟩ : Cl), ⟨"int", some "any", [], [], 0⟩] → P c := fun {P} h1 h2 c h => by
    simp at h
    rcases h with rfl | rfl
    · exact h1
    · exact h2
  exact ⟨by decide +kernel, two (by decide +kernel) (by decide +kernel), rfl, two (Nat.zero_le _) (Nat.zero_le _), two (Nat.le_refl _) (Nat.le_refl _), ⟨_, f2, rfl⟩, ⟨_, f1, rfl⟩, two ⟨["any"], .cons f1 .nil, by decide⟩ ⟨["int", "any"], .cons f2 (.cons f1 .nil), by decide⟩⟩
theorem BK.add {T : List Cl} {n : Nat} (w : BK T n) {z p : Str} {c : Cl} {xs : List V} (hz : findC T z = none) (ho : z ∈ bkL) (hp : findC T p = some c) (hx : c.all.length + xs.length ≤ 4) :
    BK (T ++ [⟨z, some p, xs, c.all ++ xs, n + 1⟩]) (n + 1) := by
  have cT := (find_mem hp).1
  have old : ∀ d, d ∈ T ++ [(⟨z, some p, xs, c.all ++ xs, n + 1⟩ : Cl)] → d ∈ T ∨ d = ⟨z, some p, xs, c.all ++ xs, n + 1⟩ := fun d h => by simpa using h
  have zn : z ∉ T.map (·.name) := fun m => by
    obtain ⟨d, hd, e⟩ := List.mem_map.mp m
    have := w.find hd
    rw [e, hz] at this
    cases this
  refine ⟨?_, fun d h => ?_, by rw [List.length_append, w.tl]; rfl, fun d h => ?_, fun d h => ?_, ?_, ?_, fun d h => ?_⟩
  · rw [List.map_append, List.nodup_append]
    refine ⟨w.nd, by simp, fun a ha b hb e => ?_⟩
    simp at hb
    rw [e, hb] at ha
    exact zn ha
  · rcases old d h with h | rfl
    · exact w.nm d h
    · exact (bkL_N z ho).1
  · rcases old d h with h | rfl
    · exact w.al d h
    · show (c.all ++ xs).length ≤ 4
      rw [List.length_append]
      exact hx
  · rcases old d h with h | rfl
    · have := w.since d h
      omega
    · exact Nat.le_refl _
  · obtain ⟨d, h, h2⟩ := w.int
    exact ⟨d, find_app h, h2⟩
  · obtain ⟨d, h, h2⟩ := w.any
    exact ⟨d, find_app h, h2⟩
  · rcases old d h with h | rfl
    · obtain ⟨l, h1, h2⟩ := w.ln d h
      exact ⟨l, h1.app, by rw [List.length_append]; omega⟩
    · obtain ⟨l, h1, h2⟩ := w.ln c cT
      rw [(find_mem hp).2] at h1
      exact ⟨z :: l, .cons (find_new (d := ⟨z, some p, xs, c.all ++ xs, n + 1⟩) hz) h1.app, by rw [List.length_append, List.length_cons]; show l.length + 1 ≤ T.length + 1; omega⟩
theorem BK.cls {T : List Cl} {n : Nat} (w : BK T n) {c : Cl} (h : c ∈ T) : clsV T (.str c.name) = true := by
  show (nameS c.name && (findC T c.name).isSome) = true
  rw [(bkN_ok _ (w.nm c h)).1, w.find h] <;> rfl
theorem BK.fresh {T : List Cl} {n : Nat} (w : BK T n) {z : Str} (h : z ∉ T.map (·.name)) : findC T z = none := by
  cases q : findC T z with
  | none => rfl
  | some c =>
    have h1 := find_mem q
    exact absurd (List.mem_map.mpr ⟨c, h1.1, h1.2⟩) h
/-- the law's book: a class, the one above and how many fields it has -/
def RowB (H : Hp) (c : Cl) (v : V) : Prop := ∃ t, v = .ref t ∧ H t = some (.tup [optV c.par, .int (c.all.length : Nat)])
theorem RowB.mo {H H' : Hp} {c : Cl} {v : V} (h : RowB H c v) (e : Mo H H') : RowB H' c v := by
  obtain ⟨t, rfl, h1⟩ := h
  exact ⟨t, rfl, e _ _ rfl h1⟩
/-- a field of a class: its name, a class -/
def FlB (H : Hp) (T : List Cl) (x : V) (a : Str) : Prop := ∃ t b, x = .ref t ∧ H t = some (.tup [.str a, .str b]) ∧ (∃ q, q ∈ T.map (·.name) ∧ q ∈ bkL ∧ a ∈ fldN q) ∧ b ∈ T.map (·.name)
theorem FlB.mo {H H' : Hp} {T : List Cl} {x : V} {a : Str} (h : FlB H T x a) (e : Mo H H') : FlB H' T x a := by
  obtain ⟨t, b, rfl, h1, h2, h3⟩ := h
  exact ⟨t, b, rfl, e _ _ rfl h1, h2, h3⟩
theorem FlB.app {H : Hp} {T : List Cl} {x : V} {a : Str} {d : Cl} (h : FlB H T x a) : FlB H (T ++ [d]) x a := by
  obtain ⟨t, b, rfl, h1, ⟨q, h2, h3⟩, h4⟩ := h
  exact ⟨t, b, rfl, h1, ⟨q, by rw [List.map_append]; exact List.mem_append_left _ h2, h3⟩, by rw [List.map_append]; exact List.mem_append_left _ h4⟩
def FlsAt (H : Hp) (T : List Cl) : Prop := ∀ c, c ∈ T → ∃ as, PySem.Paired (FlB H T) c.all as
theorem FlsAt.mo {H H' : Hp} {T : List Cl} (h : FlsAt H T) (e : Mo H H') : FlsAt H' T := fun c hc => by
  obtain ⟨as, h1⟩ := h c hc
  exact ⟨as, Paired.mapP h1 fun _ _ z => z.mo e⟩
theorem pairedApp {α β : Type} {R : α → β → Prop} {a c : List α} {b d : List β} (h : PySem.Paired R a b) (g : PySem.Paired R c d) : PySem.Paired R (a ++ c) (b ++ d) := by
  induction h with
  | nil => exact g
  | cons h _ ih => exact .cons h ih
theorem paired_mem {α β : Type} {R : α → β → Prop} {xs : List α} {ys : List β} (h : PySem.Paired R xs ys) : ∀ y, y ∈ ys → ∃ x, R x y := by
  induction h with
  | nil => intro y hy; cases hy
  | cons r _ ih =>
    intro y hy
    rcases List.mem_cons.mp hy with rfl | hy
    · exact ⟨_, r⟩
    · exact ih y hy
theorem FlsAt.add {H : Hp} {T : List Cl} {c : Cl} {z p : Str} {xs : List V} {bs : List Str} {m : Nat} (h : FlsAt H T) (hc : c ∈ T) (hx : PySem.Paired (FlB H (T ++ [⟨z, some p, xs, c.all ++ xs, m⟩])) xs bs) : FlsAt H (T ++ [⟨z, some p, xs, c.all ++ xs, m⟩]) := fun d hd => by
  rcases List.mem_append.mp hd with hd | hd
  · obtain ⟨as, h1⟩ := h d hd
    exact ⟨as, Paired.mapP h1 fun _ _ z => z.app⟩
  · obtain rfl : d = ⟨z, some p, xs, c.all ++ xs, m⟩ := by simpa using hd
    obtain ⟨as, h1⟩ := h c hc
    exact ⟨as ++ bs, pairedApp (Paired.mapP h1 fun _ _ z => z.app) hx⟩
/-- the names of fields above are none of a new class's own -/
theorem fld_new {H : Hp} {T : List Cl} {n : Nat} (w : BK T n) {xs : List V} {as : List Str} (h : PySem.Paired (FlB H T) xs as) {z : Str} (hz : findC T z = none) (ho : z ∈ bkL) {a : Str} (ha : a ∈ fldN z) : a ∉ as := fun m => by
  obtain ⟨x, t, b, rfl, h1, ⟨q, h2, h3, h4⟩, h5⟩ := paired_mem h a m
  refine fldN_ne q (bkL_N q h3).1 z ho (fun e => ?_) a ha h4
  subst e
  obtain ⟨d, hd, e⟩ := List.mem_map.mp h2
  have := w.find hd
  rw [e, hz] at this
  cases this
end Wc

set_option Elab.async false
set_option linter.all false
set_option maxRecDepth 100000
set_option maxHeartbeats 4000000
/-! comprehensions whose elements change the heap; over a dict's keys -/
namespace Wc
open PySem PySem.Spec PyProof.Rows L2
theorem lcP {J : It} {n : Nat} {G : Hp → Prop} {Y : Nat → Hp → V → Hp → Prop} {g : TG} {tt : TT} {te : TE} {vs : List Nat} {σ : L2.St} {Q : VK} {H : Hp} (w : Walk J n G Y) (Pv : Nat → List V → Hp → Prop) (h0 : Pv 0 [] H) (hn : n ≤ 100000)
    (stab : ∀ D i acc H' H'', H D = none → Mo H' H'' → Fr [D] H' H'' → Pv i acc H' → Pv i acc H'') (hG : ∀ i acc H', i ≤ n → Pv i acc H' → G H')
    (hs : ∀ (i : Nat) (x : V) (acc : List V) (H1 H2 : Hp) (D : Addr) (R : VK) (N : Hp → Prop), i < n → H D = none → H1 D = some (.lst acc) → Pv i acc H1 → Y i H1 x H2 → (∀ v H4, Pv (i + 1) (acc ++ [v]) H4 → H4 D = some (.lst acc) → R v H4) → (∀ H4, Pv (i + 1) acc H4 → H4 D = some (.lst acc) → N H4) →
      g x (wipe σ vs) H2 fun σ2 H3 => wipe σ2 vs = wipe σ vs ∧ tt σ2 H3 fun b H4 => if b = true then te σ2 H4 R else N H4)
    (q : ∀ D H' acc, H D = none → Pv n acc H' → H' D = some (.lst acc) → Q (.ref D) H') : LcJ J g tt te vs σ Q H := fun D hD =>
  lc_it w (fun i H' => ∃ acc, Pv i acc H' ∧ H' D = some (.lst acc) ∧ acc.length ≤ i) ⟨[], stab D 0 [] H _ hD (Ext.new hD).mo (Ext.new hD).fr h0, upd_same, Nat.le_refl _⟩ (fun i H' hi ⟨acc, p, _⟩ => hG i acc H' hi p)
    (fun i x H1 H2 hi ⟨acc, p, hd, hl⟩ y => hs i x acc H1 H2 D _ _ hi hD hd p y (fun v H4 p4 h4 => ⟨acc, h4, sz_lt (by omega), acc ++ [v], stab D _ _ _ _ hD (Mo.upd h4 rfl) (Fr.updE (by simp)) p4, upd_same, by rw [List.length_append]; simp; omega⟩) fun H4 p4 h4 => ⟨acc, p4, h4, by omega⟩)
    fun H' ⟨acc, p, hd, _⟩ => q D H' acc hD p hd
theorem r_lcK {g : TG} {tt : TT} {te td : TE} {vs : List Nat} {σ : L2.St} {H : Hp} {Q : VK} (h : td σ H fun x H1 => ∃ d o, x = .ref d ∧ ((∃ kvs, H1 d = some (.frz o (.dK kvs)) ∧ LcJ (Itk d o kvs) g tt te vs σ Q H1) ∨ ∃ kvs, H1 d = some (.frz o (.dT kvs)) ∧ LcJ (Itkt d o kvs) g tt te vs σ Q H1)) : tLc (iKeys td) g tt te vs σ H Q := h
/-- behind a locked read: what it made stands in the unlocked heap -/
theorem lock_out {H H' : Hp} {d : Addr} {od : Obj} {u : HO} (hd : H d = some u) (e : Ext (upd H d (.frz od u)) H') : Ext H (upd H' d u) := fun q o ha => by
  by_cases hq : q = d
  · rw [hq] at ha ⊢
    rw [upd_same, ← ha, hd]
  · rw [upd_ne hq]
    exact e _ _ (by rw [upd_ne hq]; exact ha)
/-- the names of a dict by the classes' names -/
theorem byn_keys {R : Cl → V → Prop} {T : List Cl} {kvs : List (Key × V)} (h : ByN R T kvs) : (kvs.map fun kv => kV kv.1) = (T.map (·.name)).map V.str := by
  unfold ByN at h
  induction h with
  | nil => rfl
  | cons a _ ih =>
    rw [List.map_cons, ih, a.1]
    rfl
theorem inV_strs' (z : Str) (l : List Str) : inV (.str z) (l.map V.str) = l.contains z := by
  induction l with
  | nil => rfl
  | cons a l ih =>
    have e : inV (.str z) (V.str a :: l.map V.str) = (eqV (.str a) (.str z) || inV (.str z) (l.map V.str)) := by
      simp [inV]
    rw [List.map_cons, e, ih, List.contains_cons]
    congr 1
    show (a == z) = (z == a)
    exact Bool.beq_comm
/-- a drawn field: its name, a class's name -/
def FlC (H : Hp) (T : List Cl) (x : V) (a : Str) : Prop := ∃ t b, x = .ref t ∧ H t = some (.tup [.str a, .str b]) ∧ b ∈ T.map (·.name)
theorem FlC.mo {H H' : Hp} {T : List Cl} {x : V} {a : Str} (h : FlC H T x a) (e : Mo H H') : FlC H' T x a := by
  obtain ⟨t, b, rfl, h1, h2⟩ := h
  exact ⟨t, b, rfl, e _ _ rfl h1, h2⟩
theorem paired_mapM {α β : Type} {R S : α → β → Prop} {xs : List α} {ys : List β} (h : PySem.Paired R xs ys) (f : ∀ x y, y ∈ ys → R x y → S x y) : PySem.Paired S xs ys := by
  induction h with
  | nil => exact .nil
  | cons r _ ih => exact .cons (f _ _ List.mem_cons_self r) (ih fun x y hy => f x y (List.mem_cons_of_mem _ hy))
theorem take_str {d : Nat} (h : d ≤ 2) (a b : V) : cutV [a, b] none (some (d : Int)) = [a, b].take d := by
  have h : d = 0 ∨ d = 1 ∨ d = 2 := by omega
  rcases h with rfl | rfl | rfl <;> rfl
theorem byn_at {R : Cl → V → Prop} {T : List Cl} {kvs : List (Key × V)} (h : ByN R T kvs) (nd : (T.map (·.name)).Nodup) {i : Nat} {x : Str} {v : V} (hk : kvs[i]? = some (.inr x, v)) : valV kvs (.inr x) = some v := by
  unfold ByN at h
  induction h generalizing i with
  | nil => simp at hk
  | @cons c kv T kvs h0 t ih =>
    rw [List.map_cons, List.nodup_cons] at nd
    unfold valV
    rw [List.find?_cons]
    cases i with
    | zero =>
      simp at hk
      subst hk
      rw [decide_eq_true rfl] <;> rfl
    | succ i =>
      have hk2 : kvs[i]? = some (.inr x, v) := by simpa using hk
      have ne : kv.1 ≠ .inr x := fun e => by
        obtain ⟨c2, hc2, h2, _⟩ := Wc.paired_get t hk2
        rw [h0.1] at e
        have e2 : c.name = x := Sum.inr.inj e
        have e3 : (Sum.inr x : Key) = .inr c2.name := h2
        exact nd.1 (List.mem_map.mpr ⟨c2, List.mem_of_getElem? hc2, by rw [e2]; exact (Sum.inr.inj e3).symm⟩)
      rw [decide_eq_false ne]
      exact ih nd.2 hk2
/-- a class's name, but int -/
def nonI (c : Cl) : Option V := if c.name = "int" then none else some (V.str c.name)
theorem nonI_int {c : Cl} (h : c.name = "int") : nonI c = none := if_pos h
theorem nonI_else {c : Cl} (h : c.name ≠ "int") : nonI c = some (V.str c.name) := if_neg h
theorem nonI_mem {T : List Cl} {y : V} (h : y ∈ T.filterMap nonI) : ∃ c, c ∈ T ∧ c.name ≠ "int" ∧ y = V.str c.name := by
  obtain ⟨c, hc, h2⟩ := List.mem_filterMap.mp h
  by_cases hi : c.name = "int"
  · rw [nonI_int hi] at h2
    cases h2
  · rw [nonI_else hi] at h2
    exact ⟨c, hc, hi, (Option.some.inj h2).symm⟩
/-- the names of the drawn classes, in their order -/
def six : List Str := ["any", "int", "a", "b", "c", "d"]
theorem six_at {i : Nat} (hi : i < 4) {z : Str} (hz : (["a", "b", "c", "d"] : List Str)[i]? = some z) : z ∉ six.take (i + 2) ∧ z ∈ bkL ∧ six.take (i + 2) ++ [z] = six.take (i + 1 + 2) := by
  have h : i = 0 ∨ i = 1 ∨ i = 2 ∨ i = 3 := by omega
  rcases h with rfl | rfl | rfl | rfl <;> (simp at hz; subst hz; decide +kernel)
end Wc

set_option Elab.async false
set_option linter.all false
set_option maxRecDepth 100000
set_option maxHeartbeats 1000000
/-! zip of a tuple and a list -/
namespace Wc
open PySem PySem.Spec PyProof.Rows L2
/-- the tuple at p and the list at q as they stand at each turn; new pairs -/
def Itm (K : PySem.W.Frag) (p q : Addr) : It where
  go := fun i H => ∃ us vs u v, SqT K H p us ∧ SqL K H q vs ∧ us[i]? = some u ∧ vs[i]? = some v
  yld := fun i H z H' => ∃ c u v, z = V.ref c ∧ H c = none ∧ H' = upd H c (.tup [u, v]) ∧ (∀ us, SqT K H p us → us[i]? = some u) ∧ ∀ vs, SqL K H q vs → vs[i]? = some v
  stop := fun i H => ∃ us vs : List V, SqT K H p us ∧ SqL K H q vs ∧ (us.length = i ∨ vs.length = i) ∧ i ≤ us.length ∧ i ≤ vs.length
def mAll (z ti to_ j1 j2 : Addr) : List Addr := [z, ti, to_, j1, j2]
/-- how the iterator stands at turn i -/
def mSt (p q z ti to_ j1 j2 : Addr) (i : Nat) (h : Heap) : Prop :=
  IsZip h z ti to_ .none ∧ IsTupOf2 h ti (.ref j1) (.ref j2) ∧ (∃ u v, IsTupOf2 h to_ u v) ∧ h.IsTupleIter j1 p i ∧ h.IsListIter j2 q i
theorem mAll_mem {z ti to_ j1 j2 c : Addr} (h : c ∈ mAll z ti to_ j1 j2) : c = z ∨ c = ti ∨ c = to_ ∨ c = j1 ∨ c = j2 := by simpa [mAll] using h
theorem mSt.get {p q z ti to_ j1 j2 : Addr} {i : Nat} {h : Heap} (st : mSt p q z ti to_ j1 j2 i h) {c : Addr} (hc : c ∈ mAll z ti to_ j1 j2) : ∃ o, h.get? c = some o ∧ ∀ v, o.data ≠ .cell v := by
  obtain ⟨a1, a2, ⟨u, v, a3⟩, ⟨o4, a4, _, d4⟩, ⟨o5, a5, _, d5⟩⟩ := st
  rcases mAll_mem hc with e | e | e | e | e <;> subst e
  · exact ⟨_, a1, fun _ n => (by cases n)⟩
  · exact ⟨_, a2, fun _ n => (by cases n)⟩
  · exact ⟨_, a3, fun _ n => (by cases n)⟩
  · exact ⟨_, a4, fun _ n => by rw [d4] at n; cases n⟩
  · exact ⟨_, a5, fun _ n => by rw [d5] at n; cases n⟩
theorem nAdd {N : Nat} (a b : Nat) (h : a ≠ b) : N + a ≠ N + b := fun e => h (Nat.add_left_cancel e)
theorem turn_mixed {P : Program} {w : World} {K : PySem.W.Frag} {es : List Expr} {n0 : Nat} {ps : Pos} {p q N : Addr} (hp : p < N) (hq : q < N) :
    Turn P w K (.Tuple es n0 ps) (Itm K p q) (mAll (N + 4) (N + 2) (N + 3) N (N + 1)) (N + 4) (mSt p q (N + 4) (N + 2) (N + 3) N (N + 1)) where
  mem := List.mem_cons_self
  obj := fun i h st c hc => st.get hc
  keep := fun i h g st k => by
    obtain ⟨a1, a2, ⟨u, v, a3⟩, a4, a5⟩ := st
    refine ⟨k _ (by simp [mAll]) _ a1, k _ (by simp [mAll]) _ a2, ⟨u, v, k _ (by simp [mAll]) _ a3⟩, ?_, ?_⟩
    · exact a4.at fun o => k _ (by simp [mAll]) o
    · exact a5.at fun o => k _ (by simp [mAll]) o
  item := by
    intro X e1 e2 e3 hc i pins s σ H E I hf st hg
    subst e1 e2 e3
    obtain ⟨us, vs, u, v, g1, g2, g3, g4⟩ := hg
    obtain ⟨l1, r1, t1, _⟩ := I.tuple g1
    obtain ⟨l2, r2, t2, _⟩ := I.list g2
    obtain ⟨x1, b1, c1⟩ := r1.get g3
    obtain ⟨x2, b2, c2⟩ := r2.get g4
    have hd : X.A.in1.handled = none := I.ok.hd hc
    have D1 := Draws.tuple (prog := X.prog) (w := X.w) (A := X.A.in1) hd N p (Nat.ne_of_lt hp) l1.toArray
    have D2 := Draws.list (prog := X.prog) (w := X.w) (A := X.A.in1) hd (N + 1) q (Nat.ne_of_lt (Nat.lt_succ_of_lt hq)) l2.toArray
    have S := zip_sep2 (N := N) (fp1 := [p]) (fp2 := [q]) (fun b m => by rw [List.mem_singleton.mp m]; exact hp) (fun b m => by rw [List.mem_singleton.mp m]; exact hq)
    obtain ⟨a1, a2, ⟨y1, y2, a3⟩, a4, a5⟩ := id st
    have i1 : i < l1.toArray.size := by simpa using (List.getElem?_eq_some_iff.mp b1).1
    have i2 : i < l2.toArray.size := by simpa using (List.getElem?_eq_some_iff.mp b2).1
    have zl : N + 4 < s.heap.objs.size := Heap.lt_size a1
    refine wpAny_pyNext_zipD2_item S D1 D2 a1 a2 a3 ⟨a4, t1⟩ ⟨a5, t2.isList⟩ i1 i2 fun w1 w2 g tk m1 m2 n1 n2 n3 n4 n5 n6 n7 => ?_
    obtain rfl : x1 = w1 := by
      have : l1[i]? = some w1 := by simpa using m1
      exact Option.some.inj (b1.symm.trans this)
    obtain rfl : x2 = w2 := by
      have : l2[i]? = some w2 := by simpa using m2
      exact Option.some.inj (b2.symm.trans this)
    refine ⟨_, rfl, wpAny_letOwnedTupleGo_zip (s := { s with heap := g, toks := tk }) n1 fun g' n1' sb => ?_⟩
    have up : ∀ c o, c ≠ N + 4 → g.get? c = some o → g'.get? c = some o := fun c o ne e => (sb.2 c ne).trans e
    have fr : ∀ c o, c ∉ mAll (N + 4) (N + 2) (N + 3) N (N + 1) → s.heap.get? c = some o → g'.get? c = some o := fun c o nm e =>
      up c o (fun z => nm (by simp [mAll, z])) (n7 c o (fun z => nm (by simp [mAll, z])) (fun z => nm (by simp [mAll, z])) (fun z => nm (by simp [mAll, z])) (fun z => nm (by simp [mAll, z])) e)
    have np : g'.get? s.heap.objs.size = some { cls := .type "tuple", data := .seq #[x1, x2] } := up _ _ (Nat.ne_of_gt zl) n5
    have ok : ObjOk X.prog X.w (upd H s.heap.objs.size (.tup [u, v])) g' s.heap.objs.size (.tup [u, v]) :=
      ⟨by show 2 ≤ sizeLine; decide, [x1, x2], .cons c1 (.cons c2 .nil), _, np, rfl, _, rfl⟩
    have J : Inv X pins σ (upd H s.heap.objs.size (.tup [u, v])) { s with heap := g', toks := tk } := I.turnedNew (t' := tk) (ch := mAll (N + 4) (N + 2) (N + 3) N (N + 1)) fr hf (Nat.le_refl _) ok
    have fresh := I.hok.fresh (Nat.le_refl s.heap.objs.size)
    refine ⟨.ref s.heap.objs.size, _, J, rfl, ⟨_, u, v, rfl, fresh, rfl, ?_, ?_⟩, ⟨n1', ?_, ⟨x1, x2, ?_⟩, ?_, ?_⟩, fun c cm => ?_⟩
    · intro l hl
      rw [I.tuple_inj hl g1]
      exact g3
    · intro l hl
      rw [I.list_inj hl g2]
      exact g4
    · exact up _ _ (nAdd 2 4 (by decide)) (n7 _ _ (nAdd 2 4 (by decide)) (nAdd 2 3 (by decide)) (nAdd 2 0 (by decide)) (nAdd 2 1 (by decide)) a2)
    · exact up _ _ (nAdd 3 4 (by decide)) n2
    · exact n3.1.at fun o => up _ o (nAdd 0 4 (by decide))
    · exact n4.1.at fun o => up _ o (nAdd 1 4 (by decide))
    · obtain ⟨o, ho, _⟩ := mSt.get st cm
      rw [upd_ne (Nat.ne_of_lt (Heap.lt_size ho))]
      exact (hf c cm).1
  done := by
    intro X e1 e2 e3 hc i pins s σ H E I hf st hg
    subst e1 e2 e3
    obtain ⟨us, vs, g1, g2, g3, g4, g5⟩ := hg
    obtain ⟨l1, r1, t1, _⟩ := I.tuple g1
    obtain ⟨l2, r2, t2, _⟩ := I.list g2
    have hd : X.A.in1.handled = none := I.ok.hd hc
    have D1 := Draws.tuple (prog := X.prog) (w := X.w) (A := X.A.in1) hd N p (Nat.ne_of_lt hp) l1.toArray
    have D2 := Draws.list (prog := X.prog) (w := X.w) (A := X.A.in1) hd (N + 1) q (Nat.ne_of_lt (Nat.lt_succ_of_lt hq)) l2.toArray
    have S := zip_sep2 (N := N) (fp1 := [p]) (fp2 := [q]) (fun b m => by rw [List.mem_singleton.mp m]; exact hp) (fun b m => by rw [List.mem_singleton.mp m]; exact hq)
    obtain ⟨a1, a2, ⟨y1, y2, a3⟩, a4, a5⟩ := id st
    have q1 : l1.toArray.size = us.length := by simpa using r1.length.symm
    have q2 : l2.toArray.size = vs.length := by simpa using r2.length.symm
    refine wpAny_pyNext_zipD2_end S D1 D2 a1 a2 a3 ⟨a4, t1⟩ ⟨a5, t2.isList⟩ (by omega) (by omega) (by omega) fun g tk n7 => ⟨rfl, ?_⟩
    refine I.turnedL (t' := tk) (ch := mAll (N + 4) (N + 2) (N + 3) N (N + 1)) (fun c o nm e => ?_) hf
    exact n7 c o (fun z => nm (by simp [mAll, z])) (fun z => nm (by simp [mAll, z])) (fun z => nm (by simp [mAll, z])) (fun z => nm (by simp [mAll, z])) e
  self := fun A i s Q E st h => wpAny_pyIter_zip st.1 h
def iMix (K : PySem.W.Frag) (ta : TA) : TI := fun σ H R => ta σ H fun vs H1 => ∃ p q us ws, vs = [V.ref p, .ref q] ∧ SqT K H1 p us ∧ SqL K H1 q ws ∧ R (Itm K p q) H1
theorem pi_mixed {X : Cx} {e e2 : Expr} {ta : TA} {p pos tpos : Pos} {es : List Expr} {n0 : Nat} (hg : Gl X "zip") (hm : X.mg "zip" = none) (ha : PA X [e, e2] ta)
    (hs : starEach [e, e2] X.env = (false, eval e X.env) :: starEach [e2] X.env := by rfl) (hpl : (backTo pos (starEach [e2] X.env)).any (·.1) = false := by rfl) : PI X (.Tuple es n0 tpos) (.Call (.Name "zip" p) [e, e2] [] pos) (iMix X.K ta) := by
  refine ⟨fun pins s σ H R I h => ?_⟩
  refine Call_ (ld_blt I hg hm PyProof.Rows.boot_zip (PyProof.Rows.callWith_type1 (thn (ha.run pos pins s σ H _ I h) fun us s1 ⟨vs, H1, J, r, hh⟩ => ?_) hs hpl))
  obtain ⟨p, q, ys, ws, rfl, g1, g2, hR⟩ := hh
  obtain ⟨u1, u2, rfl, c1, c2⟩ := vals2 r
  obtain rfl : u1 = Value.ref p := c1
  obtain rfl : u2 = Value.ref q := c2
  obtain ⟨l1, _, t1, _⟩ := J.tuple g1
  obtain ⟨l2, _, t2, _⟩ := J.list g2
  have hp : p < s1.heap.objs.size := by
    obtain ⟨o, ho, _⟩ := id t1
    exact Heap.lt_size ho
  refine zip_begins2 (begins_tuple p l1.toArray) (begins_list q l2.toArray) t1 t2.isList fun g a1 a2 a3 a4 a5 a6 a7 => wpAny_pyIter_zip a1 ?_
  refine ⟨_, _, _, _, H1, rfl, J.kept (t' := s1.toks) a7, turn_mixed hp t2.lt, ⟨a1, a2, ⟨_, _, a3⟩, ⟨_, a4, rfl, rfl⟩, ⟨_, a5, rfl, rfl⟩⟩, fun c cm => ?_, hR⟩
  have le : s1.heap.objs.size ≤ c := by
    rcases mAll_mem cm with z | z | z | z | z <;> rw [z]
    · exact Nat.le_add_right _ 4
    · exact Nat.le_add_right _ 2
    · exact Nat.le_add_right _ 3
    · exact Nat.le_refl _
    · exact Nat.le_add_right _ 1
  exact J.fpOk le (J.hok.fresh le)
/-- its turns: pairs of a tuple's and a list's items, of one length -/
theorem walk_mixed {K : PySem.W.Frag} {p q : Addr} {us vs : List V} (hl : us.length = vs.length) : Walk (Itm K p q) us.length (fun H => SqT K H p us ∧ SqL K H q vs) (fun i H z H' => ∃ c u v, z = V.ref c ∧ H c = none ∧ H' = upd H c (.tup [u, v]) ∧ us[i]? = some u ∧ vs[i]? = some v) where
  goes := fun i H hi g => ⟨us, vs, us[i], vs[i]'(by omega), g.1, g.2, List.getElem?_eq_getElem hi, List.getElem?_eq_getElem (by omega)⟩
  stops := fun H g => ⟨us, vs, g.1, g.2, .inl rfl, Nat.le_refl _, by omega⟩
  yields := fun i H z H' hi g y => by
    obtain ⟨c, u, v, e, hc, e2, f1, f2⟩ := y
    exact ⟨c, u, v, e, hc, e2, f1 us g.1, f2 vs g.2⟩
end Wc

set_option Elab.async false
set_option linter.all false
set_option maxRecDepth 100000
set_option maxHeartbeats 1000000
/-! the parts of a body one after the other; heads of drawn bodies -/
namespace Wc
open PySem PySem.Spec PyProof.Rows L2
/-! ### the parts in the order in which they are written -/
def kids : Dt → List (Nat × Dt)
  | .tup (.str w :: l) => (withinI w (l.length + 1)).map fun i => (i, (Dt.str w :: l).getD i .oth)
  | _ => []
/-- what may be named within a part: the number of arguments, the names -/
def stepC (d : Dt) (i : Nat) (q : Nat × List Str) : Nat × List Str := match d with
  | .tup (.str w :: l) => (if w = "define" then (match (Dt.str w :: l).getD 2 .oth with | .tup s => s.length | _ => 0) else q.1, if w = "define" then [] else if w = "let" ∧ i = 3 then q.2 ++ [strD ((Dt.str w :: l).getD 1 .oth)] else q.2)
  | _ => q
theorem places_kids (p : Pl) : placesB p = (kids p.d).map fun x => ⟨x.2, p.path ++ [x.1], (stepC p.d x.1 (p.count, p.names)).1, (stepC p.d x.1 (p.count, p.names)).2⟩ := by
  obtain ⟨d, path, c, ns⟩ := p
  cases d with
  | tup l =>
    cases l with
    | nil => rfl
    | cons a l =>
      cases a with
      | str w =>
        show (withinI w (l.length + 1)).map (placeAt _ w (.str w :: l)) = ((withinI w (l.length + 1)).map fun i => (i, (Dt.str w :: l).getD i .oth)).map _
        rw [List.map_map]
        rfl
      | _ => rfl
  | _ => rfl
theorem flatMap_congrW {α β : Type} {f g : α → List β} {l : List α} (h : ∀ x, x ∈ l → f x = g x) : l.flatMap f = l.flatMap g := by
  induction l with
  | nil => rfl
  | cons a l ih => rw [List.flatMap_cons, List.flatMap_cons, h a List.mem_cons_self, ih fun x hx => h x (List.mem_cons_of_mem _ hx)]
/-- the paths of the parts, each one ahead of those within it -/
def pathsF : Nat → Dt → List (List Nat)
  | 0, _ => [[]]
  | f + 1, d => [] :: (kids d).flatMap fun x => (pathsF f x.2).map (x.1 :: ·)
def kidAt (d : Dt) (i : Nat) : Dt := match d with
  | .tup l => l.getD i .oth
  | _ => .oth
def atP : Dt → List Nat → Dt
  | d, [] => d
  | d, i :: p => atP (kidAt d i) p
def scopeP : Dt → List Nat → Nat × List Str → Nat × List Str
  | _, [], q => q
  | d, i :: p, q => scopeP (kidAt d i) p (stepC d i q)
def mkPl (d : Dt) (pp : List Nat) (q : Nat × List Str) (p : List Nat) : Pl := ⟨atP d p, pp ++ p, (scopeP d p q).1, (scopeP d p q).2⟩
theorem kids_at {d : Dt} {x : Nat × Dt} (h : x ∈ kids d) : kidAt d x.1 = x.2 := by
  unfold kids at h
  split at h
  · obtain ⟨i, _, rfl⟩ := List.mem_map.mp h
    rfl
  · cases h
theorem dep_get (l : List Dt) (i : Nat) : dep (l.getD i .oth) ≤ deps l := by
  induction l generalizing i with
  | nil => exact Nat.zero_le _
  | cons a l ih =>
    cases i with
    | zero => exact Nat.le_max_left _ _
    | succ i => exact Nat.le_trans (ih i) (Nat.le_max_right _ _)
theorem kids_dep {d : Dt} {x : Nat × Dt} (h : x ∈ kids d) : dep x.2 < dep d := by
  unfold kids at h
  split at h
  · rename_i w l
    obtain ⟨i, _, rfl⟩ := List.mem_map.mp h
    exact Nat.lt_succ_of_le (dep_get _ i)
  · cases h
/-- the places, in the order of the check -/
def plsF (f : Nat) (d : Dt) (pp : List Nat) (q : Nat × List Str) : List Pl := (pathsF f d).map (mkPl d pp q)
def runL (T : List Cl) : List Pl → Nat → (Nat → Option (List Nat)) → Option (List Nat)
  | [], n, k => k n
  | _ :: _, 0, _ => some []
  | q :: L, n + 1, k => if validB T q = true then runL T L n k else some q.path
theorem runL_app {T : List Cl} (A B : List Pl) (n : Nat) (k : Nat → Option (List Nat)) : runL T (A ++ B) n k = runL T A n fun m => runL T B m k := by
  induction A generalizing n with
  | nil => rfl
  | cons q A ih =>
    cases n with
    | zero => rfl
    | succ n =>
      show (if validB T q = true then runL T (A ++ B) n k else _) = (if validB T q = true then runL T A n _ else _)
      rw [ih]
theorem plsF_succ (f : Nat) (d : Dt) (pp : List Nat) (c : Nat) (ns : List Str) : plsF (f + 1) d pp (c, ns) = ⟨d, pp, c, ns⟩ :: (placesB ⟨d, pp, c, ns⟩).flatMap fun p => plsF f p.d p.path (p.count, p.names) := by
  unfold plsF
  show mkPl d pp (c, ns) [] :: ((kids d).flatMap fun x => (pathsF f x.2).map (x.1 :: ·)).map (mkPl d pp (c, ns)) = _
  have e0 : mkPl d pp (c, ns) [] = ⟨d, pp, c, ns⟩ := by
    show (⟨d, pp ++ [], c, ns⟩ : Pl) = _
    rw [List.append_nil]
  rw [e0, places_kids, List.map_flatMap, List.flatMap_map]
  congr 1
  refine flatMap_congrW fun x hx => ?_
  rw [List.map_map]
  refine List.map_congr_left fun p _ => ?_
  show mkPl d pp (c, ns) (x.1 :: p) = mkPl x.2 (pp ++ [x.1]) (stepC d x.1 (c, ns)) p
  unfold mkPl
  show (⟨atP (kidAt d x.1) p, pp ++ (x.1 :: p), (scopeP (kidAt d x.1) p (stepC d x.1 (c, ns))).1, (scopeP (kidAt d x.1) p (stepC d x.1 (c, ns))).2⟩ : Pl) = _
  rw [kids_at hx, show pp ++ (x.1 :: p) = pp ++ [x.1] ++ p by simp]
theorem chk_run {T : List Cl} : ∀ (f : Nat) (d : Dt) (pp : List Nat) (c : Nat) (ns : List Str) (n : Nat) (st : List Pl), dep d ≤ f → chk T n (⟨d, pp, c, ns⟩ :: st) = runL T (plsF f d pp (c, ns)) n fun m => chk T m st
  | 0, d, pp, c, ns, n, st, h => by
    have e : plsF 0 d pp (c, ns) = [⟨d, pp, c, ns⟩] := by
      show [mkPl d pp (c, ns) []] = _
      show [(⟨d, pp ++ [], c, ns⟩ : Pl)] = _
      rw [List.append_nil]
    have v : validB T ⟨d, pp, c, ns⟩ = false := by
      unfold validB
      split
      · rename_i w l e2
        have e2 : d = .tup (.str w :: l) := e2
        rw [e2] at h
        exact absurd h (Nat.not_succ_le_zero _)
      · rfl
    rw [e]
    cases n with
    | zero => rfl
    | succ n =>
      show (if validB T ⟨d, pp, c, ns⟩ = true then _ else some pp) = (if validB T ⟨d, pp, c, ns⟩ = true then _ else some pp)
      rw [v, if_neg Bool.false_ne_true, if_neg Bool.false_ne_true]
  | f + 1, d, pp, c, ns, n, st, h => by
    rw [plsF_succ]
    cases n with
    | zero => rfl
    | succ n =>
      show (if validB T ⟨d, pp, c, ns⟩ = true then chk T n (placesB ⟨d, pp, c, ns⟩ ++ st) else some pp) = (if validB T ⟨d, pp, c, ns⟩ = true then runL T _ n _ else some pp)
      congr 1
      have hk : ∀ x, x ∈ placesB ⟨d, pp, c, ns⟩ → dep x.d ≤ f := fun x hx => by
        rw [places_kids] at hx
        obtain ⟨y, hy, rfl⟩ := List.mem_map.mp hx
        have : dep y.2 < dep d := kids_dep hy
        show dep y.2 ≤ f
        omega
      generalize placesB ⟨d, pp, c, ns⟩ = ps at hk
      have go : ∀ (ps : List Pl) (m : Nat), (∀ x, x ∈ ps → dep x.d ≤ f) → chk T m (ps ++ st) = runL T (ps.flatMap fun p => plsF f p.d p.path (p.count, p.names)) m fun m => chk T m st := fun ps => by
        induction ps with
        | nil => intro m _; rfl
        | cons p ps ih =>
          intro m hp
          have e := chk_run (T := T) f p.d p.path p.count p.names m (ps ++ st) (hp p List.mem_cons_self)
          rw [List.flatMap_cons, runL_app]
          refine e.trans ?_
          congr 1
          funext m2
          exact ih m2 fun x hx => hp x (List.mem_cons_of_mem _ hx)
      exact go ps n hk
/-- the check of a body by its parts -/
theorem chk_parts {T : List Cl} {d : Dt} {c : Nat} (f : Nat) (h : dep d ≤ f) : chk T 24 [⟨d, [], c, []⟩] = runL T (plsF f d [] (c, [])) 24 fun _ => none := by
  rw [chk_run f d [] c [] 24 [] h]
  congr 1
  funext m
  cases m <;> rfl
/-- a run over places of which the first bad one is asked -/
theorem runL_find {T : List Cl} {α : Type} (mk : α → Pl) (bad : α → Bool) : ∀ (L : List α) (n : Nat), (∀ p, p ∈ L → validB T (mk p) = !bad p) →
    runL T (L.map mk) n (fun _ => none) = match L.findIdx? bad with | some j => if j < n then (L[j]?.map fun p => (mk p).path) else some [] | none => if L.length ≤ n then none else some []
  | [], n, _ => by
    show none = if 0 ≤ n then none else some []
    rw [if_pos (Nat.zero_le n)]
  | p :: L, n, h => by
    have ih := runL_find (T := T) mk bad L
    have hp := h p List.mem_cons_self
    have hL : ∀ q, q ∈ L → validB T (mk q) = !bad q := fun q hq => h q (List.mem_cons_of_mem _ hq)
    rw [List.findIdx?_cons]
    cases n with
    | zero =>
      show some [] = _
      cases hb : bad p with
      | true =>
        show some [] = if 0 < 0 then _ else some []
        rfl
      | false =>
        show some [] = match (L.findIdx? bad).map (· + 1) with | some j => if j < 0 then _ else some [] | none => if L.length + 1 ≤ 0 then none else some []
        cases q : L.findIdx? bad with
        | none => rfl
        | some j => rfl
    | succ n =>
      show (if validB T (mk p) = true then runL T (L.map mk) n _ else some (mk p).path) = _
      rw [hp]
      cases hb : bad p with
      | true => rfl
      | false =>
        show runL T (L.map mk) n _ = match (L.findIdx? bad).map (· + 1) with | some j => if j < n + 1 then ((p :: L)[j]?.map fun p => (mk p).path) else some [] | none => if L.length + 1 ≤ n + 1 then none else some []
        rw [ih n hL]
        cases q : L.findIdx? bad with
        | none =>
          show (if L.length ≤ n then none else some []) = if L.length + 1 ≤ n + 1 then none else some []
          by_cases hl : L.length ≤ n
          · rw [if_pos hl, if_pos (by omega)]
          · rw [if_neg hl, if_neg (by omega)]
        | some j =>
          show (if j < n then L[j]?.map _ else some []) = if j + 1 < n + 1 then ((p :: L)[j + 1]?.map fun p => (mk p).path) else some []
          by_cases hl : j < n
          · rw [if_pos hl, if_pos (by omega), List.getElem?_cons_succ]
          · rw [if_neg hl, if_neg (by omega)]
end Wc

set_option Elab.async false
set_option linter.all false
set_option maxRecDepth 100000
set_option maxHeartbeats 1000000
/-! heads of drawn bodies; bodies that are valid -/
namespace Wc
open PySem PySem.Spec PyProof.Rows L2
theorem pathsF_dep : ∀ (f : Nat) (d : Dt), dep d ≤ f → pathsF f d = pathsF (dep d) d
  | 0, d, h => by rw [show dep d = 0 by omega]
  | f + 1, d, h => by
    cases q : dep d with
    | zero =>
      have kn : kids d = [] := by
        cases hk : kids d with
        | nil => rfl
        | cons x l =>
          have := kids_dep (d := d) (x := x) (by rw [hk]; exact List.mem_cons_self)
          omega
      show [] :: (kids d).flatMap _ = [[]]
      rw [kn] <;> rfl
    | succ g =>
      show [] :: (kids d).flatMap (fun x => (pathsF f x.2).map (x.1 :: ·)) = [] :: (kids d).flatMap (fun x => (pathsF g x.2).map (x.1 :: ·))
      congr 1
      refine flatMap_congrW fun x hx => ?_
      have hd := kids_dep hx
      rw [pathsF_dep f x.2 (by omega), pathsF_dep g x.2 (by omega)]
/-- the paths of all parts of a body -/
def paths (d : Dt) : List (List Nat) := pathsF (dep d) d
theorem paths_eq {d : Dt} {f : Nat} (h : dep d ≤ f) : pathsF f d = paths d := pathsF_dep f d h
theorem paths_kids (d : Dt) : paths d = [] :: (kids d).flatMap fun x => (paths x.2).map (x.1 :: ·) := by
  have e : paths d = pathsF (dep d + 1) d := (paths_eq (Nat.le_succ _)).symm
  rw [e]
  show [] :: (kids d).flatMap (fun x => (pathsF (dep d) x.2).map (x.1 :: ·)) = _
  congr 1
  refine flatMap_congrW fun x hx => ?_
  rw [paths_eq (Nat.le_of_lt (kids_dep hx))]
/-- a name, an argument that is none there -/
def badD : Dt → Nat × List Str → Bool
  | .tup [.str w, y], q => if w = "name" then !q.2.contains (strD y) else if w = "arg" then (match y with | .int i => !decide (i < (q.1 : Int)) | _ => false) else false
  | _, _ => false
def formOk (T : List Cl) (d : Dt) : Prop := ∀ p c ns, validB T ⟨d, p, c, ns⟩ = !badD d (c, ns)
/-- the forms are valid: m parts -/
def Fm (T : List Cl) (m : Nat) (d : Dt) : Prop := (paths d).length = m ∧ ∀ p, p ∈ paths d → formOk T (atP d p)
/-- all names and arguments are there -/
def Okc (q : Nat × List Str) (d : Dt) : Prop := ∀ p, p ∈ paths d → badD (atP d p) (scopeP d p q) = false
theorem fm_node {T : List Cl} {d : Dt} {ms : List Nat} (hf : formOk T d) (hk : PySem.Paired (fun (x : Nat × Dt) m => Fm T m x.2) (kids d) ms) : Fm T (1 + ms.sum) d := by
  have key : ∀ (ks : List (Nat × Dt)) (ms : List Nat), PySem.Paired (fun (x : Nat × Dt) m => Fm T m x.2) ks ms → (ks.flatMap fun x => (paths x.2).map (x.1 :: ·)).length = ms.sum := fun ks ms h => by
    induction h with
    | nil => rfl
    | cons a _ ih => rw [List.flatMap_cons, List.length_append, List.length_map, a.1, ih, List.sum_cons]
  refine ⟨?_, fun p hp => ?_⟩
  · rw [paths_kids, List.length_cons, key _ _ hk]
    omega
  · rw [paths_kids] at hp
    rcases List.mem_cons.mp hp with rfl | hp
    · exact hf
    · obtain ⟨x, hx, hp⟩ := List.mem_flatMap.mp hp
      obtain ⟨p2, hp2, rfl⟩ := List.mem_map.mp hp
      show formOk T (atP (kidAt d x.1) p2)
      rw [kids_at hx]
      have mem : ∀ (ks : List (Nat × Dt)) (ms : List Nat), PySem.Paired (fun (x : Nat × Dt) m => Fm T m x.2) ks ms → x ∈ ks → ∃ m, Fm T m x.2 := fun ks ms h => by
        induction h with
        | nil => intro h; cases h
        | cons a _ ih =>
          intro h
          rcases List.mem_cons.mp h with rfl | h
          · exact ⟨_, a⟩
          · exact ih h
      obtain ⟨m, hm⟩ := mem _ _ hk hx
      exact hm.2 p2 hp2
theorem okc_node {q : Nat × List Str} {d : Dt} (hf : badD d q = false) (hk : ∀ x, x ∈ kids d → Okc (stepC d x.1 q) x.2) : Okc q d := fun p hp => by
  rw [paths_kids] at hp
  rcases List.mem_cons.mp hp with rfl | hp
  · exact hf
  · obtain ⟨x, hx, hp⟩ := List.mem_flatMap.mp hp
    obtain ⟨p2, hp2, rfl⟩ := List.mem_map.mp hp
    show badD (atP (kidAt d x.1) p2) (scopeP (kidAt d x.1) p2 (stepC d x.1 q)) = false
    rw [kids_at hx]
    exact hk x hx p2 hp2
/-! ### heads -/
inductive Hd where
  | is_ (c : Str)
  | fld (a : Str)
  | call1 (w f : Str)
  | dfn (f : Str) (sg : List Str)
  | let_ (x : Str)
  | add
  | less
  | call2
  | if_
  | new (x : Str) (k : Nat)
namespace Hd
def sgT (sg : List Str) : Dt := .tup (sg.map Dt.str)
/-- its items; none: a part is to be put there -/
def items : Hd → List (Option Dt)
  | is_ c => [some (.str "is"), none, some (.str c)]
  | fld a => [some (.str "field"), none, some (.str a)]
  | call1 w f => [some (.str w), some (.str f), none]
  | dfn f sg => [some (.str "define"), some (.str f), some (sgT sg), none]
  | let_ x => [some (.str "let"), some (.str x), none, none]
  | add => [some (.str "add"), none, none]
  | less => [some (.str "less"), none, none]
  | call2 => [some (.str "call"), some (.str "f"), none, none]
  | if_ => [some (.str "if"), none, none, none]
  | new x k => some (.str "new") :: some (.str x) :: List.replicate k none
def spots : Hd → List Nat
  | is_ _ => [1]
  | fld _ => [1]
  | call1 _ _ => [2]
  | dfn _ _ => [3]
  | let_ _ => [2, 3]
  | add => [1, 2]
  | less => [1, 2]
  | call2 => [2, 3]
  | if_ => [1, 2, 3]
  | new _ k => (List.range k).map (· + 2)
def ok (T : List Cl) (most : Nat) : Hd → Prop
  | is_ c => c ∈ T.map (·.name)
  | fld a => a = "ax" ∨ a = "f"
  | call1 w f => (w = "call" ∨ w = "newest") ∧ (f = "f" ∨ f = "g")
  | dfn f sg => (f = "f" ∨ f = "h") ∧ (sg.length = 1 ∨ sg.length = 2) ∧ ∀ x, x ∈ sg → x ∈ T.map (·.name)
  | let_ x => (x = "x" ∨ x = "y") ∧ 2 ≤ most
  | add => 2 ≤ most
  | less => 2 ≤ most
  | call2 => 2 ≤ most
  | if_ => 3 ≤ most
  | new x k => x ≠ "int" ∧ 0 < k ∧ k ≤ most ∧ ∃ c, findC T x = some c ∧ c.all.length = k
/-- with parts put there -/
def node : Hd → List Dt → Dt
  | is_ c, ds => .tup [.str "is", ds.getD 0 .oth, .str c]
  | fld a, ds => .tup [.str "field", ds.getD 0 .oth, .str a]
  | call1 w f, ds => .tup [.str w, .str f, ds.getD 0 .oth]
  | dfn f sg, ds => .tup [.str "define", .str f, sgT sg, ds.getD 0 .oth]
  | let_ x, ds => .tup [.str "let", .str x, ds.getD 0 .oth, ds.getD 1 .oth]
  | add, ds => .tup [.str "add", ds.getD 0 .oth, ds.getD 1 .oth]
  | less, ds => .tup [.str "less", ds.getD 0 .oth, ds.getD 1 .oth]
  | call2, ds => .tup [.str "call", .str "f", ds.getD 0 .oth, ds.getD 1 .oth]
  | if_, ds => .tup [.str "if", ds.getD 0 .oth, ds.getD 1 .oth, ds.getD 2 .oth]
  | new x k, ds => .tup (.str "new" :: .str x :: (List.range k).map fun i => ds.getD i .oth)
/-- what may be named at a spot -/
def ctx : Hd → Nat → Nat × List Str → Nat × List Str
  | let_ x, i, q => if i = 3 then (q.1, q.2 ++ [x]) else q
  | dfn _ sg, _, _ => (sg.length, [])
  | _, _, q => q
end Hd
theorem kids_of {w : Str} {l : List Dt} {n : Nat} {ks : List Nat} (hn : l.length + 1 = n) (h : withinI w n = ks) : kids (.tup (.str w :: l)) = ks.map fun i => (i, (Dt.str w :: l).getD i .oth) := by
  subst hn
  rw [← h] <;> rfl
theorem kids_node {T : List Cl} {most : Nat} {hd : Hd} (o : hd.ok T most) {ds : List Dt} (hl : ds.length = hd.spots.length) : kids (hd.node ds) = hd.spots.zip ds := by
  obtain ⟨t1, t2, t3, t4, t5, t6, t7⟩ := in_two
  have one : ∀ {a : Nat}, ds.length = 1 → ∃ d, ds = [d] := fun h => by
    match ds, h with
    | [d], _ => exact ⟨d, rfl⟩
  have two : ds.length = 2 → ∃ d e, ds = [d, e] := fun h => by
    match ds, h with
    | [d, e], _ => exact ⟨d, e, rfl⟩
  cases hd with
  | is_ c =>
    obtain ⟨d, rfl⟩ := one (a := 0) hl
    exact (kids_of (n := 3) rfl t3).trans rfl
  | fld a =>
    obtain ⟨d, rfl⟩ := one (a := 0) hl
    exact (kids_of (n := 3) rfl t2).trans rfl
  | call1 w f =>
    obtain ⟨d, rfl⟩ := one (a := 0) hl
    have hw : isCallW w = true := by
      rcases o.1 with rfl | rfl
      · exact isCall_call.1
      · exact isCall_call.2
    exact (kids_of (n := 3) rfl (in_call hw).1).trans rfl
  | dfn f sg =>
    obtain ⟨d, rfl⟩ := one (a := 0) hl
    exact (kids_of (n := 4) rfl t7).trans rfl
  | let_ x =>
    obtain ⟨d, e, rfl⟩ := two hl
    exact (kids_of (n := 4) rfl t1).trans rfl
  | add =>
    obtain ⟨d, e, rfl⟩ := two hl
    exact (kids_of (n := 3) rfl t4).trans rfl
  | less =>
    obtain ⟨d, e, rfl⟩ := two hl
    exact (kids_of (n := 3) rfl t5).trans rfl
  | call2 =>
    obtain ⟨d, e, rfl⟩ := two hl
    exact (kids_of (n := 4) rfl (in_call isCall_call.1).2).trans rfl
  | if_ =>
    match ds, hl with
    | [d, e, g], _ =>
      exact (kids_of (n := 4) rfl t6).trans rfl
  | new x k =>
    have hk : k ≤ 3 ∨ True := .inr trivial
    have hlen : ds.length = k := by
      rw [hl]
      show ((List.range k).map (· + 2)).length = k
      simp
    show (withinI "new" (((List.range k).map fun i => ds.getD i .oth).length + 1 + 1)).map _ = ((List.range k).map (· + 2)).zip ds
    rw [List.length_map, List.length_range]
    have e : withinI "new" (k + 1 + 1) = (List.range k).map (· + 2) := by
      unfold withinI
      rw [if_pos (.inr rfl)]
      rfl
    rw [e, List.map_map]
    apply List.ext_getElem?
    intro i
    rw [List.getElem?_map]
    by_cases hi : i < k
    · rw [List.getElem?_range hi]
      show some (i + 2, (Dt.str "new" :: Dt.str x :: (List.range k).map fun i => ds.getD i .oth).getD (i + 2) .oth) = _
      have z : (((List.range k).map (· + 2)).zip ds)[i]? = some (i + 2, ds[i]'(by omega)) := List.getElem?_zip_eq_some.mpr ⟨by rw [List.getElem?_map, List.getElem?_range hi] <;> rfl, List.getElem?_eq_getElem (by omega)⟩
      rw [z]
      congr 2
      show ((List.range k).map fun i => ds.getD i .oth).getD i .oth = _
      rw [List.getD_eq_getElem?_getD, List.getElem?_map, List.getElem?_range hi]
      show ds.getD i .oth = _
      rw [List.getD_eq_getElem?_getD, List.getElem?_eq_getElem (by omega)] <;> rfl
    · have h1 : (List.range k)[i]? = none := List.getElem?_eq_none (by simp; omega)
      rw [h1]
      symm
      exact List.getElem?_eq_none (by simp; omega)
end Wc

set_option Elab.async false
set_option linter.all false
set_option maxRecDepth 100000
set_option maxHeartbeats 1000000
/-! drawn bodies are valid -/
namespace Wc
open PySem PySem.Spec PyProof.Rows L2
/-- parts put at their places, one after the other -/
def fill (l : List (Option Dt)) : List Nat → List Dt → List (Option Dt)
  | s :: ss, d :: ds => fill (l.set s (some d)) ss ds
  | _, _ => l
theorem fill_nil (l : List (Option Dt)) (ss : List Nat) : fill l ss [] = l := by cases ss <;> rfl
theorem fill_snoc : ∀ (ds : List Dt) (ss : List Nat) (l : List (Option Dt)) (d : Dt) (s : Nat), ss[ds.length]? = some s → fill l ss (ds ++ [d]) = (fill l ss ds).set s (some d)
  | [], ss, l, d, s, h => by
    cases ss with
    | nil => cases h
    | cons a ss =>
      have h : a = s := by simpa using h
      subst h
      show fill (l.set a (some d)) ss [] = (fill l (a :: ss) []).set a (some d)
      rw [fill_nil, fill_nil]
  | e :: ds, ss, l, d, s, h => by
    cases ss with
    | nil => cases h
    | cons a ss => exact fill_snoc ds ss (l.set a (some e)) d s (by simpa using h)
theorem fill_range : ∀ (ds : List Dt) (a : List (Option Dt)), fill (a ++ List.replicate ds.length none) (List.range' a.length ds.length) ds = a ++ ds.map some
  | [], a => by
    rw [fill_nil] <;> rfl
  | d :: ds, a => by
    rw [List.length_cons, List.range'_succ]
    show fill ((a ++ List.replicate (ds.length + 1) none).set a.length (some d)) (List.range' (a.length + 1) ds.length) ds = _
    rw [List.replicate_succ, List.set_append_right _ _ (Nat.le_refl _), Nat.sub_self]
    have h := fill_range ds (a ++ [some d])
    rw [List.length_append, List.append_assoc, List.append_assoc] at h
    exact h
theorem range_getD (ds : List Dt) : ((List.range ds.length).map fun i => ds.getD i .oth) = ds := by
  apply List.ext_getElem?
  intro i
  by_cases h : i < ds.length
  · rw [List.getElem?_map, List.getElem?_range h, List.getElem?_eq_getElem h]
    show some (ds.getD i .oth) = _
    rw [List.getD_eq_getElem?_getD, List.getElem?_eq_getElem h] <;> rfl
  · rw [List.getElem?_eq_none (by simp; omega), List.getElem?_eq_none (by omega)]
theorem ds_one {ds : List Dt} (h : ds.length = 1) : ∃ d, ds = [d] := by
  match ds, h with
  | [d], _ => exact ⟨d, rfl⟩
theorem ds_two {ds : List Dt} (h : ds.length = 2) : ∃ d e, ds = [d, e] := by
  match ds, h with
  | [d, e], _ => exact ⟨d, e, rfl⟩
theorem ds_three {ds : List Dt} (h : ds.length = 3) : ∃ d e g, ds = [d, e, g] := by
  match ds, h with
  | [d, e, g], _ => exact ⟨d, e, g, rfl⟩
theorem spots_new (x : Str) (k : Nat) : (Hd.new x k).spots.length = k := by
  show ((List.range k).map (· + 2)).length = k
  simp
theorem node_items {hd : Hd} {ds : List Dt} (hl : ds.length = hd.spots.length) : ∃ l, hd.node ds = .tup l ∧ fill hd.items hd.spots ds = l.map some := by
  cases hd with
  | is_ c =>
    obtain ⟨d, rfl⟩ := ds_one hl
    exact ⟨_, rfl, rfl⟩
  | fld a =>
    obtain ⟨d, rfl⟩ := ds_one hl
    exact ⟨_, rfl, rfl⟩
  | call1 w f =>
    obtain ⟨d, rfl⟩ := ds_one hl
    exact ⟨_, rfl, rfl⟩
  | dfn f sg =>
    obtain ⟨d, rfl⟩ := ds_one hl
    exact ⟨_, rfl, rfl⟩
  | let_ x =>
    obtain ⟨d, e, rfl⟩ := ds_two hl
    exact ⟨_, rfl, rfl⟩
  | add =>
    obtain ⟨d, e, rfl⟩ := ds_two hl
    exact ⟨_, rfl, rfl⟩
  | less =>
    obtain ⟨d, e, rfl⟩ := ds_two hl
    exact ⟨_, rfl, rfl⟩
  | call2 =>
    obtain ⟨d, e, rfl⟩ := ds_two hl
    exact ⟨_, rfl, rfl⟩
  | if_ =>
    obtain ⟨d, e, g, rfl⟩ := ds_three hl
    exact ⟨_, rfl, rfl⟩
  | new x k =>
    rw [spots_new] at hl
    subst hl
    refine ⟨_, rfl, ?_⟩
    rw [range_getD]
    have e : (Hd.new x ds.length).spots = List.range' 2 ds.length := by
      show (List.range ds.length).map (· + 2) = _
      rw [List.range'_eq_map_range]
      exact List.map_congr_left fun i _ => Nat.add_comm _ _
    rw [e]
    exact fill_range ds [some (.str "new"), some (.str x)]
/-! ### what may be named within -/
theorem step_plain {w : Str} {l : List Dt} {i : Nat} {q : Nat × List Str} (h1 : w ≠ "define") (h2 : w ≠ "let") : stepC (.tup (.str w :: l)) i q = q := by
  show ((if w = "define" then _ else q.1, if w = "define" then _ else if w = "let" ∧ i = 3 then _ else q.2) : Nat × List Str) = q
  rw [if_neg h1, if_neg h1, if_neg (fun z => h2 z.1)]
theorem step_node {T : List Cl} {most : Nat} {hd : Hd} (o : hd.ok T most) {ds : List Dt} {i : Nat} {q : Nat × List Str} : stepC (hd.node ds) i q = hd.ctx i q := by
  cases hd with
  | is_ c => exact step_plain (by decide +kernel) (by decide +kernel)
  | fld a => exact step_plain (by decide +kernel) (by decide +kernel)
  | call1 w f =>
    rcases o.1 with rfl | rfl
    · exact step_plain (by decide +kernel) (by decide +kernel)
    · exact step_plain (by decide +kernel) (by decide +kernel)
  | dfn f sg =>
    show ((if ("define" : Str) = "define" then _ else q.1, if ("define" : Str) = "define" then [] else _) : Nat × List Str) = (sg.length, [])
    rw [if_pos rfl, if_pos rfl]
    show ((sg.map Dt.str).length, []) = _
    rw [List.length_map]
  | let_ x =>
    have n : ("let" : Str) ≠ "define" := by decide +kernel
    show ((if ("let" : Str) = "define" then _ else q.1, if ("let" : Str) = "define" then [] else if ("let" : Str) = "let" ∧ i = 3 then q.2 ++ [x] else q.2) : Nat × List Str) = (if i = 3 then (q.1, q.2 ++ [x]) else q)
    rw [if_neg n, if_neg n]
    by_cases h : i = 3
    · rw [if_pos ⟨rfl, h⟩, if_pos h]
    · rw [if_neg (fun z => h z.2), if_neg h]
  | add => exact step_plain (by decide +kernel) (by decide +kernel)
  | less => exact step_plain (by decide +kernel) (by decide +kernel)
  | call2 => exact step_plain (by decide +kernel) (by decide +kernel)
  | if_ => exact step_plain (by decide +kernel) (by decide +kernel)
  | new x k => exact step_plain (by decide +kernel) (by decide +kernel)
/-! ### its form -/
theorem BK.clsT {T : List Cl} {n : Nat} (w : BK T n) {x : Str} (h : x ∈ T.map (·.name)) : clsD T (.str x) = true := by
  obtain ⟨c, hc, rfl⟩ := List.mem_map.mp h
  show (nameS c.name && (findC T c.name).isSome) = true
  rw [(bkN_ok _ (w.nm c hc)).1, w.find hc] <;> rfl
theorem sig_ok {T : List Cl} {n : Nat} (w : BK T n) {sg : List Str} (hl : sg.length = 1 ∨ sg.length = 2) (h : ∀ x, x ∈ sg → x ∈ T.map (·.name)) : sigD T (Hd.sgT sg) = true := by
  match sg, hl with
  | [a], _ =>
    show ((decide (1 = 1) || decide (1 = 2)) && (clsD T (.str a) && true)) = true
    rw [w.clsT (h a (by simp))] <;> rfl
  | [a, b], _ =>
    show ((decide (2 = 1) || decide (2 = 2)) && (clsD T (.str a) && (clsD T (.str b) && true))) = true
    rw [w.clsT (h a (by simp)), w.clsT (h b (by simp))] <;> rfl
  | a :: b :: c :: l, hl => simp at hl
theorem form_of {T : List Cl} {d : Dt} (h : ∀ p c ns, validB T ⟨d, p, c, ns⟩ = true) (b : ∀ q, badD d q = false) : formOk T d := fun p c ns => by
  rw [h p c ns, b] <;> rfl
theorem node_form {T : List Cl} {n most : Nat} (w : BK T n) {hd : Hd} (o : hd.ok T most) {ds : List Dt} (hl : ds.length = hd.spots.length) : formOk T (hd.node ds) ∧ ∀ q, badD (hd.node ds) q = false := by
  have mk : ∀ {d : Dt}, (∀ p c ns, validB T ⟨d, p, c, ns⟩ = true) → (∀ q, badD d q = false) → formOk T d ∧ ∀ q, badD d q = false := fun h b => ⟨form_of h b, b⟩
  cases hd with
  | is_ c => exact mk (fun p c ns => by show validB T ⟨.tup [.str "is", _, .str _], p, c, ns⟩ = true; rw [Wc.v_is]; exact w.clsT o) fun q => rfl
  | fld a => exact mk (fun p c ns => by
      show validB T ⟨.tup [.str "field", _, .str _], p, c, ns⟩ = true
      rw [v_field]
      rcases o with rfl | rfl <;> decide +kernel) fun q => rfl
  | call1 w2 f => exact mk (fun p c ns => by
      refine v_call (a := .str f) ?_ ?_ (.inl rfl)
      · rcases o.1 with rfl | rfl <;> decide +kernel
      · rcases o.2 with rfl | rfl <;> decide +kernel) fun q => rfl
  | dfn f sg => exact mk (fun p c ns => by
      show validB T ⟨.tup [.str "define", .str f, Hd.sgT sg, _], p, c, ns⟩ = true
      rw [v_define, sig_ok w o.2.1 o.2.2]
      rcases o.1 with rfl | rfl <;> decide +kernel) fun q => rfl
  | let_ x => exact mk (fun p c ns => by
      show validB T ⟨.tup [.str "let", .str x, _, _], p, c, ns⟩ = true
      rw [v_let]
      rcases o.1 with rfl | rfl <;> decide +kernel) fun q => rfl
  | add => exact mk (fun p c ns => v_add) fun q => rfl
  | less => exact mk (fun p c ns => v_less) fun q => rfl
  | call2 => exact mk (fun p c ns => by
      refine v_call (a := .str "f") ?_ ?_ (.inr rfl)
      · decide +kernel
      · decide +kernel) fun q => rfl
  | if_ => exact mk (fun p c ns => v_if) fun q => rfl
  | new x k =>
    obtain ⟨o1, o2, o3, c, o4, o5⟩ := o
    refine mk (fun p c2 ns => ?_) fun q => ?_
    · show validB T ⟨.tup (.str "new" :: .str x :: _), p, c2, ns⟩ = true
      have hm := find_mem o4
      have e : Wc.fieldsOf T (.str x) = k := by
        show (match findC T x with | some c => c.all.length | none => 0) = _
        rw [o4]
        exact o5
      rw [v_new, e, w.clsT (List.mem_map.mpr ⟨c, hm.1, hm.2⟩), decide_eq_false o1, List.length_map, List.length_range, decide_eq_true rfl] <;> rfl
    · cases k with
      | zero => exact absurd o2 (by decide)
      | succ k =>
        show badD (.tup (.str "new" :: .str x :: (List.range (k + 1)).map _)) q = false
        rw [List.range_succ_eq_map] <;> rfl
/-! ### how deep -/
theorem deps_le {l : List Dt} {k : Nat} (h : ∀ d, d ∈ l → dep d ≤ k) : deps l ≤ k := by
  induction l with
  | nil => exact Nat.zero_le _
  | cons a l ih => exact Nat.max_le.mpr ⟨h a List.mem_cons_self, ih fun d hd => h d (List.mem_cons_of_mem _ hd)⟩
theorem getD_dep {ds : List Dt} {k : Nat} (h : ∀ d, d ∈ ds → dep d ≤ k) (i : Nat) : dep (ds.getD i .oth) ≤ k := by
  rw [List.getD_eq_getElem?_getD]
  cases q : ds[i]? with
  | none => exact Nat.zero_le _
  | some d => exact h d (List.mem_of_getElem? q)
theorem node_dep {hd : Hd} {ds : List Dt} {k : Nat} (hk : 1 ≤ k) (h : ∀ d, d ∈ ds → dep d ≤ k) : dep (hd.node ds) ≤ k + 1 := by
  have g := getD_dep h
  have z : ∀ s : Str, dep (.str s) ≤ k := fun s => Nat.zero_le _
  have mk : ∀ l : List Dt, (∀ d, d ∈ l → dep d ≤ k) → dep (.tup l) ≤ k + 1 := fun l hl => Nat.succ_le_succ (deps_le hl)
  have cons : ∀ {a : Dt} {l : List Dt}, dep a ≤ k → (∀ d, d ∈ l → dep d ≤ k) → ∀ d, d ∈ a :: l → dep d ≤ k := fun {a l} ha hl d hd => by
    rcases List.mem_cons.mp hd with rfl | hd
    · exact ha
    · exact hl d hd
  have nil : ∀ d : Dt, d ∈ ([] : List Dt) → dep d ≤ k := fun d hd => by cases hd
  have sg : ∀ l : List Str, dep (Hd.sgT l) ≤ k := fun l => by
    refine Nat.le_trans (Nat.succ_le_succ (deps_le (k := 0) fun d hd => ?_)) hk
    obtain ⟨s, _, rfl⟩ := List.mem_map.mp hd
    exact Nat.zero_le _
  cases hd with
  | is_ c => exact mk _ (cons (z _) (cons (g _) (cons (z _) nil)))
  | fld a => exact mk _ (cons (z _) (cons (g _) (cons (z _) nil)))
  | call1 w f => exact mk _ (cons (z _) (cons (z _) (cons (g _) nil)))
  | dfn f l => exact mk _ (cons (z _) (cons (z _) (cons (sg l) (cons (g _) nil))))
  | let_ x => exact mk _ (cons (z _) (cons (z _) (cons (g _) (cons (g _) nil))))
  | add => exact mk _ (cons (z _) (cons (g _) (cons (g _) nil)))
  | less => exact mk _ (cons (z _) (cons (g _) (cons (g _) nil)))
  | call2 => exact mk _ (cons (z _) (cons (z _) (cons (g _) (cons (g _) nil))))
  | if_ => exact mk _ (cons (z _) (cons (g _) (cons (g _) (cons (g _) nil))))
  | new x k2 => exact mk _ (cons (z _) (cons (z _) fun d hd => by
      obtain ⟨i, _, rfl⟩ := List.mem_map.mp hd
      exact g i))
/-! ### a node of valid parts -/
theorem paired_zip {T : List Cl} : ∀ {ss : List Nat} {ds : List Dt} {ms : List Nat}, ss.length = ds.length → PySem.Paired (fun d m => Fm T m d) ds ms → PySem.Paired (fun (x : Nat × Dt) m => Fm T m x.2) (ss.zip ds) ms
  | [], _, _, h, .nil => .nil
  | [], _, _, h, .cons _ _ => by cases h
  | _ :: _, _, _, h, .nil => by cases h
  | s :: ss, _, _, h, .cons a t => .cons a (paired_zip (by simpa using h) t)
theorem node_fm {T : List Cl} {n most : Nat} (w : BK T n) {hd : Hd} (o : hd.ok T most) {ds : List Dt} {ms : List Nat} (hl : ds.length = hd.spots.length) (h : PySem.Paired (fun d m => Fm T m d) ds ms) : Fm T (1 + ms.sum) (hd.node ds) :=
  fm_node (node_form w o hl).1 (by rw [kids_node o hl]; exact paired_zip hl.symm h)
theorem node_okc {T : List Cl} {n most : Nat} (w : BK T n) {hd : Hd} (o : hd.ok T most) {ds : List Dt} {q : Nat × List Str} (hl : ds.length = hd.spots.length) (h : ∀ (i s : Nat) (d : Dt), hd.spots[i]? = some s → ds[i]? = some d → Okc (hd.ctx s q) d) : Okc q (hd.node ds) :=
  okc_node ((node_form w o hl).2 q) fun x hx => by
    rw [kids_node o hl] at hx
    rw [step_node o]
    obtain ⟨i, hi⟩ := List.mem_iff_getElem?.mp hx
    obtain ⟨h1, h2⟩ := List.getElem?_zip_eq_some.mp hi
    exact h i x.1 x.2 h1 h2
/-! ### leaves -/
theorem paths_leaf {d : Dt} (h : kids d = []) : paths d = [[]] := by
  rw [paths_kids, h] <;> rfl
theorem fm_leaf {T : List Cl} {d : Dt} (h : kids d = []) (f : formOk T d) : Fm T 1 d := ⟨by rw [paths_leaf h] <;> rfl, fun p hp => by
  rw [paths_leaf h, List.mem_singleton] at hp
  subst hp
  exact f⟩
theorem okc_leaf {q : Nat × List Str} {d : Dt} (h : kids d = []) (b : badD d q = false) : Okc q d := fun p hp => by
  rw [paths_leaf h, List.mem_singleton] at hp
  subst hp
  exact b
theorem kids_leaf2 {w : Str} {a : Dt} (h : withinI w 2 = []) : kids (.tup [.str w, a]) = [] := by
  show (withinI w 2).map _ = []
  rw [h] <;> rfl
end Wc

set_option Elab.async false
set_option linter.all false
set_option maxRecDepth 100000
set_option maxHeartbeats 0
namespace K10
open PySem PySem.Spec PyProof.Rows L2 Wc
def top (i : Nat) : Stmt := PySem.Challenge.pw_worldcalls_k10_valid_bodies.main.body.getD i (.Pass ⟨0, 0, 0, 0⟩)
abbrev s__wall : Stmt := top 0
theorem sc__wall : FnScope ["k"] ["k"] (defScope s__wall) := ⟨rfl, rfl, rfl, by decide +kernel, rfl, by decide +kernel, by decide +kernel⟩
def d__wall : He.DefD := ⟨("_wall", none), "_wall", "_wall", defArgs s__wall, defBody s__wall, defScope s__wall, [], []⟩
abbrev s_NoWorld_init : Stmt := inClass (top 3) 0
theorem sc_NoWorld_init : FnScope ["self", "world"] ["self", "world"] (defScope s_NoWorld_init) := ⟨rfl, rfl, rfl, by decide +kernel, rfl, by decide +kernel, by decide +kernel⟩
def d_NoWorld_init : He.DefD := ⟨("NoWorld", some "__init__"), "__init__", "NoWorld.__init__", defArgs s_NoWorld_init, defBody s_NoWorld_init, defScope s_NoWorld_init, [], []⟩
abbrev s_NoClass_init : Stmt := inClass (top 4) 0
theorem sc_NoClass_init : FnScope ["self", "name"] ["self", "name"] (defScope s_NoClass_init) := ⟨rfl, rfl, rfl, by decide +kernel, rfl, by decide +kernel, by decide +kernel⟩
def d_NoClass_init : He.DefD := ⟨("NoClass", some "__init__"), "__init__", "NoClass.__init__", defArgs s_NoClass_init, defBody s_NoClass_init, defScope s_NoClass_init, [], []⟩
abbrev s_Taken_init : Stmt := inClass (top 5) 0
theorem sc_Taken_init : FnScope ["self", "name"] ["self", "name"] (defScope s_Taken_init) := ⟨rfl, rfl, rfl, by decide +kernel, rfl, by decide +kernel, by decide +kernel⟩
def d_Taken_init : He.DefD := ⟨("Taken", some "__init__"), "__init__", "Taken.__init__", defArgs s_Taken_init, defBody s_Taken_init, defScope s_Taken_init, [], []⟩
abbrev s_NoField_init : Stmt := inClass (top 6) 0
theorem sc_NoField_init : FnScope ["self", "field"] ["self", "field"] (defScope s_NoField_init) := ⟨rfl, rfl, rfl, by decide +kernel, rfl, by decide +kernel, by decide +kernel⟩
def d_NoField_init : He.DefD := ⟨("NoField", some "__init__"), "__init__", "NoField.__init__", defArgs s_NoField_init, defBody s_NoField_init, defScope s_NoField_init, [], []⟩
abbrev s_NoCount_init : Stmt := inClass (top 7) 0
theorem sc_NoCount_init : FnScope ["self", "count"] ["self", "count"] (defScope s_NoCount_init) := ⟨rfl, rfl, rfl, by decide +kernel, rfl, by decide +kernel, by decide +kernel⟩
def d_NoCount_init : He.DefD := ⟨("NoCount", some "__init__"), "__init__", "NoCount.__init__", defArgs s_NoCount_init, defBody s_NoCount_init, defScope s_NoCount_init, [], []⟩
abbrev s_NoBody_init : Stmt := inClass (top 8) 0
theorem sc_NoBody_init : FnScope ["self", "path"] ["self", "path"] (defScope s_NoBody_init) := ⟨rfl, rfl, rfl, by decide +kernel, rfl, by decide +kernel, by decide +kernel⟩
def d_NoBody_init : He.DefD := ⟨("NoBody", some "__init__"), "__init__", "NoBody.__init__", defArgs s_NoBody_init, defBody s_NoBody_init, defScope s_NoBody_init, [], []⟩
abbrev s_NoFunction_init : Stmt := inClass (top 9) 0
theorem sc_NoFunction_init : FnScope ["self", "function"] ["self", "function"] (defScope s_NoFunction_init) := ⟨rfl, rfl, rfl, by decide +kernel, rfl, by decide +kernel, by decide +kernel⟩
def d_NoFunction_init : He.DefD := ⟨("NoFunction", some "__init__"), "__init__", "NoFunction.__init__", defArgs s_NoFunction_init, defBody s_NoFunction_init, defScope s_NoFunction_init, [], []⟩
abbrev s_NoSignature_init : Stmt := inClass (top 10) 0
theorem sc_NoSignature_init : FnScope ["self", "signature"] ["self", "signature"] (defScope s_NoSignature_init) := ⟨rfl, rfl, rfl, by decide +kernel, rfl, by decide +kernel, by decide +kernel⟩
def d_NoSignature_init : He.DefD := ⟨("NoSignature", some "__init__"), "__init__", "NoSignature.__init__", defArgs s_NoSignature_init, defBody s_NoSignature_init, defScope s_NoSignature_init, [], []⟩
abbrev s_NotThere_init : Stmt := inClass (top 11) 0
theorem sc_NotThere_init : FnScope ["self", "signature"] ["self", "signature"] (defScope s_NotThere_init) := ⟨rfl, rfl, rfl, by decide +kernel, rfl, by decide +kernel, by decide +kernel⟩
def d_NotThere_init : He.DefD := ⟨("NotThere", some "__init__"), "__init__", "NotThere.__init__", defArgs s_NotThere_init, defBody s_NotThere_init, defScope s_NotThere_init, [], []⟩
abbrev s_is_integer : Stmt := top 14
theorem sc_is_integer : FnScope ["thing"] ["thing"] (defScope s_is_integer) := ⟨rfl, rfl, rfl, by decide +kernel, rfl, by decide +kernel, by decide +kernel⟩
def d_is_integer : He.DefD := ⟨("is_integer", none), "is_integer", "is_integer", defArgs s_is_integer, defBody s_is_integer, defScope s_is_integer, [], []⟩
abbrev s_is_between : Stmt := top 15
theorem sc_is_between : FnScope ["thing", "low", "high"] ["thing", "low", "high"] (defScope s_is_between) := ⟨rfl, rfl, rfl, by decide +kernel, rfl, by decide +kernel, by decide +kernel⟩
def d_is_between : He.DefD := ⟨("is_between", none), "is_between", "is_between", defArgs s_is_between, defBody s_is_between, defScope s_is_between, [], []⟩
abbrev s_is_name : Stmt := top 16
theorem sc_is_name : FnScope ["thing", "letter"] ["thing"] (defScope s_is_name) := ⟨rfl, rfl, rfl, by decide +kernel, rfl, by decide +kernel, by decide +kernel⟩
def d_is_name : He.DefD := ⟨("is_name", none), "is_name", "is_name", defArgs s_is_name, defBody s_is_name, defScope s_is_name, [], []⟩
abbrev s_Kind_init : Stmt := inClass (top 18) 0
theorem sc_Kind_init : FnScope ["self", "parent", "fields", "since"] ["self", "parent", "fields", "since"] (defScope s_Kind_init) := ⟨rfl, rfl, rfl, by decide +kernel, rfl, by decide +kernel, by decide +kernel⟩
def d_Kind_init : He.DefD := ⟨("Kind", some "__init__"), "__init__", "Kind.__init__", defArgs s_Kind_init, defBody s_Kind_init, defScope s_Kind_init, [], []⟩
abbrev s_Runtime_init : Stmt := inClass (top 19) 0
theorem sc_Runtime_init : FnScope ["self"] ["self"] (defScope s_Runtime_init) := ⟨rfl, rfl, rfl, by decide +kernel, rfl, by decide +kernel, by decide +kernel⟩
def d_Runtime_init : He.DefD := ⟨("Runtime", some "__init__"), "__init__", "Runtime.__init__", defArgs s_Runtime_init, defBody s_Runtime_init, defScope s_Runtime_init, [], []⟩
abbrev s_Runtime_newest : Stmt := inClass (top 19) 1
theorem sc_Runtime_newest : FnScope ["self"] ["self"] (defScope s_Runtime_newest) := ⟨rfl, rfl, rfl, by decide +kernel, rfl, by decide +kernel, by decide +kernel⟩
def d_Runtime_newest : He.DefD := ⟨("Runtime", some "newest"), "newest", "Runtime.newest", defArgs s_Runtime_newest, defBody s_Runtime_newest, defScope s_Runtime_newest, [], []⟩
abbrev s_Runtime_table : Stmt := inClass (top 19) 2
theorem sc_Runtime_table : FnScope ["self", "world"] ["self", "world"] (defScope s_Runtime_table) := ⟨rfl, rfl, rfl, by decide +kernel, rfl, by decide +kernel, by decide +kernel⟩
def d_Runtime_table : He.DefD := ⟨("Runtime", some "table"), "table", "Runtime.table", defArgs s_Runtime_table, defBody s_Runtime_table, defScope s_Runtime_table, [], []⟩
abbrev s_Runtime_add_world : Stmt := inClass (top 19) 3
theorem sc_Runtime_add_world : FnScope ["self", "table"] ["self", "table"] (defScope s_Runtime_add_world) := ⟨rfl, rfl, rfl, by decide +kernel, rfl, by decide +kernel, by decide +kernel⟩
def d_Runtime_add_world : He.DefD := ⟨("Runtime", some "add_world"), "add_world", "Runtime.add_world", defArgs s_Runtime_add_world, defBody s_Runtime_add_world, defScope s_Runtime_add_world, [], []⟩
abbrev s_Runtime_copied : Stmt := inClass (top 19) 4
theorem sc_Runtime_copied : FnScope ["self"] ["self"] (defScope s_Runtime_copied) := ⟨rfl, rfl, rfl, by decide +kernel, rfl, by decide +kernel, by decide +kernel⟩
def d_Runtime_copied : He.DefD := ⟨("Runtime", some "copied"), "copied", "Runtime.copied", defArgs s_Runtime_copied, defBody s_Runtime_copied, defScope s_Runtime_copied, [], []⟩
abbrev s_now : Stmt := top 20
theorem sc_now : FnScope ["runtime"] ["runtime"] (defScope s_now) := ⟨rfl, rfl, rfl, by decide +kernel, rfl, by decide +kernel, by decide +kernel⟩
def d_now : He.DefD := ⟨("now", none), "now", "now", defArgs s_now, defBody s_now, defScope s_now, [], []⟩
abbrev s_world_of : Stmt := top 21
theorem sc_world_of : FnScope ["runtime", "world"] ["runtime", "world"] (defScope s_world_of) := ⟨rfl, rfl, rfl, by decide +kernel, rfl, by decide +kernel, by decide +kernel⟩
def d_world_of : He.DefD := ⟨("world_of", none), "world_of", "world_of", defArgs s_world_of, defBody s_world_of, defScope s_world_of, [], []⟩
abbrev s_is_class : Stmt := top 24
theorem sc_is_class : FnScope ["runtime", "name"] ["runtime", "name"] (defScope s_is_class) := ⟨rfl, rfl, rfl, by decide +kernel, rfl, by decide +kernel, by decide +kernel⟩
def d_is_class : He.DefD := ⟨("is_class", none), "is_class", "is_class", defArgs s_is_class, defBody s_is_class, defScope s_is_class, [], []⟩
abbrev s_check_class : Stmt := top 25
theorem sc_check_class : FnScope ["runtime", "name"] ["runtime", "name"] (defScope s_check_class) := ⟨rfl, rfl, rfl, by decide +kernel, rfl, by decide +kernel, by decide +kernel⟩
def d_check_class : He.DefD := ⟨("check_class", none), "check_class", "check_class", defArgs s_check_class, defBody s_check_class, defScope s_check_class, [], []⟩
abbrev s_own_fields : Stmt := top 26
theorem sc_own_fields : FnScope ["runtime", "parent", "fields", "names", "item", "name", "bound"] ["runtime", "parent", "fields"] (defScope s_own_fields) := ⟨rfl, rfl, rfl, by decide +kernel, rfl, by decide +kernel, by decide +kernel⟩
def d_own_fields : He.DefD := ⟨("own_fields", none), "own_fields", "own_fields", defArgs s_own_fields, defBody s_own_fields, defScope s_own_fields, [], []⟩
abbrev s_add_class : Stmt := top 27
theorem sc_add_class : FnScope ["runtime", "name", "parent", "fields", "every", "world"] ["runtime", "name", "parent", "fields"] (defScope s_add_class) := ⟨rfl, rfl, rfl, by decide +kernel, rfl, by decide +kernel, by decide +kernel⟩
def d_add_class : He.DefD := ⟨("add_class", none), "add_class", "add_class", defArgs s_add_class, defBody s_add_class, defScope s_add_class, [], []⟩
abbrev s_Place_init : Stmt := inClass (top 34) 0
theorem sc_Place_init : FnScope ["self", "part", "path", "count", "names"] ["self", "part", "path", "count", "names"] (defScope s_Place_init) := ⟨rfl, rfl, rfl, by decide +kernel, rfl, by decide +kernel, by decide +kernel⟩
def d_Place_init : He.DefD := ⟨("Place", some "__init__"), "__init__", "Place.__init__", defArgs s_Place_init, defBody s_Place_init, defScope s_Place_init, [], []⟩
abbrev s_is_signature : Stmt := top 35
theorem sc_is_signature : FnScope ["runtime", "thing", "name"] ["runtime", "thing"] (defScope s_is_signature) := ⟨rfl, rfl, rfl, by decide +kernel, rfl, by decide +kernel, by decide +kernel⟩
def d_is_signature : He.DefD := ⟨("is_signature", none), "is_signature", "is_signature", defArgs s_is_signature, defBody s_is_signature, defScope s_is_signature, [], []⟩
abbrev s_indexes_within : Stmt := top 36
theorem sc_indexes_within : FnScope ["part"] ["part"] (defScope s_indexes_within) := ⟨rfl, rfl, rfl, by decide +kernel, rfl, by decide +kernel, by decide +kernel⟩
def d_indexes_within : He.DefD := ⟨("indexes_within", none), "indexes_within", "indexes_within", defArgs s_indexes_within, defBody s_indexes_within, defScope s_indexes_within, [], []⟩
abbrev s_is_call_part : Stmt := top 37
theorem sc_is_call_part : FnScope ["part"] ["part"] (defScope s_is_call_part) := ⟨rfl, rfl, rfl, by decide +kernel, rfl, by decide +kernel, by decide +kernel⟩
def d_is_call_part : He.DefD := ⟨("is_call_part", none), "is_call_part", "is_call_part", defArgs s_is_call_part, defBody s_is_call_part, defScope s_is_call_part, [], []⟩
abbrev s_is_new_part : Stmt := top 38
theorem sc_is_new_part : FnScope ["runtime", "part"] ["runtime", "part"] (defScope s_is_new_part) := ⟨rfl, rfl, rfl, by decide +kernel, rfl, by decide +kernel, by decide +kernel⟩
def d_is_new_part : He.DefD := ⟨("is_new_part", none), "is_new_part", "is_new_part", defArgs s_is_new_part, defBody s_is_new_part, defScope s_is_new_part, [], []⟩
abbrev s_is_leaf_part : Stmt := top 39
theorem sc_is_leaf_part : FnScope ["place", "word", "thing"] ["place"] (defScope s_is_leaf_part) := ⟨rfl, rfl, rfl, by decide +kernel, rfl, by decide +kernel, by decide +kernel⟩
def d_is_leaf_part : He.DefD := ⟨("is_leaf_part", none), "is_leaf_part", "is_leaf_part", defArgs s_is_leaf_part, defBody s_is_leaf_part, defScope s_is_leaf_part, [], []⟩
abbrev s_is_valid_part : Stmt := top 40
theorem sc_is_valid_part : FnScope ["runtime", "place", "part"] ["runtime", "place"] (defScope s_is_valid_part) := ⟨rfl, rfl, rfl, by decide +kernel, rfl, by decide +kernel, by decide +kernel⟩
def d_is_valid_part : He.DefD := ⟨("is_valid_part", none), "is_valid_part", "is_valid_part", defArgs s_is_valid_part, defBody s_is_valid_part, defScope s_is_valid_part, [], []⟩
abbrev s_places_within : Stmt := top 41
theorem sc_places_within : FnScope ["place", "part", "found", "index", "count", "names"] ["place"] (defScope s_places_within) := ⟨rfl, rfl, rfl, by decide +kernel, rfl, by decide +kernel, by decide +kernel⟩
def d_places_within : He.DefD := ⟨("places_within", none), "places_within", "places_within", defArgs s_places_within, defBody s_places_within, defScope s_places_within, [], []⟩
abbrev s_check_valid : Stmt := top 42
theorem sc_check_valid : FnScope ["runtime", "body", "count", "waiting", "many", "place"] ["runtime", "body", "count"] (defScope s_check_valid) := ⟨rfl, rfl, rfl, by decide +kernel, rfl, by decide +kernel, by decide +kernel⟩
def d_check_valid : He.DefD := ⟨("check_valid", none), "check_valid", "check_valid", defArgs s_check_valid, defBody s_check_valid, defScope s_check_valid, [], []⟩
abbrev s_check_body : Stmt := top 43
theorem sc_check_body : FnScope ["runtime", "body", "count"] ["runtime", "body", "count"] (defScope s_check_body) := ⟨rfl, rfl, rfl, by decide +kernel, rfl, by decide +kernel, by decide +kernel⟩
def d_check_body : He.DefD := ⟨("check_body", none), "check_body", "check_body", defArgs s_check_body, defBody s_check_body, defScope s_check_body, [], []⟩
abbrev s_check_function : Stmt := top 45
theorem sc_check_function : FnScope ["function"] ["function"] (defScope s_check_function) := ⟨rfl, rfl, rfl, by decide +kernel, rfl, by decide +kernel, by decide +kernel⟩
def d_check_function : He.DefD := ⟨("check_function", none), "check_function", "check_function", defArgs s_check_function, defBody s_check_function, defScope s_check_function, [], []⟩
abbrev s_check_signature : Stmt := top 46
theorem sc_check_signature : FnScope ["runtime", "signature"] ["runtime", "signature"] (defScope s_check_signature) := ⟨rfl, rfl, rfl, by decide +kernel, rfl, by decide +kernel, by decide +kernel⟩
def d_check_signature : He.DefD := ⟨("check_signature", none), "check_signature", "check_signature", defArgs s_check_signature, defBody s_check_signature, defScope s_check_signature, [], []⟩
abbrev s_define_in : Stmt := top 47
theorem sc_define_in : FnScope ["runtime", "function", "signature", "body", "table", "later"] ["runtime", "function", "signature", "body"] (defScope s_define_in) := ⟨rfl, rfl, rfl, by decide +kernel, rfl, by decide +kernel, by decide +kernel⟩
def d_define_in : He.DefD := ⟨("define_in", none), "define_in", "define_in", defArgs s_define_in, defBody s_define_in, defScope s_define_in, [], []⟩
abbrev s_define : Stmt := top 48
theorem sc_define : FnScope ["runtime", "function", "signature", "body"] ["runtime", "function", "signature", "body"] (defScope s_define) := ⟨rfl, rfl, rfl, by decide +kernel, rfl, by decide +kernel, by decide +kernel⟩
def d_define : He.DefD := ⟨("define", none), "define", "define", defArgs s_define, defBody s_define, defScope s_define, [], []⟩
abbrev s_methods : Stmt := top 49
theorem sc_methods : FnScope ["runtime", "world"] ["runtime", "world"] (defScope s_methods) := ⟨rfl, rfl, rfl, by decide +kernel, rfl, by decide +kernel, by decide +kernel⟩
def d_methods : He.DefD := ⟨("methods", none), "methods", "methods", defArgs s_methods, defBody s_methods, defScope s_methods, [], [("world", .non)]⟩
abbrev s_body : Stmt := top 50
theorem sc_body : FnScope ["runtime", "function", "signature", "world", "table"] ["runtime", "function", "signature", "world"] (defScope s_body) := ⟨rfl, rfl, rfl, by decide +kernel, rfl, by decide +kernel, by decide +kernel⟩
def d_body : He.DefD := ⟨("body", none), "body", "body", defArgs s_body, defBody s_body, defScope s_body, [], [("world", .non)]⟩
abbrev s_l_cell_at : Stmt := top 52
theorem sc_l_cell_at : FnScope ["_law_script", "_law_k"] ["_law_script", "_law_k"] (defScope s_l_cell_at) := ⟨rfl, rfl, rfl, by decide +kernel, rfl, by decide +kernel, by decide +kernel⟩
def d_l_cell_at : He.DefD := ⟨("_law_cell_at", none), "_law_cell_at", "_law_cell_at", defArgs s_l_cell_at, defBody s_l_cell_at, defScope s_l_cell_at, [], []⟩
abbrev s_l_well : Stmt := top 53
theorem sc_l_well : FnScope ["_law_cell"] ["_law_cell"] (defScope s_l_well) := ⟨rfl, rfl, rfl, by decide +kernel, rfl, by decide +kernel, by decide +kernel⟩
def d_l_well : He.DefD := ⟨("_law_well", none), "_law_well", "_law_well", defArgs s_l_well, defBody s_l_well, defScope s_l_well, [], []⟩
abbrev s_l_draw : Stmt := top 54
theorem sc_l_draw : FnScope ["_law_well_here", "_law_many", "_law_digit", "_law_number"] ["_law_well_here", "_law_many"] (defScope s_l_draw) := ⟨rfl, rfl, rfl, by decide +kernel, rfl, by decide +kernel, by decide +kernel⟩
def d_l_draw : He.DefD := ⟨("_law_draw", none), "_law_draw", "_law_draw", defArgs s_l_draw, defBody s_l_draw, defScope s_l_draw, [], []⟩
abbrev s_l_one : Stmt := top 55
theorem sc_l_one : FnScope ["_law_well_here", "_law_some"] ["_law_well_here", "_law_some"] (defScope s_l_one) := ⟨rfl, rfl, rfl, by decide +kernel, rfl, by decide +kernel, by decide +kernel⟩
def d_l_one : He.DefD := ⟨("_law_one", none), "_law_one", "_law_one", defArgs s_l_one, defBody s_l_one, defScope s_l_one, [], []⟩
abbrev s_l_runtime : Stmt := top 56
theorem sc_l_runtime : FnScope ["_law_well_here", "_law_system", "_law_book", "_law_name", "_law_upper", "_law_own", "_law_bounds", "_law_one_here", "_law_field"] ["_law_well_here"] (defScope s_l_runtime) := ⟨rfl, rfl, rfl, by decide +kernel, rfl, by decide +kernel, by decide +kernel⟩
def d_l_runtime : He.DefD := ⟨("_law_runtime", none), "_law_runtime", "_law_runtime", defArgs s_l_runtime, defBody s_l_runtime, defScope s_l_runtime, [], []⟩
abbrev s_l_shares : Stmt := top 57
theorem sc_l_shares : FnScope ["_law_well_here", "_law_many", "_law_wide", "_law_shares_here", "_law_left", "_law_k"] ["_law_well_here", "_law_many", "_law_wide"] (defScope s_l_shares) := ⟨rfl, rfl, rfl, by decide +kernel, rfl, by decide +kernel, by decide +kernel⟩
def d_l_shares : He.DefD := ⟨("_law_shares", none), "_law_shares", "_law_shares", defArgs s_l_shares, defBody s_l_shares, defScope s_l_shares, [], []⟩
abbrev s_l_leaf : Stmt := top 58
theorem sc_l_leaf : FnScope ["_law_well_here", "_law_book", "_law_wide", "_law_names", "_law_some", "_law_name"] ["_law_well_here", "_law_book", "_law_wide", "_law_names"] (defScope s_l_leaf) := ⟨rfl, rfl, rfl, by decide +kernel, rfl, by decide +kernel, by decide +kernel⟩
def d_l_leaf : He.DefD := ⟨("_law_leaf", none), "_law_leaf", "_law_leaf", defArgs s_l_leaf, defBody s_l_leaf, defScope s_l_leaf, [], []⟩
abbrev s_l_head : Stmt := top 59
theorem sc_l_head : FnScope ["_law_well_here", "_law_book", "_law_most", "_law_heads", "_law_name"] ["_law_well_here", "_law_book", "_law_most"] (defScope s_l_head) := ⟨rfl, rfl, rfl, by decide +kernel, rfl, by decide +kernel, by decide +kernel⟩
def d_l_head : He.DefD := ⟨("_law_head", none), "_law_head", "_law_head", defArgs s_l_head, defBody s_l_head, defScope s_l_head, [], []⟩
abbrev s_l_signature : Stmt := top 60
theorem sc_l_signature : FnScope ["_law_well_here", "_law_book", "_law_k"] ["_law_well_here", "_law_book"] (defScope s_l_signature) := ⟨rfl, rfl, rfl, by decide +kernel, rfl, by decide +kernel, by decide +kernel⟩
def d_l_signature : He.DefD := ⟨("_law_signature", none), "_law_signature", "_law_signature", defArgs s_l_signature, defBody s_l_signature, defScope s_l_signature, [], []⟩
abbrev s_l_body : Stmt := top 61
theorem sc_l_body : FnScope ["_law_well_here", "_law_book", "_law_many", "_law_wide", "_law_names", "_law_head_here", "_law_spots_here", "_law_part", "_law_spot", "_law_share", "_law_inner", "_law_bound"] ["_law_well_here", "_law_book", "_law_many", "_law_wide", "_law_names"] (defScope s_l_body) := ⟨rfl, rfl, rfl, by decide +kernel, rfl, by decide +kernel, by decide +kernel⟩
def d_l_body : He.DefD := ⟨("_law_body", none), "_law_body", "_law_body", defArgs s_l_body, defBody s_l_body, defScope s_l_body, [], []⟩
abbrev s_l_spots : Stmt := top 62
theorem sc_l_spots : FnScope ["_law_part", "_law_some"] ["_law_part"] (defScope s_l_spots) := ⟨rfl, rfl, rfl, by decide +kernel, rfl, by decide +kernel, by decide +kernel⟩
def d_l_spots : He.DefD := ⟨("_law_spots", none), "_law_spots", "_law_spots", defArgs s_l_spots, defBody s_l_spots, defScope s_l_spots, [], []⟩
abbrev s_l_paths : Stmt := top 63
theorem sc_l_paths : FnScope ["_law_text", "_law_found", "_law_waiting", "_law_path", "_law_spot"] ["_law_text"] (defScope s_l_paths) := ⟨rfl, rfl, rfl, by decide +kernel, rfl, by decide +kernel, by decide +kernel⟩
def d_l_paths : He.DefD := ⟨("_law_paths", none), "_law_paths", "_law_paths", defArgs s_l_paths, defBody s_l_paths, defScope s_l_paths, [], []⟩
abbrev s_l_at : Stmt := top 64
theorem sc_l_at : FnScope ["_law_text", "_law_path", "_law_spot"] ["_law_text", "_law_path"] (defScope s_l_at) := ⟨rfl, rfl, rfl, by decide +kernel, rfl, by decide +kernel, by decide +kernel⟩
def d_l_at : He.DefD := ⟨("_law_at", none), "_law_at", "_law_at", defArgs s_l_at, defBody s_l_at, defScope s_l_at, [], []⟩
abbrev s_l_with : Stmt := top 65
theorem sc_l_with : FnScope ["_law_text", "_law_path", "_law_part", "_law_k", "_law_outer", "_law_spot"] ["_law_text", "_law_path", "_law_part"] (defScope s_l_with) := ⟨rfl, rfl, rfl, by decide +kernel, rfl, by decide +kernel, by decide +kernel⟩
def d_l_with : He.DefD := ⟨("_law_with", none), "_law_with", "_law_with", defArgs s_l_with, defBody s_l_with, defScope s_l_with, [], []⟩
abbrev s_l_anew : Stmt := top 66
theorem sc_l_anew : FnScope ["_law_part", "_law_one_here"] ["_law_part"] (defScope s_l_anew) := ⟨rfl, rfl, rfl, by decide +kernel, rfl, by decide +kernel, by decide +kernel⟩
def d_l_anew : He.DefD := ⟨("_law_anew", none), "_law_anew", "_law_anew", defArgs s_l_anew, defBody s_l_anew, defScope s_l_anew, [], []⟩
abbrev s_l_right : Stmt := top 67
theorem sc_l_right : FnScope ["_law_well_here", "_law_system", "_law_book", "_law_sign", "_law_text", "_law_start", "_law_path", "_law_other"] ["_law_well_here"] (defScope s_l_right) := ⟨rfl, rfl, rfl, by decide +kernel, rfl, by decide +kernel, by decide +kernel⟩
def d_l_right : He.DefD := ⟨("_law_right", none), "_law_right", "_law_right", defArgs s_l_right, defBody s_l_right, defScope s_l_right, [], []⟩
abbrev s_law : Stmt := top 68
theorem sc_law : FnScope ["_law_script", "_law_cell"] ["_law_script"] (defScope s_law) := ⟨rfl, rfl, rfl, by decide +kernel, rfl, by decide +kernel, by decide +kernel⟩
def d_law : He.DefD := ⟨("law", none), "law", "law", defArgs s_law, defBody s_law, defScope s_law, [], []⟩
def fn : List He.DefD := [d__wall, d_NoWorld_init, d_NoClass_init, d_Taken_init, d_NoField_init, d_NoCount_init, d_NoBody_init, d_NoFunction_init, d_NoSignature_init, d_NotThere_init, d_is_integer, d_is_between, d_is_name, d_Kind_init, d_Runtime_init, d_Runtime_newest, d_Runtime_table, d_Runtime_add_world, d_Runtime_copied, d_now, d_world_of, d_is_class, d_check_class, d_own_fields, d_add_class, d_Place_init, d_is_signature, d_indexes_within, d_is_call_part, d_is_new_part, d_is_leaf_part, d_is_valid_part, d_places_within, d_check_valid, d_check_body, d_check_function, d_check_signature, d_define_in, d_define, d_methods, d_body, d_l_cell_at, d_l_well, d_l_draw, d_l_one, d_l_runtime, d_l_shares, d_l_leaf, d_l_head, d_l_signature, d_l_body, d_l_spots, d_l_paths, d_l_at, d_l_with, d_l_anew, d_l_right, d_law]
-- globals: _wall WorldError NoWorld NoClass Taken NoField NoCount NoBody NoFunction NoSignature NotThere is_integer is_between is_name Kind Runtime now world_of is_class check_class own_fields add_class Place is_signature indexes_within is_call_part is_new_part is_leaf_part is_valid_part places_within check_valid check_body check_function check_signature define_in define methods body _law_cell_at _law_well _law_draw _law_one _law_runtime _law_shares _law_leaf _law_head _law_signature _law_body _law_spots _law_paths _law_at _law_with _law_anew _law_right law
-- law at 68, row worldcalls_k10_valid_bodies

def own : List (Str × Str) := [("NoWorld", "world"), ("NoClass", "name"), ("Taken", "name"), ("NoField", "field"), ("NoCount", "count"), ("NoBody", "path"), ("NoFunction", "function"), ("NoSignature", "signature"), ("NotThere", "signature")]
def plain : List Str := []
def kinds : List Str := own.map (·.1) ++ plain
def c_LENGTHS : List (Str × V) := [("int", .int 2), ("arg", .int 2), ("name", .int 2), ("let", .int 4), ("field", .int 3), ("add", .int 3), ("less", .int 3), ("is", .int 3), ("if", .int 4), ("define", .int 4)]
def c_WITHIN : List (Str × List V) := [("let", [.int 2, .int 3]), ("field", [.int 1]), ("add", [.int 1, .int 2]), ("less", [.int 1, .int 2]), ("is", [.int 1]), ("if", [.int 1, .int 2, .int 3]), ("define", [.int 3])]
def c_CALLS : List V := [.str "call", .str "newest"]
/-- a keyword-only default that is a tuple -/
def kwTB (K : PySem.W.Frag) (x nm : Str) (vs : List V) : Bool := match K.lookup (He.fAd K (x, none)) with
  | some ⟨_, _, .func fd, _⟩ => (match fd.kwdefaults with
    | .ref D => (match PySem.W.nsIn K D nm with
      | some (some (.ref t)) => seqB K t vs
      | _ => false)
    | _ => false)
  | _ => false
theorem kwTB_ok {K : PySem.W.Frag} {x nm : Str} {vs : List V} {oc : Value} {od : Option Addr} {fd : FuncData} {osl : Array (Option Value)} (h : kwTB K x nm vs = true) (lk : K.lookup (He.fAd K (x, none)) = some ⟨oc, od, .func fd, osl⟩) : ∃ D t, fd.kwdefaults = .ref D ∧ PySem.W.nsIn K D nm = some (some (.ref t)) ∧ seqB K t vs = true := by
  unfold kwTB at h
  rw [lk] at h
  dsimp only at h
  split at h
  · rename_i D e
    split at h
    · rename_i t e2
      exact ⟨D, t, e, e2, h⟩
    · cases h
  · cases h
def kindsB (K : PySem.W.Frag) (l : List Str) : Bool := l.all fun x => l.all fun y => decide (PySem.W.exmOne K (.ref (He.ga K x)) (.ref (He.ga K y)) = some (decide (x = y)))
def upB (K : PySem.W.Frag) (l : List Str) : Bool := l.all fun x => decide (PySem.W.subIn K (.ref (He.ga K x)) (.type "BaseException") = some true) && (exIsB K (He.ga K x) && (exRdB K (He.ga K x) && decide (PySem.W.exmOne K (.ref (He.ga K x)) (.ref (He.ga K "WorldError")) = some true)))
def ownB (K : PySem.W.Frag) : Bool := own.all fun p => exB K (He.ga K p.1) && (exInB K (He.ga K p.1) (He.ma K (He.ga K p.1) "__init__") && decide (PySem.W.findIn K (.ref (He.ga K p.1)) p.2 = some none))
def ex (K : PySem.W.Frag) : Bool := baseB K (He.ga K "WorldError") && (kindsB K kinds && (upB K kinds && (ownB K && (dictB K (He.ga K "LENGTHS") c_LENGTHS && (dictTB K (He.ga K "WITHIN") c_WITHIN && (seqB K (He.ga K "CALLS") c_CALLS && (kwTB K "add_class" "fields" [])))))))
def gloL : List Str := (["_wall", "WorldError", "NoWorld", "NoClass", "Taken", "NoField", "NoCount", "NoBody", "NoFunction", "NoSignature", "NotThere", "is_integer", "is_between", "is_name", "Kind", "Runtime", "now", "world_of", "is_class", "check_class", "own_fields", "add_class", "Place", "is_signature", "indexes_within", "is_call_part", "is_new_part", "is_leaf_part", "is_valid_part", "places_within"] : List Str) ++ ((["check_valid", "check_body", "check_function", "check_signature", "define_in", "define", "methods", "body", "_law_cell_at", "_law_well", "_law_draw", "_law_one", "_law_runtime", "_law_shares", "_law_leaf", "_law_head", "_law_signature", "_law_body", "_law_spots", "_law_paths", "_law_at", "_law_with", "_law_anew", "_law_right", "law", "LENGTHS", "WITHIN", "CALLS"] : List Str))
def freeL : List Str := ["ValueError", "all", "bool", "dict", "int", "isinstance", "len", "list", "min", "range", "sorted", "str", "tuple", "zip"]
def intL : List (Str × Int) := [("MOST_FIELDS", 3), ("MOST_PARTS", 24), ("GREATEST", 1000000000)]
def strL : List (Str × Str) := [("LETTERS", "abcdefghijklmnopqrstuvwxyz")]
def clsL : List Str := ["Kind", "Runtime", "Place"]
def noatL : List (Str × Str) := [("Kind", "fields"), ("Kind", "parent"), ("Kind", "since"), ("Runtime", "entries"), ("Runtime", "kinds"), ("Runtime", "made"), ("Runtime", "shapes"), ("Runtime", "solutions"), ("Runtime", "tables"), ("Runtime", "tasks"), ("Place", "count"), ("Place", "names"), ("Place", "path"), ("Place", "piece")]
def methL : List (Str × Str) := [("Runtime", "newest"), ("Runtime", "table"), ("Runtime", "add_world"), ("Runtime", "copied")]
def fa : List He.Fa := gloL.map He.Fa.glo ++ (freeL.map He.Fa.free ++ (plain.map He.Fa.exc ++ (intL.map (fun p => He.Fa.int p.1 p.2) ++ (strL.map (fun p => He.Fa.str p.1 p.2) ++ (clsL.map He.Fa.cls ++ (clsL.map He.Fa.mkr ++ (noatL.map (fun p => He.Fa.noat p.1 p.2) ++ methL.map (fun p => He.Fa.meth p.1 p.2))))))))
def tf : List He.Defn := []
def loose : List Str := (["_wall", "WorldError", "NoWorld", "NoClass", "Taken", "NoField", "NoCount", "NoBody", "NoFunction", "NoSignature", "NotThere", "is_integer", "is_between", "is_name", "Kind", "Runtime", "now", "world_of", "is_class", "check_class", "own_fields", "add_class", "Place", "is_signature", "indexes_within", "is_call_part", "is_new_part", "is_leaf_part", "is_valid_part", "places_within"] : List Str) ++ ((["check_valid", "check_body", "check_function", "check_signature", "define_in", "define", "methods", "body", "_law_cell_at", "_law_well", "_law_draw", "_law_one", "_law_runtime", "_law_shares", "_law_leaf", "_law_head", "_law_signature", "_law_body", "_law_spots", "_law_paths", "_law_at", "_law_with", "_law_anew", "_law_right", "LENGTHS", "WITHIN", "CALLS", "MOST_FIELDS", "MOST_PARTS", "GREATEST"] : List Str) ++ ((["LETTERS"] : List Str)))
abbrev R : PySem.W.OpenRow := PySem.W.OpenLaw.row PySem.Challenge.rw_worldcalls_k10_valid_bodies
def ts : List He.Tab := [((fun K => He.ga K "LENGTHS"), c_LENGTHS.map (·.1)), ((fun K => He.ga K "WITHIN"), c_WITHIN.map (·.1))]
abbrev hk : PySem.W.Hook := hookZ 5 fa fn ts tf ex
def ob (s : PySem.W.SharedT) : AlZ := obsZ 5 fa fn ts tf ex (HandSHeadRun.getT s)
theorem ob_eq (s : PySem.W.SharedT) : ob s = hk.obs s.abs := obsZ_eq (HandSHeadRun.getT_eq s)
theorem runF (w : World) : HandSHeadRun.RunEq R (PySem.W.view R.prog [68]) hk ob 20000 loose (w.withFollow "special-get-raises" false) := by
  intro os
  kernel_rfl
theorem runT (w : World) : HandSHeadRun.RunEq R (PySem.W.view R.prog [68]) hk ob 20000 loose (w.withFollow "special-get-raises" true) := by
  intro os
  kernel_rfl
theorem run (w : World) : HandSHeadRun.RunEq R (PySem.W.view R.prog [68]) hk ob 20000 loose w := by
  exact PySem.W.byRow2 "special-get-raises" (P := fun w => HandSHeadRun.RunEq R (PySem.W.view R.prog [68]) hk ob 20000 loose w) runF runT w
end K10

set_option Elab.async false
set_option linter.all false
set_option maxRecDepth 100000
set_option maxHeartbeats 4000000
namespace K10
open PySem L2 Wc
local macro_rules | `(tactic| walk_at "lk") => `(tactic| first | with_reducible exact Look.here | (with_reducible apply Look.there; walk_at "lk"))
local macro_rules | `(tactic| walk_at "ul") => `(tactic| first | with_reducible exact UpL.here | (with_reducible apply UpL.there; walk_at "ul"))
local macro_rules | `(tactic| walk_at "ga") => `(tactic| first | exact GetAt.here | (apply GetAt.there; walk_at "ga"))
local macro_rules | `(tactic| walk_at "sa") => `(tactic| first | exact SetAt.here | (apply SetAt.there; walk_at "sa"))
local macro_rules | `(tactic| walk_at "hp") => `(tactic| first | assumption | (refine' KH.find ?k ?h; (case k => assumption); (case h => walk_at "lk")))
local macro_rules | `(tactic| walk_at "sql") => `(tactic| first | assumption | (refine' SqL.of ?h; (case h => walk_at "hp")) | (refine' Fr.sql (KH.fr ?k) ?n ?h; (case k => assumption); (case h => assumption); (case n => (simp; done))))
local macro_rules | `(tactic| walk_at "sqt") => `(tactic| first | assumption | (refine' SqT.of ?h; (case h => walk_at "hp")))
local macro_rules | `(tactic| walk_at "side") => `(tactic| first | exact (show (0 : Int) < _ by decide) | exact (show (0 : Int) < _ by omega) | exact ⟨by decide, by decide, by decide⟩ | exact ⟨by decide, by decide, by omega⟩ | exact ⟨by decide, by decide⟩ | exact ⟨by omega, by omega⟩ | exact Or.inl ⟨by omega, by omega⟩ | exact Or.inr ⟨by omega, by omega⟩)
local macro_rules | `(tactic| walk_at "siz") => `(tactic| first | (refine sz_of ?_; first | decide | omega | (simp; done) | (simp; omega)) | (refine sz_lt ?_; first | decide | omega | (simp; done) | (simp; omega)))
local macro_rules | `(tactic| walk_at "own") => `(tactic| first | (exact Or.inr (by assumption)) | (refine Or.inl ?_; simp; done))
local macro_rules | `(tactic| walk_at "al") => `(tactic| (refine' AllocO.mk ?k ?_; (case k => assumption); intro _ _ _ _))
local macro_rules | `(tactic| walk_at "up") => `(tactic| (refine' UpdO.mk ?k ?h ?m ?_; (case k => assumption); (case h => walk_at "ul"); (case m => walk_at "own"); intro _ _))
local macro_rules | `(tactic| walk_at "st") => `(tactic| first
  | ((with_reducible refine' r_var ?h ?_); (case h => walk_at "ga"))
  | (with_reducible refine' r_seq ?_) | (with_reducible refine' r_next ?_) | (with_reducible refine' r_asg ?_) | (with_reducible refine' r_drop ?_) | (with_reducible refine' r_ret ?_) | (with_reducible refine' r_retN ?_)
  | (with_reducible refine' r_ifs ?_) | (with_reducible refine' r_cont ?_) | (with_reducible refine' r_break ?_) | (with_reducible refine' r_c ?_) | (with_reducible refine' r_op ?_) | (with_reducible refine' r_un ?_)
  | (with_reducible refine' r_test ?_) | (with_reducible refine' r_tB ?_) | (with_reducible refine' r_not ?_) | (with_reducible refine' r_and ?_) | (with_reducible refine' r_or ?_) | (with_reducible refine' r_notV ?_)
  | (with_reducible refine' r_andV ?_) | (with_reducible refine' r_orV ?_) | (with_reducible refine' r_ifE ?_) | (with_reducible refine' r_bl ?_) | (with_reducible refine' r_nil ?_) | (with_reducible refine' r_cons ?_)
  | (with_reducible refine' r_tup ?_) | (with_reducible refine' r_lst ?_) | (with_reducible refine' r_cb ?_) | (with_reducible refine' r_call ?_) | ((with_reducible refine' r_name ?h ?_); (case h => walk_at "sa")) | (with_reducible refine' r_gnil ?_)
  | (with_reducible refine' r_gcons ?_) | (with_reducible refine' r_gsub ?_) | (with_reducible refine' r_par ?_) | (with_reducible refine' r_par2 ?_) | (with_reducible refine' r_I0 ?_) | (with_reducible refine' r_U ?_)
  | ((with_reducible refine' r_eq ?h ?_); (case h => rfl)) | ((with_reducible refine' r_ne ?h ?_); (case h => rfl))
  | ((with_reducible refine' r_ixL ?h ?a ?_); (case h => walk_at "sql"); (case a => rfl))
  | ((with_reducible refine' r_ixT ?h ?a ?_); (case h => walk_at "sqt"); (case a => rfl))
  | ((with_reducible refine' r_setL ?h ?a ?_); (case h => walk_at "hp"); (case a => rfl))
  | ((with_reducible refine' r_I ?c ?_); (case c => walk_at "side"))
  | (with_reducible refine' r_sl ?_) | (with_reducible refine' r_part ?_) | (with_reducible refine' r_nopart ?_) | (with_reducible refine' r_ii ?_)
  | ((with_reducible refine' r_slL ?h ?_); (case h => walk_at "sql"))
  | (with_reducible refine' r_bm ?_) | (with_reducible refine' r_bm0 ?_) | (with_reducible refine' r_int1 ?_) | (with_reducible refine' r_int1b ?_)
  | ((with_reducible refine' r_aug ?h ?_); (case h => walk_at "ga"))
  | ((with_reducible refine' r_cat ?a ?b ?z ?_); (case a => walk_at "hp"); (case b => walk_at "hp"); (case z => walk_at "siz"))
  | ((with_reducible refine' r_append ?a ?z ?_); (case a => walk_at "hp"); (case z => walk_at "siz"))
  | ((with_reducible refine' And.intro ?z ?_); (case z => first | walk_at "siz" | exact Or.inl ⟨rfl, _, by walk_at "sql"⟩))
  | ((with_reducible refine' r_gtup ?h ?l ?_); (case h => walk_at "sqt"); (case l => rfl))
  | (with_reducible refine' r_forL ?_) | (with_reducible refine' r_forE ?_) | (with_reducible refine' r_forR ?_) | ((with_reducible refine' r_forL2 ?h ?_); (case h => walk_at "sql")) | ((with_reducible refine' r_forE2 ?h ?_); (case h => walk_at "sql"))
  | (with_reducible refine' r_lcR ?_) | ((with_reducible refine' r_iteT ?h ?_); (case h => rfl)) | ((with_reducible refine' r_iteF ?h ?_); (case h => rfl))
  | (with_reducible refine' r_dnew ?_) | (with_reducible refine' r_vei ?_) | (with_reducible refine' r_ost ?_) | (with_reducible refine' r_mkV ?_) | (with_reducible refine' r_mkX ?_) | (with_reducible refine' r_xfld ?_)
  | ((with_reducible refine' MkG.mk ?o ?n ?k ?_); (case o => exact ErrOk.o (by assumption)); (case n => exact ErrOk.no (by assumption)); (case k => assumption); intro _ _ _ _)
  | ((with_reducible refine' AllocX.mk ?k ?_); (case k => assumption); intro _ _ _ _)
  | (with_reducible refine' r_chain ?_) | (with_reducible refine' r_lcS ?_) | (with_reducible refine' r_lcS2 ?_) | (with_reducible refine' r_lcL ?_) | (with_reducible refine' r_lcT ?_) | (with_reducible refine' r_lcI ?_) | (with_reducible refine' r_yes ?_)
  | (with_reducible refine' r_fld ?_) | (with_reducible refine' r_sfld ?_) | (with_reducible refine' r_meth ?_) | (with_reducible refine' r_make ?_) | (with_reducible refine' r_dget ?_) | (with_reducible refine' r_din ?_) | (with_reducible refine' r_dput ?_)
  | ((with_reducible refine' r_disp ?k ?_); (case k => assumption); intro _ _ _ _) | (with_reducible refine' r_pnil ?_) | (with_reducible refine' r_pcons ?_)
  | (walk_at "al") | (walk_at "up"))
local macro_rules | `(tactic| walk_at "go") => `(tactic| repeat walk_at "st")

structure Bt (mg : Str → Option Value) : Prop where
  f_len : mg "len" = none
  f_int : mg "int" = none
  f_isinstance : mg "isinstance" = none
  f_str : mg "str" = none
  f_bool : mg "bool" = none
  f_list : mg "list" = none
  f_tuple : mg "tuple" = none
  f_all : mg "all" = none
  f_sorted : mg "sorted" = none
  f_range : mg "range" = none
  LETTERS : ∃ t, mg "LETTERS" = some (.str LET t)
  MOST : ∃ t, mg "MOST_FIELDS" = some (.int 3 t)
/-- the program's two plain classes -/
structure Cs (K : PySem.W.Frag) (CK CR : Addr) : Prop where
  k : Cls K CK
  r : Cls K CR
  k_parent : NoAttr K CK "parent"
  k_fields : NoAttr K CK "fields"
  k_since : NoAttr K CK "since"
  r_kinds : NoAttr K CR "kinds"
  r_tables : NoAttr K CR "tables"
section
variable {P : Program} {w : World} {K : PySem.W.Frag} {mg : Str → Option Value} {base : Heap} {f : Addr} {fd : FuncData} {CK CR NC : Addr}
abbrev FnP (K : PySem.W.Frag) (x : Str) (st : Stmt) (f : Addr) (fd : FuncData) : Prop := FunD K x x (defArgs st) (defBody st) (defScope st) [] [] f fd
abbrev MeP (K : PySem.W.Frag) (x q : Str) (st : Stmt) (f : Addr) (fd : FuncData) : Prop := FunD K x q (defArgs st) (defBody st) (defScope st) [] [] f fd
def spIsName (K : PySem.W.Frag) : Sp := fun vs H Q _ => ∃ x tp, vs = [x] ∧ Th K H x tp ∧ ∀ H', Wc.Ext H H' → Q (.bl (nameV x)) H'
abbrev NN_is_name : List Str := ["thing", "letter"]
theorem ok_is_name (F : FnP K "is_name" s_is_name f fd) (T : Bt mg) : FnOk P w K mg base CX0 1 f fd ["thing"] (spIsName K) := by
  obtain ⟨tL, hL⟩ := T.LETTERS
  refine F.ok sc_is_name (fun vs H Q E h => ?_) (fun cdv A outer s H vs Q E hr h => ?_)
  · obtain ⟨x, tp, rfl, _⟩ := h
    rfl
  · refine ⟨_, PSs.nox (pss_one (ps_ret (pe_and (pe_callB call_isi (by rfl) T.f_isinstance PyProof.Rows.boot_isinstance (pa_cons (pv 0) (pa_cons (pe_bltn (v := .ty "str") (by rfl) T.f_str PyProof.Rows.boot_str rfl) pa_nil))) (pe_and (pe_chain op_le op_le pe_int (pe_callB call_len_str (by rfl) T.f_len PySem.boot_len (pa_cons (pv 0) pa_nil)) pe_int) (pe_one (pe_callB (cr_all rfl) (by rfl) T.f_all PyProof.Rows.boot_all (pa_cons (pe_lc (own := [("letter", 1)]) rfl sc_is_name.nd (pi_str (pv 0)) (blkOk_by (N := NN_is_name) (sc := defScope s_is_name) (by decide +kernel)) (fun _ _ _ _ _ => (pg_name (i := 1) sc_is_name.nd rfl (by first | exact Or.inl rfl | exact Or.inr rfl))) (fun _ _ _ _ _ => pts_nil) (fun _ _ _ _ _ => (pe_cmpR op_in_str (pv 1) (pe_glob (v := .str LET) (by rfl) hL ⟨_, rfl⟩) (by rfl)))) pa_nil))))))), ?_⟩
    obtain ⟨x, tp, rfl, th, k⟩ := h
    rw [show L2.start ["thing", "letter"] [x] = ([some (x), none] : List (Option V)) from rfl]
    have kh := KH.start (H := H)
    walk_at "go"
    obtain ⟨ty, h1, h2, h3⟩ := th.ty
    refine r_isi (.ty _) h1 h2 ?_
    walk_at "go"
    cases hs : Wc.isS x with
    | false =>
      walk_at "go"
      have e := nameV_of hs
      rw [e] at k
      exact k _ (Wc.Ext.refl _)
    | true =>
      obtain ⟨z, rfl, hz⟩ := th.isS hs
      walk_at "go"
      refine ⟨z, rfl, sz_of (by omega), ?_⟩
      walk_at "go"
      cases h1 : decide ((1 : Int) ≤ (z.length : Int)) with
      | false =>
        walk_at "go"
        have e : nameV (.str z) = false := by show nameS z = false; unfold nameS; rw [h1]; rfl
        rw [e] at k
        exact k _ (Wc.Ext.refl _)
      | true =>
        walk_at "go"
        cases h2 : decide ((z.length : Int) ≤ 8) with
        | false =>
          walk_at "go"
          have e : nameV (.str z) = false := by show nameS z = false; unfold nameS; rw [h1, h2]; rfl
          rw [e] at k
          exact k _ (Wc.Ext.refl _)
        | true =>
          walk_at "go"
          refine lcJ walk_str (fun i => z.cps[i]?.map fun c => V.bl (letB ⟨#[c]⟩)) (show z.length ≤ 100000 by omega) (fun _ _ => trivial) ?_ ?_
          · rintro i x H1 H2 R N hi e1 ⟨rfl, c, hc, rfl⟩ hR hN
            walk_at "go"
            refine ⟨rfl, ?_⟩
            walk_at "go"
            refine ⟨_, _, rfl, rfl, ?_⟩
            refine hR _ _ ?_ (Wc.Ext.refl _)
            rw [hc] <;> rfl
          · intro p H' hp e1 hl
            walk_at "go"
            rw [strs_fm z] at hl
            refine ⟨p, z.cps.toList.map fun c => letB ⟨#[c]⟩, rfl, SqL.of (by rw [hl, List.map_map]; rfl), ?_⟩
            have e : nameV (.str z) = (z.cps.toList.map fun c => letB ⟨#[c]⟩).all id := by show nameS z = _; unfold nameS; rw [h1, h2]; rfl
            rw [e] at k
            exact k _ e1
def spIsClass (K : PySem.W.Frag) (CK CR : Addr) : Sp := fun vs H Q _ => ∃ r kd tl T n x tp, vs = [.ref r, x] ∧ RtAt K CK CR H r kd tl T n ∧ Th K H x tp ∧ ∀ H', Wc.Ext H H' → Q (.bl (clsV T x)) H'
theorem ok_is_class (F : FnP K "is_class" s_is_class f fd) (T : Bt mg) (C : Cs K CK CR) (D_is_name : DfOk P w K mg base CX0 1 "is_name" ["thing"] (spIsName K)) : FnOk P w K mg base CX0 2 f fd ["runtime", "name"] (spIsClass K CK CR) := by
  refine F.ok sc_is_class (fun vs H Q E h => ?_) (fun cdv A outer s H vs Q E hr h => ?_)
  · obtain ⟨r, kd, tl, T, n, x, tp, rfl, _⟩ := h
    rfl
  · refine ⟨_, PSs.nox (pss_one (ps_ret (pe_and (pe_callD D_is_name hr (pa_cons (pv 1) pa_nil)) (pe_one (pe_cmp (pc_din (un1 hr) (pv 1) (pe_fld (pv 0) rfl))))))), ?_⟩
    obtain ⟨r, kd, tl, T, n, x, tp, rfl, R, th, k⟩ := h
    rw [show L2.start ["runtime", "name"] [V.ref r, x] = ([some (V.ref r), some (x)] : List (Option V)) from rfl]
    have kh := KH.start (H := H)
    walk_at "go"
    refine ⟨x, tp, rfl, th, fun H1 e1 => ?_⟩
    walk_at "go"
    cases hn : nameV x with
    | false =>
      walk_at "go"
      rw [clsV_of hn] at k
      exact k _ e1
    | true =>
      obtain ⟨z, rfl, hz⟩ := th.isS (by cases x <;> first | rfl | cases hn)
      obtain ⟨⟨dx, fs, h1, _⟩, ⟨kvs, h2, bn⟩, _⟩ := R
      walk_at "go"
      refine FldAt.mk (e1 _ _ h1) C.r C.r_kinds rfl ?_
      refine din_mk (rd_ext h2 e1) ?_
      rw [bn.isSome]
      have e : clsV T (.str z) = (findC T z).isSome := by
        show (nameS z && _) = _
        have hn : nameS z = true := hn
        rw [hn] <;> rfl
      rw [e] at k
      exact k _ e1
/-- x is a class, or NoClass(x) -/
def spCheck (K : PySem.W.Frag) (CK CR NC : Addr) : Sp := fun vs H Q E => ∃ r kd tl T n x tp, vs = [.ref r, x] ∧ RtAt K CK CR H r kd tl T n ∧ Th K H x tp ∧ (clsV T x = true → ∀ H', Wc.Ext H H' → Q .non H') ∧
  (clsV T x = false → ∀ d H', Wc.Ext H H' → H d = none → H' d = some (.xd [("name", x)]) → E (.ref NC) (some d) H')
theorem ok_check_class (F : FnP K "check_class" s_check_class f fd) (T : Bt mg) (C : Cs K CK CR) (E_NoClass : ErrOk P w K mg base "NoClass" NC "name") (D_is_class : DfOk P w K mg base CX0 2 "is_class" ["runtime", "name"] (spIsClass K CK CR)) :
    FnOk P w K mg base (L2.CX P w) 3 f fd ["runtime", "name"] (spCheck K CK CR NC) := by
  refine F.ok sc_check_class (fun vs H Q E h => ?_) (fun cdv A outer s H vs Q E hr h => ?_)
  · obtain ⟨r, kd, tl, T, n, x, tp, rfl, _⟩ := h
    rfl
  · refine ⟨_, (pss_one (ps_if (pt_not (pt_val (pe_callD D_is_class hr (pa_cons (pv 0) (pa_cons (pv 1) pa_nil))))) (pss_one (ps_raiseE rfl (takes_of rfl rfl rfl rfl) E_NoClass hr (pv 1))) pss_nil)), ?_⟩
    obtain ⟨r, kd, tl, T, n, x, tp, rfl, R, th, k1, k2⟩ := h
    rw [show L2.start ["runtime", "name"] [V.ref r, x] = ([some (V.ref r), some (x)] : List (Option V)) from rfl]
    have kh := KH.start (H := H)
    walk_at "go"
    refine ⟨r, kd, tl, T, n, x, tp, rfl, R, th, fun H1 e1 => ?_⟩
    walk_at "go"
    cases hc : clsV T x with
    | true =>
      walk_at "go"
      exact k1 hc _ e1
    | false =>
      walk_at "go"
      refine RsG.mk E_NoClass.o E_NoClass.no fun d H2 e2 hd hx => k2 hc d H2 (e1.trans e2) (e1.free hd) hx
def spLineOf (K : PySem.W.Frag) (CK CR : Addr) : Sp := fun vs H Q _ => ∃ r kd tl T n o l, vs = [.ref r, optV o] ∧ RtAt K CK CR H r kd tl T n ∧ Line T o l ∧ l.length ≤ 1000 ∧ ∀ p H', H p = none → Wc.Ext H H' → H' p = some (.lst (l.map V.str)) → Q (.ref p) H'
/-- the classes that a world knows -/
def knownL (T : List Cl) (n : Nat) : List Str := (T.filter fun c => decide ((c.since : Int) ≤ (n : Int))).map (·.name)
def spKnown (K : PySem.W.Frag) (CK CR : Addr) : Sp := fun vs H Q _ => ∃ r kd tl T n m kvs, vs = [.ref r, .int (m : Nat)] ∧ RtAt K CK CR H r kd tl T n ∧ H kd = some (.dK kvs) ∧ T.length < 64 ∧
  ∀ ys p H', ys.Perm (knownL T m) → PyProof.Rows.sortedS ys = true → H p = none → Wc.Ext H H' → H' p = some (.lst (ys.map V.str)) → Q (.ref p) H'
abbrev NN_known : List Str := ["runtime", "world", "name", "kind"]
def spBelow (K : PySem.W.Frag) (CK CR : Addr) : Sp := fun vs H Q _ => ∃ r kd tl T n x y l, vs = [.ref r, .str x, .str y] ∧ RtAt K CK CR H r kd tl T n ∧ Line T (some x) l ∧ l.length ≤ 1000 ∧ ∀ H', Wc.Ext H H' → Q (.bl (inV (.str y) (l.map V.str))) H'
end
end K10


set_option Elab.async false
set_option linter.all false
set_option maxRecDepth 100000
set_option maxHeartbeats 4000000
namespace K10
open PySem L2 Wc
local macro_rules | `(tactic| walk_at "lk") => `(tactic| first | with_reducible exact Look.here | (with_reducible apply Look.there; walk_at "lk"))
local macro_rules | `(tactic| walk_at "ul") => `(tactic| first | with_reducible exact UpL.here | (with_reducible apply UpL.there; walk_at "ul"))
local macro_rules | `(tactic| walk_at "ga") => `(tactic| first | exact GetAt.here | (apply GetAt.there; walk_at "ga"))
local macro_rules | `(tactic| walk_at "sa") => `(tactic| first | exact SetAt.here | (apply SetAt.there; walk_at "sa"))
local macro_rules | `(tactic| walk_at "hp") => `(tactic| first | assumption | (refine' KH.find ?k ?h; (case k => assumption); (case h => walk_at "lk")))
local macro_rules | `(tactic| walk_at "sql") => `(tactic| first | assumption | (refine' SqL.of ?h; (case h => walk_at "hp")) | (refine' Fr.sql (KH.fr ?k) ?n ?h; (case k => assumption); (case h => assumption); (case n => (simp; done))))
local macro_rules | `(tactic| walk_at "sqt") => `(tactic| first | assumption | (refine' SqT.of ?h; (case h => walk_at "hp")))
local macro_rules | `(tactic| walk_at "side") => `(tactic| first | exact (show (0 : Int) < _ by decide) | exact (show (0 : Int) < _ by omega) | exact ⟨by decide, by decide, by decide⟩ | exact ⟨by decide, by decide, by omega⟩ | exact ⟨by decide, by decide⟩ | exact ⟨by omega, by omega⟩ | exact Or.inl ⟨by omega, by omega⟩ | exact Or.inr ⟨by omega, by omega⟩)
local macro_rules | `(tactic| walk_at "siz") => `(tactic| first | (refine sz_of ?_; first | decide | omega | (simp; done) | (simp; omega)) | (refine sz_lt ?_; first | decide | omega | (simp; done) | (simp; omega)))
local macro_rules | `(tactic| walk_at "own") => `(tactic| first | (exact Or.inr (by assumption)) | (refine Or.inl ?_; simp; done))
local macro_rules | `(tactic| walk_at "al") => `(tactic| (refine' AllocO.mk ?k ?_; (case k => assumption); intro _ _ _ _))
local macro_rules | `(tactic| walk_at "up") => `(tactic| (refine' UpdO.mk ?k ?h ?m ?_; (case k => assumption); (case h => walk_at "ul"); (case m => walk_at "own"); intro _ _))
local macro_rules | `(tactic| walk_at "st") => `(tactic| first
  | ((with_reducible refine' r_var ?h ?_); (case h => walk_at "ga"))
  | (with_reducible refine' r_seq ?_) | (with_reducible refine' r_next ?_) | (with_reducible refine' r_asg ?_) | (with_reducible refine' r_drop ?_) | (with_reducible refine' r_ret ?_) | (with_reducible refine' r_retN ?_)
  | (with_reducible refine' r_ifs ?_) | (with_reducible refine' r_cont ?_) | (with_reducible refine' r_break ?_) | (with_reducible refine' r_c ?_) | (with_reducible refine' r_op ?_) | (with_reducible refine' r_un ?_)
  | (with_reducible refine' r_test ?_) | (with_reducible refine' r_tB ?_) | (with_reducible refine' r_not ?_) | (with_reducible refine' r_and ?_) | (with_reducible refine' r_or ?_) | (with_reducible refine' r_notV ?_)
  | (with_reducible refine' r_andV ?_) | (with_reducible refine' r_orV ?_) | (with_reducible refine' r_ifE ?_) | (with_reducible refine' r_bl ?_) | (with_reducible refine' r_nil ?_) | (with_reducible refine' r_cons ?_)
  | (with_reducible refine' r_tup ?_) | (with_reducible refine' r_lst ?_) | (with_reducible refine' r_cb ?_) | (with_reducible refine' r_call ?_) | ((with_reducible refine' r_name ?h ?_); (case h => walk_at "sa")) | (with_reducible refine' r_gnil ?_)
  | (with_reducible refine' r_gcons ?_) | (with_reducible refine' r_gsub ?_) | (with_reducible refine' r_par ?_) | (with_reducible refine' r_par2 ?_) | (with_reducible refine' r_I0 ?_) | (with_reducible refine' r_U ?_)
  | ((with_reducible refine' r_eq ?h ?_); (case h => rfl)) | ((with_reducible refine' r_ne ?h ?_); (case h => rfl))
  | ((with_reducible refine' r_ixL ?h ?a ?_); (case h => walk_at "sql"); (case a => rfl))
  | ((with_reducible refine' r_ixT ?h ?a ?_); (case h => walk_at "sqt"); (case a => rfl))
  | ((with_reducible refine' r_setL ?h ?a ?_); (case h => walk_at "hp"); (case a => rfl))
  | ((with_reducible refine' r_I ?c ?_); (case c => walk_at "side"))
  | (with_reducible refine' r_sl ?_) | (with_reducible refine' r_part ?_) | (with_reducible refine' r_nopart ?_) | (with_reducible refine' r_ii ?_)
  | ((with_reducible refine' r_slL ?h ?_); (case h => walk_at "sql"))
  | (with_reducible refine' r_bm ?_) | (with_reducible refine' r_bm0 ?_) | (with_reducible refine' r_int1 ?_) | (with_reducible refine' r_int1b ?_)
  | ((with_reducible refine' r_aug ?h ?_); (case h => walk_at "ga"))
  | ((with_reducible refine' r_cat ?a ?b ?z ?_); (case a => walk_at "hp"); (case b => walk_at "hp"); (case z => walk_at "siz"))
  | ((with_reducible refine' r_append ?a ?z ?_); (case a => walk_at "hp"); (case z => walk_at "siz"))
  | ((with_reducible refine' And.intro ?z ?_); (case z => first | walk_at "siz" | exact Or.inl ⟨rfl, _, by walk_at "sql"⟩))
  | ((with_reducible refine' r_gtup ?h ?l ?_); (case h => walk_at "sqt"); (case l => rfl))
  | (with_reducible refine' r_forL ?_) | (with_reducible refine' r_forE ?_) | (with_reducible refine' r_forR ?_) | ((with_reducible refine' r_forL2 ?h ?_); (case h => walk_at "sql")) | ((with_reducible refine' r_forE2 ?h ?_); (case h => walk_at "sql"))
  | (with_reducible refine' r_lcR ?_) | ((with_reducible refine' r_iteT ?h ?_); (case h => rfl)) | ((with_reducible refine' r_iteF ?h ?_); (case h => rfl))
  | (with_reducible refine' r_dnew ?_) | (with_reducible refine' r_vei ?_) | (with_reducible refine' r_ost ?_) | (with_reducible refine' r_mkV ?_) | (with_reducible refine' r_mkX ?_) | (with_reducible refine' r_xfld ?_)
  | ((with_reducible refine' MkG.mk ?o ?n ?k ?_); (case o => exact ErrOk.o (by assumption)); (case n => exact ErrOk.no (by assumption)); (case k => assumption); intro _ _ _ _)
  | ((with_reducible refine' AllocX.mk ?k ?_); (case k => assumption); intro _ _ _ _)
  | (with_reducible refine' r_chain ?_) | (with_reducible refine' r_lcS ?_) | (with_reducible refine' r_lcS2 ?_) | (with_reducible refine' r_lcL ?_) | (with_reducible refine' r_lcT ?_) | (with_reducible refine' r_lcI ?_) | (with_reducible refine' r_yes ?_)
  | (with_reducible refine' r_fld ?_) | (with_reducible refine' r_sfld ?_) | (with_reducible refine' r_meth ?_) | (with_reducible refine' r_make ?_) | (with_reducible refine' r_dget ?_) | (with_reducible refine' r_din ?_) | (with_reducible refine' r_dput ?_)
  | ((with_reducible refine' r_disp ?k ?_); (case k => assumption); intro _ _ _ _) | (with_reducible refine' r_pnil ?_) | (with_reducible refine' r_pcons ?_)
  | (walk_at "al") | (walk_at "up"))
local macro_rules | `(tactic| walk_at "go") => `(tactic| repeat walk_at "st")

structure Cs2 (K : PySem.W.Frag) (CR : Addr) : Prop where
  entries : NoAttr K CR "entries"
  tasks : NoAttr K CR "tasks"
  solutions : NoAttr K CR "solutions"
  shapes : NoAttr K CR "shapes"
  made : NoAttr K CR "made"
section
variable {P : Program} {w : World} {K : PySem.W.Frag} {mg : Str → Option Value} {base : Heap} {f : Addr} {fd : FuncData} {CK CR NC : Addr}
abbrev kindFs (pv fv sv : V) : List (Str × V) := [("parent", pv), ("fields", fv), ("since", sv)]
def spKind (CK : Addr) : Sp := fun vs H Q _ => ∃ a dx pv fv sv, vs = [.ref a, pv, fv, sv] ∧ H a = some (.ins CK dx []) ∧ ∀ H', Fr [a] H H' → H' a = some (.ins CK dx (kindFs pv fv sv)) → Q .non H'
theorem ok_kind (F : MeP K "__init__" "Kind.__init__" s_Kind_init f fd) (C : Cs K CK CR) : FnOk P w K mg base CX0 1 f fd ["self", "parent", "fields", "since"] (spKind CK) := by
  refine F.ok sc_Kind_init (fun vs H Q E h => ?_) (fun cdv A outer s H vs Q E hr h => ?_)
  · obtain ⟨a, dx, pv, fv, sv, rfl, _⟩ := h
    rfl
  · refine ⟨_, PSs.nox (pss_cons (ps_fld (pv 0) (pv 1) rfl)
      (pss_cons (ps_fld (pv 0) (pv 2) rfl)
      (pss_one (ps_fld (pv 0) (pv 3) rfl)))), ?_⟩
    obtain ⟨a, dx, p0, f0, s0, rfl, ha, k⟩ := h
    rw [show L2.start ["self", "parent", "fields", "since"] [V.ref a, p0, f0, s0] = ([some (V.ref a), some (p0), some (f0), some (s0)] : List (Option V)) from rfl]
    have kh := KH.start1 ha
    walk_at "go"
    refine SFldAt.mk kh (by walk_at "ul") C.k C.k_parent (by decide) (.inl (by simp)) (kh.find .here) fun H1 k1 => ?_
    walk_at "go"
    refine SFldAt.mk k1 (by walk_at "ul") C.k C.k_fields (by show (1 : Nat) < 1000; decide) (.inl (by simp)) (k1.find .here) fun H2 k2 => ?_
    walk_at "go"
    refine SFldAt.mk k2 (by walk_at "ul") C.k C.k_since (by show (2 : Nat) < 1000; decide) (.inl (by simp)) (k2.find .here) fun H3 k3 => ?_
    walk_at "go"
    exact k H3 k3.fr (k3.find .here)
theorem mkKind {H0 H : Hp} {M : List Addr} {Lk : List (Addr × HO)} {pv fv sv : V} {Q : Addr → Hp → Prop} {E : XK} (k : KH H0 M Lk H) (q : ∀ x dx H', H0 x = none → KH H0 M ((x, .ins CK dx (kindFs pv fv sv)) :: (dx, .own x) :: Lk) H' → Q x H') :
    ∀ x dx, H x = none → H dx = none → dx ≠ x → spKind CK (.ref x :: ([pv, fv, sv] ++ [])) (upd (upd H dx (.own x)) x (.ins CK dx [])) (fun v H2 => v = .non ∧ Q x H2) E := fun x dx hx hd ne => by
  have k1 := (k.new (o := .own x) hd).new (p := x) (o := .ins CK dx []) (by rw [upd_ne (Ne.symm ne)]; exact hx)
  refine ⟨x, dx, pv, fv, sv, rfl, upd_same, fun H' fr h' => ⟨rfl, q x dx H' (k.fresh hx) (k1.up .here fr h' (.inr (k.fresh hx)))⟩⟩
/-- the first classes -/
abbrev T0 : List Cl := [⟨"any", none, [], [], 0⟩, ⟨"int", some "any", [], [], 0⟩]
def spRuntime (K : PySem.W.Frag) (CK CR : Addr) : Sp := fun vs H Q _ => ∃ a dx, vs = [.ref a] ∧ H a = some (.ins CR dx []) ∧ ∀ kd tl t0 H', Fr [a] H H' → RtW K CK CR H' a kd tl T0 0 → H kd = none → H tl = none → H' tl = some (.lst [.ref t0]) → H' t0 = some (.dK []) → H t0 = none → Q .non H'
theorem ok_runtime (F : MeP K "__init__" "Runtime.__init__" s_Runtime_init f fd) (C : Cs K CK CR) (C2 : Cs2 K CR) (K_Kind : MkOk P w K mg base CX0 1 "Kind" CK ["self", "parent", "fields", "since"] (spKind CK)) :
    FnOk P w K mg base CX0 3 f fd ["self"] (spRuntime K CK CR) := by
  refine F.ok sc_Runtime_init (fun vs H Q E h => ?_) (fun cdv A outer s H vs Q E hr h => ?_)
  · obtain ⟨a, dx, rfl, _⟩ := h
    rfl
  · refine ⟨_, PSs.nox (pss_cons (ps_fld (pv 0) (pe_disp (pps_cons pe_str (pe_makeC K_Kind hr (pa_cons pe_non (pa_cons (pe_tup pa_nil) (pa_cons pe_int pa_nil)))) (pps_cons pe_str (pe_makeC K_Kind hr (pa_cons pe_str (pa_cons (pe_tup pa_nil) (pa_cons pe_int pa_nil)))) pps_nil)) rfl rfl (fun z => nomatch z) (by decide)) rfl)
      (pss_cons (ps_fld (pv 0) (pe_lst (pa_cons pe_dnewK pa_nil)) rfl)
      (pss_cons (ps_fld (pv 0) (pe_lst pa_nil) rfl)
      (pss_cons (ps_fld (pv 0) (pe_lst pa_nil) rfl)
      (pss_cons (ps_fld (pv 0) pe_dnewK rfl)
      (pss_cons (ps_fld (pv 0) pe_dnewK rfl)
      (pss_one (ps_fld (pv 0) (pe_disp (pps_cons pe_str pe_int (pps_cons pe_str pe_int (pps_cons pe_str pe_int (pps_cons pe_str pe_int pps_nil)))) rfl rfl (fun z => nomatch z) (by decide)) rfl)))))))), ?_⟩
    obtain ⟨a, dx, rfl, ha, k⟩ := h
    rw [show L2.start ["self"] [V.ref a] = ([some (V.ref a)] : List (Option V)) from rfl]
    have kh := KH.start1 ha
    walk_at "go"
    rename_i kd H1 nk k1 tup H2 nt k2
    refine mkKind k2 fun x1 dx1 H3 nx1 k3 => ?_
    walk_at "go"
    rename_i tup2 H4 nt2 k4
    refine mkKind k4 fun x2 dx2 H5 nx2 k5 => ?_
    walk_at "go"
    refine' r_dispE [(.inr "any", .ref x1), (.inr "int", .ref x2)] ?h ?e ?l ?_
    case h => exact k5.find (by walk_at "lk")
    case e => rfl
    case l => simp
    have k6 := KH.up k5 (o' := .dK [(.inr "any", .ref x1), (.inr "int", .ref x2)]) (by walk_at "ul") (Fr.updE (by simp)) upd_same (.inr nk)
    rw [show mergeK [] [(Sum.inr ("any" : Str), V.ref x1), (Sum.inr ("int" : Str), V.ref x2)] = ([(Sum.inr ("any" : Str), V.ref x1), (Sum.inr ("int" : Str), V.ref x2)] : List (Key × V)) from rfl]
    generalize upd H5 kd _ = H6 at k6 ⊢
    walk_at "go"
    refine SFldAt.mk (by assumption) (by walk_at "ul") C.r C.r_kinds (by show (0 : Nat) < 1000; decide) (.inl (by simp)) (by walk_at "hp") fun H10 k10 => ?_
    walk_at "go"
    refine SFldAt.mk (by assumption) (by walk_at "ul") C.r C.r_tables (by show (1 : Nat) < 1000; decide) (.inl (by simp)) (by walk_at "hp") fun H11 k11 => ?_
    walk_at "go"
    refine SFldAt.mk (by assumption) (by walk_at "ul") C.r C2.entries (by show (2 : Nat) < 1000; decide) (.inl (by simp)) (by walk_at "hp") fun H12 k12 => ?_
    walk_at "go"
    refine SFldAt.mk (by assumption) (by walk_at "ul") C.r C2.tasks (by show (3 : Nat) < 1000; decide) (.inl (by simp)) (by walk_at "hp") fun H13 k13 => ?_
    walk_at "go"
    refine SFldAt.mk (by assumption) (by walk_at "ul") C.r C2.solutions (by show (4 : Nat) < 1000; decide) (.inl (by simp)) (by walk_at "hp") fun H14 k14 => ?_
    walk_at "go"
    refine SFldAt.mk (by assumption) (by walk_at "ul") C.r C2.shapes (by show (5 : Nat) < 1000; decide) (.inl (by simp)) (by walk_at "hp") fun H15 k15 => ?_
    walk_at "go"
    rename_i md H17 nmd k17
    refine' r_dispE [(.inr "direct", .int 0), (.inr "split", .int 0), (.inr "looked", .int 0), (.inr "newest", .int 0)] ?h ?e ?l ?_
    case h => exact k17.find (by walk_at "lk")
    case e => rfl
    case l => simp
    have k18 := KH.up k17 (o' := .dK (mergeK [] [(Sum.inr ("direct" : Str), V.int 0), (Sum.inr ("split" : Str), V.int 0), (Sum.inr ("looked" : Str), V.int 0), (Sum.inr ("newest" : Str), V.int 0)])) (by walk_at "ul") (Fr.updE (by simp)) upd_same (.inr nmd)
    generalize upd H17 md _ = H18 at k18 ⊢
    walk_at "go"
    refine SFldAt.mk (by assumption) (by walk_at "ul") C.r C2.made (by show (6 : Nat) < 1000; decide) (.inl (by simp)) (by walk_at "hp") fun H16 k16 => ?_
    walk_at "go"
    have ho := k16.find (p := a) (by walk_at "lk")
    have hx1 := k16.find (p := x1) (by walk_at "lk")
    have hx2 := k16.find (p := x2) (by walk_at "lk")
    refine k kd _ _ H16 k16.fr ⟨⟨⟨dx, _, ho, rfl, rfl, rfl⟩, ⟨_, .inl (k16.find (p := kd) (by walk_at "lk")), .cons ⟨rfl, _, _, _, rfl, hx1, .inl (k16.find (p := tup) (by walk_at "lk"))⟩ (.cons ⟨rfl, _, _, _, rfl, hx2, .inl (k16.find (p := tup2) (by walk_at "lk"))⟩ .nil)⟩, _, k16.find (by walk_at "lk"), rfl⟩, _, k16.find (by walk_at "lk")⟩ nk (by assumption) (k16.find (by walk_at "lk")) (k16.find (by walk_at "lk")) (by assumption)
def spNewest (K : PySem.W.Frag) (CK CR : Addr) : Sp := fun vs H Q _ => ∃ r kd tl T n, vs = [.ref r] ∧ RtAt K CK CR H r kd tl T n ∧ Q (.int (n : Nat)) H
theorem ok_newest (F : MeP K "newest" "Runtime.newest" s_Runtime_newest f fd) (T : Bt mg) (C : Cs K CK CR) : FnOk P w K mg base CX0 1 f fd ["self"] (spNewest K CK CR) := by
  refine F.ok sc_Runtime_newest (fun vs H Q E h => ?_) (fun cdv A outer s H vs Q E hr h => ?_)
  · obtain ⟨r, kd, tl, T, n, rfl, _⟩ := h
    rfl
  · refine ⟨_, PSs.nox (pss_one (ps_ret (pe_op op_sub (pe_callB call_len_seq (by rfl) T.f_len PySem.boot_len (pa_cons (pe_fld (pv 0) rfl) pa_nil)) pe_int))), ?_⟩
    obtain ⟨r, kd, tl, T, n, rfl, R, k⟩ := h
    rw [show L2.start ["self"] [V.ref r] = ([some (V.ref r)] : List (Option V)) from rfl]
    obtain ⟨⟨dx, fs, h1, _⟩, _, xs, h2, h3⟩ := R
    walk_at "go"
    refine FldAt.mk h1 C.r C.r_tables rfl ?_
    refine ⟨tl, xs, rfl, .inl (SqL.of h2), ?_⟩
    walk_at "go"
    rw [h3, show (((n + 1 : Nat) : Int) - 1) = (n : Int) by omega]
    exact k
def spTable (K : PySem.W.Frag) (CK CR : Addr) : Sp := fun vs H Q _ => ∃ r kd tl T n m, vs = [.ref r, .int (m : Nat)] ∧ RtAt K CK CR H r kd tl T n ∧ m ≤ n ∧ ∀ xs v, H tl = some (.lst xs) → xs[m]? = some v → Q v H
theorem ok_table (F : MeP K "table" "Runtime.table" s_Runtime_table f fd) (T : Bt mg) (C : Cs K CK CR) : FnOk P w K mg base CX0 1 f fd ["self", "world"] (spTable K CK CR) := by
  refine F.ok sc_Runtime_table (fun vs H Q E h => ?_) (fun cdv A outer s H vs Q E hr h => ?_)
  · obtain ⟨r, kd, tl, T, n, m, rfl, _⟩ := h
    rfl
  · refine ⟨_, PSs.nox (pss_one (ps_ret (pe_ix ix_list (pe_fld (pv 0) rfl) (pv 1) (fun _ _ => rfl)))), ?_⟩
    obtain ⟨r, kd, tl, T, n, m, rfl, R, hm, k⟩ := h
    rw [show L2.start ["self", "world"] [V.ref r, V.int m] = ([some (V.ref r), some (V.int m)] : List (Option V)) from rfl]
    obtain ⟨⟨dx, fs, h1, _⟩, _, xs, h2, h3⟩ := R
    walk_at "go"
    refine FldAt.mk h1 C.r C.r_tables rfl ?_
    walk_at "go"
    exact r_ixL (SqL.of h2) (atI_nat (List.getElem?_eq_getElem (show m < xs.length by omega))) (k xs _ h2 (List.getElem?_eq_getElem (show m < xs.length by omega)))
def spAddWorld (K : PySem.W.Frag) (CK CR : Addr) : Sp := fun vs H Q _ => ∃ r kd tl T n v, vs = [.ref r, v] ∧ RtAt K CK CR H r kd tl T n ∧ n < 50000 ∧ ∀ xs H', H tl = some (.lst xs) → Fr [tl] H H' → RtAt K CK CR H' r kd tl T (n + 1) → H' tl = some (.lst (xs ++ [v])) → Q (.int ((n + 1 : Nat) : Int)) H'
theorem rt_fr_tl {H H' : Hp} {r kd tl : Addr} {T : List Cl} {n : Nat} {xs : List V} (R : RtAt K CK CR H r kd tl T n) (f : Fr [tl] H H') (h : H' tl = some (.lst xs)) : RtAt K CK CR H' r kd tl T (xs.length - 1) ∨ xs = [] := by
  cases xs with
  | nil => exact .inr rfl
  | cons x xs =>
    obtain ⟨⟨dx, fs, h1, hn⟩, ⟨kvs, h2, bn⟩, ys, h3, _⟩ := R
    have mo := Mo.fr1 f h3 rfl
    refine .inl ⟨⟨dx, fs, mo _ _ rfl h1, hn⟩, ⟨kvs, ?_, bn.mono fun _ _ z => z.mo mo⟩, _, h, by simp⟩
    rcases h2 with h2 | ⟨o, h2⟩
    · exact .inl (f _ _ (by simpa using ne_of h2 h3 (by intro z; cases z)) h2)
    · exact .inr ⟨o, f _ _ (by simpa using ne_of h2 h3 (by intro z; cases z)) h2⟩
theorem ok_add_world (F : MeP K "add_world" "Runtime.add_world" s_Runtime_add_world f fd) (T : Bt mg) (C : Cs K CK CR) (M_newest : MtOk P w K mg base CX0 1 CR "newest" ["self"] (spNewest K CK CR)) : FnOk P w K mg base CX0 2 f fd ["self", "table"] (spAddWorld K CK CR) := by
  refine F.ok sc_Runtime_add_world (fun vs H Q E h => ?_) (fun cdv A outer s H vs Q E hr h => ?_)
  · obtain ⟨r, kd, tl, T, n, v, rfl, _⟩ := h
    rfl
  · refine ⟨_, PSs.nox (pss_cons (ps_expr (pe_bm PySem.F.plainAttrs_list PySem.F.slot_list_append PySem.F.type_list_append mt_append (pe_fld (pv 0) rfl) (pa_cons (pv 1) pa_nil)))
      (pss_one (ps_ret (pe_methC0 M_newest hr (pv 0))))), ?_⟩
    obtain ⟨r, kd, tl, T, n, v, rfl, R, hn, k⟩ := h
    rw [show L2.start ["self", "table"] [V.ref r, v] = ([some (V.ref r), some (v)] : List (Option V)) from rfl]
    have R2 := R
    obtain ⟨⟨dx, fs, h1, hs, _⟩, _, xs, h2, h3⟩ := R2
    have kh := KH.start1 h2
    walk_at "go"
    refine FldAt.mk h1 C.r C.r_tables rfl ?_
    refine ⟨.inl ⟨rfl, _, SqL.of h2⟩, ?_⟩
    walk_at "go"
    rename_i H1 k1
    have hl := k1.find (p := tl) .here
    have R1 : RtAt K CK CR H1 r kd tl T (n + 1) := by
      rcases rt_fr_tl R k1.fr hl with z | z
      · rw [List.length_append, h3] at z
        exact z
      · simp at z
    obtain ⟨⟨dx1, fs1, hr1, hs1, _⟩, _⟩ := id R1
    refine ⟨r, dx1, _, rfl, hr1, hs1, ?_⟩
    walk_at "go"
    exact ⟨r, kd, tl, T, n + 1, rfl, R1, k xs H1 h2 k1.fr R1 hl⟩
def spNow (K : PySem.W.Frag) (CK CR : Addr) : Sp := fun vs H Q _ => ∃ r kd tl T n, vs = [.ref r] ∧ RtAt K CK CR H r kd tl T n ∧ Q (.int (n : Nat)) H
theorem ok_now (F : FnP K "now" s_now f fd) (M_newest : MtOk P w K mg base CX0 1 CR "newest" ["self"] (spNewest K CK CR)) : FnOk P w K mg base CX0 2 f fd ["runtime"] (spNow K CK CR) := by
  refine F.ok sc_now (fun vs H Q E h => ?_) (fun cdv A outer s H vs Q E hr h => ?_)
  · obtain ⟨r, kd, tl, T, n, rfl, _⟩ := h
    rfl
  · refine ⟨_, PSs.nox (pss_one (ps_ret (pe_methC0 M_newest hr (pv 0)))), ?_⟩
    obtain ⟨r, kd, tl, T, n, rfl, R, k⟩ := h
    rw [show L2.start ["runtime"] [V.ref r] = ([some (V.ref r)] : List (Option V)) from rfl]
    obtain ⟨⟨dx1, fs1, hr1, hs1, _⟩, _⟩ := id R
    walk_at "go"
    refine ⟨r, dx1, _, rfl, hr1, hs1, ?_⟩
    walk_at "go"
    exact ⟨r, kd, tl, T, n, rfl, R, k⟩
/-- world_of(runtime, None) -/
def spWorldN (K : PySem.W.Frag) (CK CR : Addr) : Sp := fun vs H Q _ => ∃ r kd tl T n, vs = [.ref r, .non] ∧ RtAt K CK CR H r kd tl T n ∧ Q (.int (n : Nat)) H
theorem ok_worldN (F : FnP K "world_of" s_world_of f fd) (M_newest : MtOk P w K mg base CX0 1 CR "newest" ["self"] (spNewest K CK CR)) : FnOk P w K mg base CX0 2 f fd ["runtime", "world"] (spWorldN K CK CR) := by
  refine F.ok sc_world_of (fun vs H Q E h => ?_) (fun cdv A outer s H vs Q E hr h => ?_)
  · obtain ⟨r, kd, tl, T, n, rfl, _⟩ := h
    rfl
  · refine ⟨_, PSs.nox (pss_cons (ps_if (pt_cmpR op_isN (pv 1) pe_non (nomark _)) (pss_one (ps_ret (pe_methC0 M_newest hr (pv 0)))) pss_nil)
      (pss_cons ps_never
      (pss_one ps_never))), ?_⟩
    obtain ⟨r, kd, tl, T, n, rfl, R, k⟩ := h
    rw [show L2.start ["runtime", "world"] [V.ref r, V.non] = ([some (V.ref r), some (V.non)] : List (Option V)) from rfl]
    obtain ⟨⟨dx1, fs1, hr1, hs1, _⟩, _⟩ := id R
    walk_at "go"
    refine ⟨rfl, ?_⟩
    walk_at "go"
    refine ⟨r, dx1, _, rfl, hr1, hs1, ?_⟩
    walk_at "go"
    exact ⟨r, kd, tl, T, n, rfl, R, k⟩
/-- classes(runtime) -/
def spClasses (K : PySem.W.Frag) (CK CR : Addr) : Sp := fun vs H Q _ => ∃ r kd tl T n, vs = [.ref r, .non] ∧ RtW K CK CR H r kd tl T n ∧ T.length < 64 ∧
  ∀ ys p H', ys.Perm (knownL T n) → PyProof.Rows.sortedS ys = true → H p = none → Wc.Ext H H' → H' p = some (.lst (ys.map V.str)) → Q (.ref p) H'
/-- parent(runtime, name), of a class -/
def spParent (K : PySem.W.Frag) (CK CR : Addr) : Sp := fun vs H Q _ => ∃ r kd tl T n x c, vs = [.ref r, .str x] ∧ RtAt K CK CR H r kd tl T n ∧ nameS x = true ∧ x.length ≤ 1000 ∧ findC T x = some c ∧ ∀ H', Wc.Ext H H' → Q (optV c.par) H'
/-- fields(runtime, name), of a class -/
def spFields (K : PySem.W.Frag) (CK CR : Addr) : Sp := fun vs H Q _ => ∃ r kd tl T n x c, vs = [.ref r, .str x] ∧ RtAt K CK CR H r kd tl T n ∧ nameS x = true ∧ x.length ≤ 1000 ∧ findC T x = some c ∧ ∀ p H', H p = none → Wc.Ext H H' → H' p = some (.lst c.all) → Q (.ref p) H'
/-- is_below(runtime, one, other), of classes -/
def spIsBelow (K : PySem.W.Frag) (CK CR : Addr) : Sp := fun vs H Q _ => ∃ r kd tl T n x y l, vs = [.ref r, .str x, .str y] ∧ RtAt K CK CR H r kd tl T n ∧ clsV T (.str x) = true ∧ clsV T (.str y) = true ∧ x.length ≤ 1000 ∧ y.length ≤ 1000 ∧ Line T (some x) l ∧ l.length ≤ 1000 ∧ ∀ H', Wc.Ext H H' → Q (.bl (inV (.str y) (l.map V.str))) H'
end
end K10


set_option Elab.async false
set_option linter.all false
set_option maxRecDepth 100000
set_option maxHeartbeats 4000000
namespace K10
open PySem L2 Wc
local macro_rules | `(tactic| walk_at "lk") => `(tactic| first | with_reducible exact Look.here | (with_reducible apply Look.there; walk_at "lk"))
local macro_rules | `(tactic| walk_at "ul") => `(tactic| first | with_reducible exact UpL.here | (with_reducible apply UpL.there; walk_at "ul"))
local macro_rules | `(tactic| walk_at "ga") => `(tactic| first | exact GetAt.here | (apply GetAt.there; walk_at "ga"))
local macro_rules | `(tactic| walk_at "sa") => `(tactic| first | exact SetAt.here | (apply SetAt.there; walk_at "sa"))
local macro_rules | `(tactic| walk_at "hp") => `(tactic| first | assumption | (refine' KH.find ?k ?h; (case k => assumption); (case h => walk_at "lk")))
local macro_rules | `(tactic| walk_at "sql") => `(tactic| first | assumption | (refine' SqL.of ?h; (case h => walk_at "hp")) | (refine' Fr.sql (KH.fr ?k) ?n ?h; (case k => assumption); (case h => assumption); (case n => (simp; done))))
local macro_rules | `(tactic| walk_at "sqt") => `(tactic| first | assumption | (refine' SqT.of ?h; (case h => walk_at "hp")))
local macro_rules | `(tactic| walk_at "side") => `(tactic| first | exact (show (0 : Int) < _ by decide) | exact (show (0 : Int) < _ by omega) | exact ⟨by decide, by decide, by decide⟩ | exact ⟨by decide, by decide, by omega⟩ | exact ⟨by decide, by decide⟩ | exact ⟨by omega, by omega⟩ | exact Or.inl ⟨by omega, by omega⟩ | exact Or.inr ⟨by omega, by omega⟩)
local macro_rules | `(tactic| walk_at "siz") => `(tactic| first | (refine sz_of ?_; first | decide | omega | (simp; done) | (simp; omega)) | (refine sz_lt ?_; first | decide | omega | (simp; done) | (simp; omega)))
local macro_rules | `(tactic| walk_at "own") => `(tactic| first | (exact Or.inr (by assumption)) | (refine Or.inl ?_; simp; done))
local macro_rules | `(tactic| walk_at "al") => `(tactic| (refine' AllocO.mk ?k ?_; (case k => assumption); intro _ _ _ _))
local macro_rules | `(tactic| walk_at "up") => `(tactic| (refine' UpdO.mk ?k ?h ?m ?_; (case k => assumption); (case h => walk_at "ul"); (case m => walk_at "own"); intro _ _))
local macro_rules | `(tactic| walk_at "st") => `(tactic| first
  | ((with_reducible refine' r_var ?h ?_); (case h => walk_at "ga"))
  | (with_reducible refine' r_seq ?_) | (with_reducible refine' r_next ?_) | (with_reducible refine' r_asg ?_) | (with_reducible refine' r_drop ?_) | (with_reducible refine' r_ret ?_) | (with_reducible refine' r_retN ?_)
  | (with_reducible refine' r_ifs ?_) | (with_reducible refine' r_cont ?_) | (with_reducible refine' r_break ?_) | (with_reducible refine' r_c ?_) | (with_reducible refine' r_op ?_) | (with_reducible refine' r_un ?_)
  | (with_reducible refine' r_test ?_) | (with_reducible refine' r_tB ?_) | (with_reducible refine' r_not ?_) | (with_reducible refine' r_and ?_) | (with_reducible refine' r_or ?_) | (with_reducible refine' r_notV ?_)
  | (with_reducible refine' r_andV ?_) | (with_reducible refine' r_orV ?_) | (with_reducible refine' r_ifE ?_) | (with_reducible refine' r_bl ?_) | (with_reducible refine' r_nil ?_) | (with_reducible refine' r_cons ?_)
  | (with_reducible refine' r_tup ?_) | (with_reducible refine' r_lst ?_) | (with_reducible refine' r_cb ?_) | (with_reducible refine' r_call ?_) | ((with_reducible refine' r_name ?h ?_); (case h => walk_at "sa")) | (with_reducible refine' r_gnil ?_)
  | (with_reducible refine' r_gcons ?_) | (with_reducible refine' r_gsub ?_) | (with_reducible refine' r_par ?_) | (with_reducible refine' r_par2 ?_) | (with_reducible refine' r_I0 ?_) | (with_reducible refine' r_U ?_)
  | ((with_reducible refine' r_eq ?h ?_); (case h => rfl)) | ((with_reducible refine' r_ne ?h ?_); (case h => rfl))
  | ((with_reducible refine' r_ixL ?h ?a ?_); (case h => walk_at "sql"); (case a => rfl))
  | ((with_reducible refine' r_ixT ?h ?a ?_); (case h => walk_at "sqt"); (case a => rfl))
  | ((with_reducible refine' r_setL ?h ?a ?_); (case h => walk_at "hp"); (case a => rfl))
  | ((with_reducible refine' r_I ?c ?_); (case c => walk_at "side"))
  | (with_reducible refine' r_sl ?_) | (with_reducible refine' r_part ?_) | (with_reducible refine' r_nopart ?_) | (with_reducible refine' r_ii ?_)
  | ((with_reducible refine' r_slL ?h ?_); (case h => walk_at "sql"))
  | (with_reducible refine' r_bm ?_) | (with_reducible refine' r_bm0 ?_) | (with_reducible refine' r_int1 ?_) | (with_reducible refine' r_int1b ?_)
  | ((with_reducible refine' r_aug ?h ?_); (case h => walk_at "ga"))
  | ((with_reducible refine' r_cat ?a ?b ?z ?_); (case a => walk_at "hp"); (case b => walk_at "hp"); (case z => walk_at "siz"))
  | ((with_reducible refine' r_append ?a ?z ?_); (case a => walk_at "hp"); (case z => walk_at "siz"))
  | ((with_reducible refine' And.intro ?z ?_); (case z => first | walk_at "siz" | exact Or.inl ⟨rfl, _, by walk_at "sql"⟩))
  | ((with_reducible refine' r_gtup ?h ?l ?_); (case h => walk_at "sqt"); (case l => rfl))
  | (with_reducible refine' r_forL ?_) | (with_reducible refine' r_forE ?_) | (with_reducible refine' r_forR ?_) | ((with_reducible refine' r_forL2 ?h ?_); (case h => walk_at "sql")) | ((with_reducible refine' r_forE2 ?h ?_); (case h => walk_at "sql"))
  | (with_reducible refine' r_lcR ?_) | ((with_reducible refine' r_iteT ?h ?_); (case h => rfl)) | ((with_reducible refine' r_iteF ?h ?_); (case h => rfl))
  | (with_reducible refine' r_dnew ?_) | (with_reducible refine' r_vei ?_) | (with_reducible refine' r_ost ?_) | (with_reducible refine' r_mkV ?_) | (with_reducible refine' r_mkX ?_) | (with_reducible refine' r_xfld ?_)
  | ((with_reducible refine' MkG.mk ?o ?n ?k ?_); (case o => exact ErrOk.o (by assumption)); (case n => exact ErrOk.no (by assumption)); (case k => assumption); intro _ _ _ _)
  | ((with_reducible refine' AllocX.mk ?k ?_); (case k => assumption); intro _ _ _ _)
  | (with_reducible refine' r_chain ?_) | (with_reducible refine' r_lcS ?_) | (with_reducible refine' r_lcS2 ?_) | (with_reducible refine' r_lcL ?_) | (with_reducible refine' r_lcT ?_) | (with_reducible refine' r_lcI ?_) | (with_reducible refine' r_yes ?_)
  | (with_reducible refine' r_fld ?_) | (with_reducible refine' r_sfld ?_) | (with_reducible refine' r_meth ?_) | (with_reducible refine' r_make ?_) | (with_reducible refine' r_dget ?_) | (with_reducible refine' r_din ?_) | (with_reducible refine' r_dput ?_)
  | ((with_reducible refine' r_disp ?k ?_); (case k => assumption); intro _ _ _ _) | (with_reducible refine' r_pnil ?_) | (with_reducible refine' r_pcons ?_)
  | (walk_at "al") | (walk_at "up"))
local macro_rules | `(tactic| walk_at "go") => `(tactic| repeat walk_at "st")

abbrev Vw := V × Option (List V)
def okI (T : List Cl) (names : List V) : Option (List V) → Bool
  | some [a, b] => nameV a && (!inV a names && clsV T b)
  | _ => false
def fstV : Option (List V) → V
  | some (a :: _) => a
  | _ => .non
/-- the first item that is no field -/
def scan (T : List Cl) : List V → List Vw → Option V
  | _, [] => none
  | names, (x, tp) :: r => if okI T names tp = true then scan T (names ++ [fstV tp]) r else some x
/-- what is seen of an item -/
structure ItemAt (K : PySem.W.Frag) (H : Hp) (q : Vw) : Prop where
  th : Th K H q.1 q.2
  parts : ∀ ys, q.2 = some ys → ys.length ≤ 1000 ∧ ∀ y, y ∈ ys → ∃ tq, Th K H y tq
/-- a field: its name -/
def FNm (H : Hp) (x : V) (a : Str) : Prop := ∃ t b, x = .ref t ∧ H t = some (.tup [.str a, .str b]) ∧ PyData.strOk a = true ∧ PyData.strOk b = true
theorem th_ext {K : PySem.W.Frag} {H H' : Hp} {x : V} {tp : Option (List V)} (t : Th K H x tp) (e : Wc.Ext H H') : Th K H' x tp := by
  obtain ⟨⟨ty, h1, h2, h3⟩, h4, h5, h6⟩ := t
  refine ⟨⟨ty, ?_, h2, h3⟩, fun xs z => ?_, h5, h6⟩
  · cases h1 with
    | base h =>
      refine .base ?_
      cases h with
      | non => exact .non
      | bl b => exact .bl b
      | int i => exact .int i
      | str s => exact .str s
      | flt s => exact .flt s
      | lst h => exact .lst (e _ _ h)
      | frz h => exact .frz (e _ _ h)
      | tup h => exact .tup (e _ _ h)
      | dK h => exact .dK (e _ _ h)
      | dT h => exact .dT (e _ _ h)
      | ins h c a b d g => exact .ins (e _ _ h) c a b d g
    | byt b => exact .byt b
    | set h => exact .set (e _ _ h)
    | kList h c => exact .kList h c
    | kTuple h c => exact .kTuple h c
    | kDict h c => exact .kDict h c
    | fTuple h => exact .fTuple (e _ _ h)
    | fDict h => exact .fDict (e _ _ h)
  · obtain ⟨a, h6, h7⟩ := h4 xs z
    exact ⟨a, h6, h7.ext e⟩
/-- a for over a tuple -/
def ForT (K : PySem.W.Frag) (a : Addr) (g : TG) (tb : TS) (D : Ends) (σ : L2.St) (H : Hp) : Prop := ∃ W : Nat → Nat → L2.St → Hp → Prop, (∃ m, W 0 m σ H) ∧ ∀ i m σ H, W i m σ H →
  ((Itt K a).stop i H ∧ D.nx σ H) ∨ ((Itt K a).go i H ∧ ∃ N : L2.St → Hp → Prop, (∀ σ' H', N σ' H' → ∃ m', m' < m ∧ W (i + 1) m' σ' H') ∧ ∀ x H', (Itt K a).yld i H x H' → g x σ H' fun σ2 H2 => tb { D with nx := N, ct := N, bk := D.nx } σ2 H2)
theorem ForT.mk {K : PySem.W.Frag} {a : Addr} {xs : List V} {g : TG} {tb : TS} {D : Ends} {σ : L2.St} {H : Hp} (Pv : Nat → L2.St → Hp → Prop) (h0 : Pv 0 σ H) (hl : ∀ i σ H, i ≤ xs.length → Pv i σ H → SqT K H a xs)
    (hs : ∀ i x σ H, xs[i]? = some x → Pv i σ H → g x σ H fun σ2 H2 => tb { D with nx := Pv (i + 1), ct := Pv (i + 1), bk := D.nx } σ2 H2) (hd : ∀ σ H, Pv xs.length σ H → D.nx σ H) : ForT K a g tb D σ H := for_tup Pv h0 hl hs hd
theorem paired_get1 {α β : Type} {F : α → β → Prop} : ∀ {xs : List α} {ys : List β} {i : Nat} {x : α}, PySem.Paired F xs ys → xs[i]? = some x → ∃ y, ys[i]? = some y ∧ F x y
  | _, _, _, _, .nil, e => by simp at e
  | _, _, 0, _, .cons h _, e => by
    simp at e
    subst e
    exact ⟨_, rfl, h⟩
  | _, _, i + 1, y, .cons _ t, e => by
    obtain ⟨x, h1, h2⟩ := paired_get1 (i := i) (x := y) t (by simpa using e)
    exact ⟨x, by simpa using h1, h2⟩
theorem range_mapG {α β : Type} (l : List α) (g : α → β) : (List.range l.length).filterMap (fun i => l[i]?.map g) = l.map g := by
  have e := range_fm l (fun c => some (g c))
  rw [List.filterMap_eq_map'] at e
  rw [← e]
  simp [Option.map_eq_bind]
  rfl
section
variable {P : Program} {w : World} {K : PySem.W.Frag} {mg : Str → Option Value} {base : Heap} {f : Addr} {fd : FuncData} {CK CR NC NF TK : Addr}
theorem r_forT {D : Ends} {σ : L2.St} {H : Hp} {g : TG} {tb : TS} {tl : TE} (h : tl σ H fun x H1 => ∃ a, x = .ref a ∧ (∃ xs, SqT K H1 a xs) ∧ ForT K a g tb D σ H1) : tFor (iTup K tl) g tb D σ H := h
def spOwn (K : PySem.W.Frag) (CK CR NF : Addr) : Sp := fun vs H Q E => ∃ r kd tl T n p c as fl tf, vs = [.ref r, .str p, fl] ∧ RtAt K CK CR H r kd tl T n ∧ findC T p = some c ∧ Paired (FNm H) c.all as ∧ as.length ≤ 1000 ∧ Th K H fl tf ∧
  (∀ xs, tf = some xs → xs.length ≤ 3 → ∃ vw : List Vw, vw.map (·.1) = xs ∧ (∀ q, q ∈ vw → ItemAt K H q) ∧ (∀ x, scan T (as.map V.str) vw = some x → ExTo E H NF "field" x) ∧
    (scan T (as.map V.str) vw = none → ∀ a H', Wc.Ext H H' → SqM K H' a (c.all ++ xs) → Q (.ref a) H')) ∧
  ((tf = none ∨ ∃ xs, tf = some xs ∧ 3 < xs.length) → ExTo E H NF "field" fl)
abbrev NN_own_fields : List Str := ["runtime", "parent", "fields", "names", "item", "name", "bound"]
theorem ok_own_fields (F : FnP K "own_fields" s_own_fields f fd) (T : Bt mg) (C : Cs K CK CR) (E_NoField : ErrOk P w K mg base "NoField" NF "field") (D_is_name : DfOk P w K mg base CX0 1 "is_name" ["thing"] (spIsName K))
    (D_is_class : DfOk P w K mg base CX0 2 "is_class" ["runtime", "name"] (spIsClass K CK CR)) :
    FnOk P w K mg base (L2.CX P w) 3 f fd ["runtime", "parent", "fields"] (spOwn K CK CR NF) := by
  obtain ⟨tM, hM⟩ := T.MOST
  refine F.ok sc_own_fields (fun vs H Q E h => ?_) (fun cdv A outer s H vs Q E hr h => ?_)
  · obtain ⟨r, kd, tl, T, n, p, c, as, fl, tf, rfl, _⟩ := h
    rfl
  · refine ⟨_, (pss_cons (ps_if (PW.pt (pw_or (pt_not (pt_val (pe_callB call_isi (by rfl) T.f_isinstance PyProof.Rows.boot_isinstance (pa_cons (pv 2) (pa_cons (pe_bltn (v := .ty "tuple") (by rfl) T.f_tuple PyProof.Rows.boot_tuple rfl) pa_nil))))) (pw_or1 (pt_cmpR op_gt (pe_callB call_len_seq (by rfl) T.f_len PySem.boot_len (pa_cons (pv 2) pa_nil)) (pe_glob (v := .int 3) (by rfl) hM ⟨_, rfl⟩) (nomark _))))) (pss_one (ps_raiseE rfl (takes_of rfl rfl rfl rfl) E_NoField hr (pv 2))) pss_nil)
      (pss_cons (ps_setLc (i := 3) (own := [("name", 5), ("bound", 6)]) (g := (gTup K 2 (gCons (gName 5) (gCons (gName 6) gNil)))) rfl sc_own_fields.nd rfl rfl (sw_true rfl rfl rfl (by decide +kernel)) (pi_tup (pe_fld (pe_dget (un1 hr) (pe_fld (pv 0) rfl) (pv 1) (fun _ _ => rfl)) rfl)) (blkOk_by (N := NN_own_fields) (sc := defScope s_own_fields) (by decide +kernel)) (fun _ _ _ _ _ => (pg_tup rfl (pgs_cons (pg_name (i := 5) sc_own_fields.nd rfl (by first | exact Or.inl rfl | exact Or.inr rfl)) (pgs_cons (pg_name (i := 6) sc_own_fields.nd rfl (by first | exact Or.inl rfl | exact Or.inr rfl)) pgs_nil)))) (fun _ _ _ _ _ => pts_nil) (fun _ _ _ _ _ => (pv 5)))
      (pss_cons (ps_for (passes_of rfl) rfl (pi_tup (pv 2)) (pg_name (i := 4) sc_own_fields.nd rfl (by first | exact Or.inl rfl | exact Or.inr rfl)) (pss_cons (ps_if (PW.pt (pw_or (pt_not (pt_val (pe_callB call_isi (by rfl) T.f_isinstance PyProof.Rows.boot_isinstance (pa_cons (pv 4) (pa_cons (pe_bltn (v := .ty "tuple") (by rfl) T.f_tuple PyProof.Rows.boot_tuple rfl) pa_nil))))) (pw_or (pt_cmpR op_ne (pe_callB call_len_seq (by rfl) T.f_len PySem.boot_len (pa_cons (pv 4) pa_nil)) pe_int (nomark _)) (pw_or (pt_not (pt_val (pe_callD D_is_name hr (pa_cons (pe_ix ix_tup (pv 4) pe_int (fun _ _ => rfl)) pa_nil)))) (pw_or1 (pt_cmpR op_in_seq (pe_ix ix_tup (pv 4) pe_int (fun _ _ => rfl)) (pv 3) (by rfl))))))) (pss_one (ps_raiseE rfl (takes_of rfl rfl rfl rfl) E_NoField hr (pv 4))) pss_nil)
      (pss_cons (ps_if (pt_not (pt_val (pe_callD D_is_class hr (pa_cons (pv 0) (pa_cons (pe_ix ix_tup (pv 4) pe_int (fun _ _ => rfl)) pa_nil))))) (pss_one (ps_raiseE rfl (takes_of rfl rfl rfl rfl) E_NoField hr (pv 4))) pss_nil)
      (pss_one (ps_expr (pe_bm PySem.F.plainAttrs_list PySem.F.slot_list_append PySem.F.type_list_append mt_append (pv 3) (pa_cons (pe_ix ix_tup (pv 4) pe_int (fun _ _ => rfl)) pa_nil)))))))
      (pss_one (ps_ret (pe_op op_catA (pe_fld (pe_dget (un1 hr) (pe_fld (pv 0) rfl) (pv 1) (fun _ _ => rfl)) rfl) (pv 2))))))), ?_⟩
    obtain ⟨r, kd, tl, T, n, p, c, as, fl, tf, rfl, R, hc, hp, hz, th, k1, k2⟩ := h
    rw [show L2.start ["runtime", "parent", "fields", "names", "item", "name", "bound"] [V.ref r, V.str p, fl] = ([some (V.ref r), some (V.str p), some (fl), none, none, none, none] : List (Option V)) from rfl]
    have kh := KH.start (H := H)
    obtain ⟨⟨dx, fs, h1, _⟩, ⟨kvs, h2, bn⟩, _⟩ := id R
    obtain ⟨v, hv, q, dx2, ft, rfl, hq, hft⟩ := bn.some hc
    obtain ⟨ty, t1, t2, t3⟩ := th.ty
    walk_at "go"
    refine r_isi (.ty _) t1 t3 ?_
    walk_at "go"
    cases tf with
    | none =>
      walk_at "go"
      exact RsG.mk E_NoField.o E_NoField.no (k2 (.inl rfl))
    | some xs =>
      obtain ⟨a, rfl, ha⟩ := th.tup xs rfl
      walk_at "go"
      refine ⟨a, xs, rfl, .inr ha.t, ?_⟩
      walk_at "go"
      by_cases hl : 3 < xs.length
      · rw [show decide ((xs.length : Int) > 3) = true from decide_eq_true (by omega)]
        walk_at "go"
        exact RsG.mk E_NoField.o E_NoField.no (k2 (.inr ⟨xs, rfl, hl⟩))
      · rw [show decide ((xs.length : Int) > 3) = false from decide_eq_false (by omega)]
        obtain ⟨vw, hvw, hit, hbad, hgood⟩ := k1 xs rfl (by omega)
        walk_at "go"
        refine FldAt.mk h1 C.r C.r_kinds rfl ?_
        walk_at "go"
        refine dget_mk h2 hv ?_
        refine FldAt.mk hq C.k C.k_fields rfl ?_
        have hla : c.all.length = as.length := Paired.length hp
        refine ⟨ft, rfl, ⟨_, hft.t⟩, ?_⟩
        refine lcJ (walk_tup (xs := c.all)) (fun i => as[i]?.map V.str) (by omega) (fun _ e => (hft.ext e).t) ?_ ?_
        · rintro i x H1 H2 R' N hi e1 ⟨rfl, hx⟩ hR hN
          obtain ⟨a1, ha1, t, b, rfl, ht, _⟩ := paired_get1 hp hx
          have ht1 := e1 _ _ ht
          walk_at "go"
          refine ⟨rfl, ?_⟩
          walk_at "go"
          exact hR _ _ (by rw [ha1] <;> rfl) (Wc.Ext.refl _)
        · intro q2 H1 nq e1 hl1
          rw [hla, range_mapG] at hl1
          have kq := (KH.start (H := H)).consN e1 nq hl1
          walk_at "go"
          refine r_forT ?_
          walk_at "go"
          refine ⟨a, rfl, ⟨xs, (ha.ext e1).t⟩, ?_⟩
          refine ForT.mk (xs := xs) (fun i σ H2 => (∃ v4 v5 v6 : Option V, σ = [some (.ref r), some (.str p), some (.ref a), some (.ref q2), v4, v5, v6]) ∧ ∃ nm, KH H [] [(q2, .lst nm)] H2 ∧ scan T (as.map V.str) vw = scan T nm (vw.drop i) ∧ nm.all flatV = true ∧ nm.length ≤ as.length + i)
            ⟨⟨_, _, _, rfl⟩, _, kq, rfl, by rw [List.all_map]; exact List.all_eq_true.mpr fun _ _ => rfl, by rw [List.length_map]; exact Nat.le_refl _⟩ (fun i σ H2 _ z => by
              obtain ⟨_, nm, kz, _⟩ := z
              exact (ha.ext kz.extE).t) ?_ ?_
          · rintro i x σ H2 hx ⟨⟨v4, v5, v6, rfl⟩, nm, kn, hs, hf, hn⟩
            have hi : i < xs.length := (List.getElem?_eq_some_iff.mp hx).1
            obtain ⟨tp, hw⟩ : ∃ tp, vw[i]? = some (x, tp) := by
              rw [← hvw, List.getElem?_map] at hx
              obtain ⟨z, hz1, hz2⟩ := Option.map_eq_some_iff.mp hx
              exact ⟨z.2, by rw [hz1, ← hz2]⟩
            have hdr : vw.drop i = (x, tp) :: vw.drop (i + 1) := by
              obtain ⟨hlt, hg⟩ := List.getElem?_eq_some_iff.mp hw
              rw [List.drop_eq_getElem_cons hlt, hg]
            rw [hdr] at hs
            have e02 := kn.extE
            have bad : okI T nm tp = false → ExTo E H2 NF "field" x := fun z => (hbad x (by rw [hs]; show (if _ then _ else _) = _; rw [if_neg (by rw [z]; simp)])).ext e02
            have I := hit _ (List.mem_of_getElem? hw)
            have thx := th_ext I.th e02
            obtain ⟨ty, t1, t2, t3⟩ := thx.ty
            walk_at "go"
            refine r_isi (.ty _) t1 t3 ?_
            walk_at "go"
            cases tp with
            | none =>
              walk_at "go"
              exact RsG.mk E_NoField.o E_NoField.no (bad rfl)
            | some ys =>
              obtain ⟨ay, rfl, hay⟩ := thx.tup ys rfl
              walk_at "go"
              refine ⟨ay, ys, rfl, .inr (hay.t), ?_⟩
              walk_at "go"
              match ys, hay, I, bad, hs with
              | [], hay, I, bad, hs =>
                walk_at "go"
                exact RsG.mk E_NoField.o E_NoField.no (bad rfl)
              | [_], hay, I, bad, hs =>
                walk_at "go"
                exact RsG.mk E_NoField.o E_NoField.no (bad rfl)
              | (_ :: _ :: y3 :: ys), hay, I, bad, hs =>
                rw [show decide (V.int (((_ :: _ :: y3 :: ys : List V).length : Nat) : Int) = V.int 2) = false from decide_eq_false (fun z => by have z := V.int.inj z; simp at z; omega)]
                walk_at "go"
                exact RsG.mk E_NoField.o E_NoField.no (bad rfl)
              | [y0, y1], hay, I, bad, hs =>
                have hayt := hay.t
                walk_at "go"
                obtain ⟨tq0, th0⟩ := (I.parts _ rfl).2 y0 (by simp)
                obtain ⟨tq1, th1⟩ := (I.parts _ rfl).2 y1 (by simp)
                refine ⟨y0, tq0, rfl, th_ext th0 e02, fun H3 e3 => ?_⟩
                have k3 := kn.ext e3
                have hay3 := hay.ext e3
                have hay3t := hay3.t
                walk_at "go"
                cases h0 : nameV y0 with
                | false =>
                  walk_at "go"
                  exact RsG.mk E_NoField.o E_NoField.no ((bad (by show (_ && _) = false; rw [h0]; rfl)).ext e3)
                | true =>
                  walk_at "go"
                  refine ⟨q2, nm, rfl, .inl (SqL.of (k3.find .here)), by (cases y0 <;> first | rfl | cases h0), hf, ?_⟩
                  walk_at "go"
                  cases h3 : inV y0 nm with
                  | true =>
                    walk_at "go"
                    exact RsG.mk E_NoField.o E_NoField.no ((bad (by show (_ && (!inV y0 nm && _)) = false; rw [h3]; simp)).ext e3)
                  | false =>
                    walk_at "go"
                    refine ⟨r, kd, tl, T, n, y1, tq1, rfl, R.ext (e02.trans e3), th_ext th1 (e02.trans e3), fun H4 e4 => ?_⟩
                    have k4 := k3.ext e4
                    have hay4 := hay3.ext e4
                    have hay4t := hay4.t
                    walk_at "go"
                    cases h4 : clsV T y1 with
                    | false =>
                      walk_at "go"
                      exact RsG.mk E_NoField.o E_NoField.no ((bad (by show (_ && (_ && clsV T y1)) = false; rw [h4]; simp)).ext (e3.trans e4))
                    | true =>
                      walk_at "go"
                      rename_i H5 k5
                      refine ⟨⟨_, _, _, rfl⟩, _, k5, ?_, ?_, ?_⟩
                      · rw [hs]
                        show (if okI T nm (some [y0, y1]) = true then _ else _) = _
                        rw [if_pos (by show (nameV y0 && (!inV y0 nm && clsV T y1)) = true; rw [h0, h3, h4]; rfl)]
                        rfl
                      · rw [List.all_append, hf]
                        cases y0 <;> first | rfl | cases h0
                      · rw [List.length_append]
                        show nm.length + 1 ≤ _
                        omega
          · rintro σ H2 ⟨⟨v4, v5, v6, rfl⟩, nm, kn, hs, hf, hn⟩
            have hvl : vw.length = xs.length := by rw [← hvw, List.length_map]
            rw [← hvl, List.drop_length] at hs
            have good := hgood hs
            have e02 := kn.extE
            walk_at "go"
            refine FldAt.mk (e02 _ _ h1) C.r C.r_kinds rfl ?_
            walk_at "go"
            refine dget_mk (rd_ext h2 e02) hv ?_
            refine FldAt.mk (e02 _ _ hq) C.k C.k_fields rfl ?_
            walk_at "go"
            refine ⟨ft, a, c.all, xs, rfl, rfl, (hft.ext e02).t, (ha.ext e02).t, sz_of (by omega), fun z => ?_, fun z1 z2 => ?_, fun z1 z2 p' hp' => ?_⟩
            · exact good a H2 e02 (by rw [z]; exact ha.ext e02)
            · exact good ft H2 e02 (by rw [z2, List.append_nil]; exact hft.ext e02)
            · exact good p' _ (e02.trans (.new hp')) (.inl upd_same)
/-- add_class(runtime, name, parent, fields=fields): what comes, in this order -/
def spAdd (K : PySem.W.Frag) (CK CR NC TK NF : Addr) : Sp := fun vs H Q E => ∃ r kd tl T n nm tn pr tp fl tf, vs = [.ref r, nm, pr, fl] ∧ RtW K CK CR H r kd tl T n ∧ n < 50000 ∧ T.length < 50000 ∧ Th K H nm tn ∧ Th K H pr tp ∧ Th K H fl tf ∧
  (nameV nm = false → ExTo E H NC "name" nm) ∧
  (∀ z, nm = .str z → nameS z = true → ((findC T z).isSome = true → ExTo E H TK "name" nm) ∧
    (findC T z = none → (clsV T pr = false → ExTo E H NC "name" pr) ∧
      (clsV T pr = true → ∀ p, pr = .str p → (p = "int" → ExTo E H NC "name" pr) ∧
        (p ≠ "int" → ∀ c, findC T p = some c → ∃ as, Paired (FNm H) c.all as ∧ as.length ≤ 1000 ∧ ((tf = none ∨ ∃ xs, tf = some xs ∧ 3 < xs.length) → ExTo E H NF "field" fl) ∧
          (∀ xs, tf = some xs → xs.length ≤ 3 → ∃ vw : List Vw, vw.map (·.1) = xs ∧ (∀ q, q ∈ vw → ItemAt K H q) ∧ (∀ x, scan T (as.map V.str) vw = some x → ExTo E H NF "field" x) ∧
            (scan T (as.map V.str) vw = none → ∀ ts tv H', H tl = some (.lst ts) → ts[n]? = some tv → Fr [kd, tl] H H' → RtW K CK CR H' r kd tl (T ++ [⟨z, some p, xs, c.all ++ xs, n + 1⟩]) (n + 1) → H' tl = some (.lst (ts ++ [tv])) → Q (.int ((n + 1 : Nat) : Int)) H'))))))
theorem ItemAt.ext {K : PySem.W.Frag} {H H' : Hp} {q : Vw} (I : ItemAt K H q) (e : Wc.Ext H H') : ItemAt K H' q := ⟨th_ext I.th e, fun ys z => ⟨(I.parts ys z).1, fun y hy => by
  obtain ⟨tq, t⟩ := (I.parts ys z).2 y hy
  exact ⟨tq, th_ext t e⟩⟩⟩
theorem FNm.ext {H H' : Hp} {x : V} {a : Str} (h : FNm H x a) (e : Wc.Ext H H') : FNm H' x a := by
  obtain ⟨t, b, h1, h2, h3⟩ := h
  exact ⟨t, b, h1, e _ _ h2, h3⟩
theorem ok_add_class (F : FunD K "add_class" "add_class" (defArgs s_add_class) (defBody s_add_class) (defScope s_add_class) [] [] f fd) (T : Bt mg) (C : Cs K CK CR) (E_NoClass : ErrOk P w K mg base "NoClass" NC "name") (E_Taken : ErrOk P w K mg base "Taken" TK "name")
    (D_is_name : DfOk P w K mg base CX0 1 "is_name" ["thing"] (spIsName K)) (D_check_class : DfOk P w K mg base (L2.CX P w) 3 "check_class" ["runtime", "name"] (spCheck K CK CR NC)) (D_own_fields : DfOk P w K mg base (L2.CX P w) 3 "own_fields" ["runtime", "parent", "fields"] (spOwn K CK CR NF))
    (M_newest : MtOk P w K mg base CX0 1 CR "newest" ["self"] (spNewest K CK CR)) (M_table : MtOk P w K mg base CX0 1 CR "table" ["self", "world"] (spTable K CK CR)) (M_add_world : MtOk P w K mg base CX0 2 CR "add_world" ["self", "table"] (spAddWorld K CK CR))
    (K_Kind : MkOk P w K mg base CX0 1 "Kind" CK ["self", "parent", "fields", "since"] (spKind CK)) :
    FnOk P w K mg base (L2.CX P w) 4 f fd ["runtime", "name", "parent", "fields"] (spAdd K CK CR NC TK NF) := by
  refine F.ok sc_add_class (fun vs H Q E h => ?_) (fun cdv A outer s H vs Q E hr h => ?_)
  · obtain ⟨r, kd, tl, T, n, nm, tn, pr, tp, fl, tf, rfl, _⟩ := h
    rfl
  · refine ⟨_, (pss_cons (ps_if (pt_not (pt_val (pe_callD D_is_name hr (pa_cons (pv 1) pa_nil)))) (pss_one (ps_raiseE rfl (takes_of rfl rfl rfl rfl) E_NoClass hr (pv 1))) pss_nil)
      (pss_cons (ps_if (pt_cmp (pc_din (un1 hr) (pv 1) (pe_fld (pv 0) rfl))) (pss_one (ps_raiseE rfl (takes_of rfl rfl rfl rfl) E_Taken hr (pv 1))) pss_nil)
      (pss_cons (ps_expr (pe_callDX (E := E) D_check_class hr (passes_call (takes_of rfl rfl rfl rfl) (fun _ _ _ _ z => z)) (pa_cons (pv 0) (pa_cons (pv 2) pa_nil))))
      (pss_cons (ps_if (pt_cmpR op_eq (pv 2) pe_str (nomark _)) (pss_one (ps_raiseE rfl (takes_of rfl rfl rfl rfl) E_NoClass hr (pv 2))) pss_nil)
      (pss_cons (ps_set (i := 4) sc_add_class.nd rfl (by first | exact Or.inl rfl | exact Or.inr rfl) (pe_callDX (E := E) D_own_fields hr (passes_call (takes_of rfl rfl rfl rfl) (fun _ _ _ _ z => z)) (pa_cons (pv 0) (pa_cons (pv 2) (pa_cons (pv 3) pa_nil)))))
      (pss_cons (ps_set (i := 5) sc_add_class.nd rfl (by first | exact Or.inl rfl | exact Or.inr rfl) (pe_methC M_add_world hr (pv 0) (pa_cons (pe_methC M_table hr (pv 0) (pa_cons (pe_methC0 M_newest hr (pv 0)) pa_nil)) pa_nil)))
      (pss_cons (ps_dput (un1 hr) (pe_fld (pv 0) rfl) (pv 1) (pe_makeC K_Kind hr (pa_cons (pv 2) (pa_cons (pv 4) (pa_cons (pv 5) pa_nil)))) rfl)
      (pss_one (ps_ret (pv 5)))))))))), ?_⟩
    obtain ⟨r, kd, tl, T, n, nm, tn, pr, tp, fl, tf, rfl, R, hn, hT, thn, thp, thf, k0, k1⟩ := h
    rw [show L2.start ["runtime", "name", "parent", "fields", "every", "world"] [V.ref r, nm, pr, fl] = ([some (V.ref r), some (nm), some (pr), some (fl), none, none] : List (Option V)) from rfl]
    have kh := KH.start (H := H)
    walk_at "go"
    refine ⟨nm, tn, rfl, thn, fun H1 e1 => ?_⟩
    walk_at "go"
    cases hnm : nameV nm with
    | false =>
      walk_at "go"
      exact RsG.mk E_NoClass.o E_NoClass.no ((k0 hnm).ext e1)
    | true =>
      obtain ⟨z, rfl, hz⟩ := thn.isS (by cases nm <;> first | rfl | cases hnm)
      obtain ⟨kA, kB⟩ := k1 z rfl hnm
      obtain ⟨⟨dx, fs, h1, hs1, hs2, hs3⟩, ⟨kvs, h2, bn⟩, _⟩ := id R.at_
      walk_at "go"
      refine FldAt.mk (e1 _ _ h1) C.r C.r_kinds rfl ?_
      refine din_mkR (rd_ext h2 e1) ?_
      rw [bn.isSome]
      walk_at "go"
      cases hf : findC T z with
      | some c0 =>
        walk_at "go"
        exact RsG.mk E_Taken.o E_Taken.no ((kA (by rw [hf] <;> rfl)).ext e1)
      | none =>
        obtain ⟨kC, kD⟩ := kB hf
        walk_at "go"
        refine ⟨r, kd, tl, T, n, pr, tp, rfl, R.at_.ext e1, th_ext thp e1, fun hc H2 e2 => ?_, fun hc => (kC hc).ext e1⟩
        obtain ⟨p, rfl⟩ : ∃ p, pr = .str p := by
          cases pr <;> first | exact ⟨_, rfl⟩ | cases hc
        obtain ⟨kE, kF⟩ := kD hc p rfl
        have e02 := e1.trans e2
        walk_at "go"
        by_cases hp : p = "int"
        · rw [show decide (V.str p = V.str "int") = true from decide_eq_true (by rw [hp])]
          walk_at "go"
          exact RsG.mk E_NoClass.o E_NoClass.no ((kE hp).ext e02)
        · rw [show decide (V.str p = V.str "int") = false from decide_eq_false (fun z => hp (V.str.inj z))]
          walk_at "go"
          obtain ⟨c, hcp⟩ : ∃ c, findC T p = some c := by
            cases q : findC T p with
            | some c => exact ⟨c, rfl⟩
            | none =>
              have hc : (nameS p && (findC T p).isSome) = true := hc
              rw [q] at hc
              simp at hc
          obtain ⟨as, ha, hal, kG, kH'⟩ := kF hp c hcp
          refine ⟨r, kd, tl, T, n, p, c, as, fl, tf, rfl, R.at_.ext e02, hcp, Paired.mapP ha fun _ _ z => z.ext e02, hal, th_ext thf e02, fun xs hx hxl => ?_, fun z => (kG z).ext e02⟩
          obtain ⟨vw, hv1, hv2, hv3, hv4⟩ := kH' xs hx hxl
          refine ⟨vw, hv1, fun q hq => (hv2 q hq).ext e02, fun x hx => (hv3 x hx).ext e02, fun hsc ev H3 e3 hev => ?_⟩
          have good := hv4 hsc
          have e03 := e02.trans e3
          have R3 := R.at_.ext e03
          walk_at "go"
          refine ⟨r, dx, _, rfl, e03 _ _ h1, hs3, ?_⟩
          walk_at "go"
          refine ⟨r, dx, _, rfl, e03 _ _ h1, hs2, ?_⟩
          walk_at "go"
          refine ⟨r, dx, _, rfl, e03 _ _ h1, hs1, ?_⟩
          walk_at "go"
          refine ⟨r, kd, tl, T, n, rfl, R3, ?_⟩
          walk_at "go"
          refine ⟨r, kd, tl, T, n, n, rfl, R3, Nat.le_refl _, fun ts3 tv hts3 htv3 => ?_⟩
          walk_at "go"
          refine ⟨r, kd, tl, T, n, tv, rfl, R3, hn, fun ts4 H4 hts4 f4 R4 hl4 => ?_⟩
          have k4 := KH.start (H := H4)
          walk_at "go"
          refine mkKind k4 fun x dx2 H5 nx k5 => ?_
          have e45 := k5.extE
          have R5 := R4.ext e45
          obtain ⟨⟨dx5, fs5, h5, _⟩, ⟨kvs5, hk5, bn5⟩, xs5, ht5, hl5⟩ := id R5
          obtain ⟨kvs0, hkd0⟩ := R.kd
          obtain ⟨xs3, ht3, _⟩ := R3.tl
          have nkt : kd ≠ tl := ne_of (e03 _ _ hkd0) ht3 (by intro z; cases z)
          have hkd5 : H5 kd = some (.dK kvs0) := e45 _ _ (f4 _ _ (by simpa using nkt) (e03 _ _ hkd0))
          obtain rfl : kvs5 = kvs0 := by
            rcases hk5 with hk5 | ⟨_, hk5⟩ <;> rw [hkd5] at hk5 <;> cases hk5
            rfl
          walk_at "go"
          refine FldAt.mk h5 C.r C.r_kinds rfl ?_
          walk_at "go"
          refine ⟨kd, _, rfl, DPut.k (k := .inr z) hkd5 (by have := bn5.length; exact sz_lt (by omega)), ?_⟩
          walk_at "go"
          have mo5 : Mo H5 (upd H5 kd (.dK (putK kvs5 (.inr z) (.ref x)))) := Mo.upd hkd5 rfl
          have mo3 : Mo H3 H4 := Mo.fr1 f4 ht3 rfl
          obtain ⟨ts0, hts0, _⟩ := id R.at_.tl
          have ex3 := e03 _ _ hts0
          obtain rfl : ts0 = ts3 := by
            rw [ex3] at hts3
            cases hts3
            rfl
          obtain rfl : ts0 = ts4 := by
            rw [ex3] at hts4
            cases hts4
            rfl
          refine good ts0 tv _ hts0 htv3 (fun a o ha0 h0 => ?_) ⟨⟨⟨dx5, fs5, mo5 _ _ rfl h5, by assumption⟩, ⟨_, .inl upd_same, (bn5.mono fun _ _ z => z.mo mo5).put hf ⟨x, dx2, ev, rfl, mo5 _ _ rfl (k5.find .here), (((hev.mo mo3).ext e45).mo mo5)⟩⟩, xs5, by rw [upd_ne (Ne.symm nkt)]; exact ht5, hl5⟩, _, upd_same⟩ (by rw [upd_ne (Ne.symm nkt)]; exact e45 _ _ hl4)
          have n1 : a ≠ kd := fun z => ha0 (by rw [z]; simp)
          have n2 : a ≠ tl := fun z => ha0 (by rw [z]; simp)
          rw [upd_ne n1]
          exact e45 _ _ (f4 _ _ (by simpa using n2) (e03 _ _ h0))
end
end K10


set_option Elab.async false
set_option linter.all false
set_option maxRecDepth 100000
set_option maxHeartbeats 4000000
namespace K10
open PySem L2 Wc
local macro_rules | `(tactic| walk_at "lk") => `(tactic| first | with_reducible exact Look.here | (with_reducible apply Look.there; walk_at "lk"))
local macro_rules | `(tactic| walk_at "ul") => `(tactic| first | with_reducible exact UpL.here | (with_reducible apply UpL.there; walk_at "ul"))
local macro_rules | `(tactic| walk_at "ga") => `(tactic| first | exact GetAt.here | (apply GetAt.there; walk_at "ga"))
local macro_rules | `(tactic| walk_at "sa") => `(tactic| first | exact SetAt.here | (apply SetAt.there; walk_at "sa"))
local macro_rules | `(tactic| walk_at "hp") => `(tactic| first | assumption | (refine' KH.find ?k ?h; (case k => assumption); (case h => walk_at "lk")))
local macro_rules | `(tactic| walk_at "sql") => `(tactic| first | assumption | (refine' SqL.of ?h; (case h => walk_at "hp")) | (refine' Fr.sql (KH.fr ?k) ?n ?h; (case k => assumption); (case h => assumption); (case n => (simp; done))))
local macro_rules | `(tactic| walk_at "sqt") => `(tactic| first | assumption | (refine' SqT.of ?h; (case h => walk_at "hp")))
local macro_rules | `(tactic| walk_at "side") => `(tactic| first | exact (show (0 : Int) < _ by decide) | exact (show (0 : Int) < _ by omega) | exact ⟨by decide, by decide, by decide⟩ | exact ⟨by decide, by decide, by omega⟩ | exact ⟨by decide, by decide⟩ | exact ⟨by omega, by omega⟩ | exact Or.inl ⟨by omega, by omega⟩ | exact Or.inr ⟨by omega, by omega⟩)
local macro_rules | `(tactic| walk_at "siz") => `(tactic| first | (refine sz_of ?_; first | decide | omega | (simp; done) | (simp; omega)) | (refine sz_lt ?_; first | decide | omega | (simp; done) | (simp; omega)))
local macro_rules | `(tactic| walk_at "own") => `(tactic| first | (exact Or.inr (by assumption)) | (refine Or.inl ?_; simp; done))
local macro_rules | `(tactic| walk_at "al") => `(tactic| (refine' AllocO.mk ?k ?_; (case k => assumption); intro _ _ _ _))
local macro_rules | `(tactic| walk_at "up") => `(tactic| (refine' UpdO.mk ?k ?h ?m ?_; (case k => assumption); (case h => walk_at "ul"); (case m => walk_at "own"); intro _ _))
local macro_rules | `(tactic| walk_at "st") => `(tactic| first
  | ((with_reducible refine' r_var ?h ?_); (case h => walk_at "ga"))
  | (with_reducible refine' r_seq ?_) | (with_reducible refine' r_next ?_) | (with_reducible refine' r_asg ?_) | (with_reducible refine' r_drop ?_) | (with_reducible refine' r_ret ?_) | (with_reducible refine' r_retN ?_)
  | (with_reducible refine' r_ifs ?_) | (with_reducible refine' r_cont ?_) | (with_reducible refine' r_break ?_) | (with_reducible refine' r_c ?_) | (with_reducible refine' r_op ?_) | (with_reducible refine' r_un ?_)
  | (with_reducible refine' r_test ?_) | (with_reducible refine' r_tB ?_) | (with_reducible refine' r_not ?_) | (with_reducible refine' r_and ?_) | (with_reducible refine' r_or ?_) | (with_reducible refine' r_notV ?_)
  | (with_reducible refine' r_andV ?_) | (with_reducible refine' r_orV ?_) | (with_reducible refine' r_ifE ?_) | (with_reducible refine' r_bl ?_) | (with_reducible refine' r_nil ?_) | (with_reducible refine' r_cons ?_)
  | (with_reducible refine' r_tup ?_) | (with_reducible refine' r_lst ?_) | (with_reducible refine' r_cb ?_) | (with_reducible refine' r_call ?_) | ((with_reducible refine' r_name ?h ?_); (case h => walk_at "sa")) | (with_reducible refine' r_gnil ?_)
  | (with_reducible refine' r_gcons ?_) | (with_reducible refine' r_gsub ?_) | (with_reducible refine' r_par ?_) | (with_reducible refine' r_par2 ?_) | (with_reducible refine' r_I0 ?_) | (with_reducible refine' r_U ?_)
  | ((with_reducible refine' r_eq ?h ?_); (case h => rfl)) | ((with_reducible refine' r_ne ?h ?_); (case h => rfl))
  | ((with_reducible refine' r_ixL ?h ?a ?_); (case h => walk_at "sql"); (case a => rfl))
  | ((with_reducible refine' r_ixT ?h ?a ?_); (case h => walk_at "sqt"); (case a => rfl))
  | ((with_reducible refine' r_setL ?h ?a ?_); (case h => walk_at "hp"); (case a => rfl))
  | ((with_reducible refine' r_I ?c ?_); (case c => walk_at "side"))
  | (with_reducible refine' r_sl ?_) | (with_reducible refine' r_part ?_) | (with_reducible refine' r_nopart ?_) | (with_reducible refine' r_ii ?_)
  | ((with_reducible refine' r_slL ?h ?_); (case h => walk_at "sql"))
  | (with_reducible refine' r_bm ?_) | (with_reducible refine' r_bm0 ?_) | (with_reducible refine' r_int1 ?_) | (with_reducible refine' r_int1b ?_)
  | ((with_reducible refine' r_aug ?h ?_); (case h => walk_at "ga"))
  | ((with_reducible refine' r_cat ?a ?b ?z ?_); (case a => walk_at "hp"); (case b => walk_at "hp"); (case z => walk_at "siz"))
  | ((with_reducible refine' r_append ?a ?z ?_); (case a => walk_at "hp"); (case z => walk_at "siz"))
  | ((with_reducible refine' And.intro ?z ?_); (case z => first | walk_at "siz" | exact Or.inl ⟨rfl, _, by walk_at "sql"⟩))
  | ((with_reducible refine' r_gtup ?h ?l ?_); (case h => walk_at "sqt"); (case l => rfl))
  | (with_reducible refine' r_forL ?_) | (with_reducible refine' r_forE ?_) | (with_reducible refine' r_forR ?_) | ((with_reducible refine' r_forL2 ?h ?_); (case h => walk_at "sql")) | ((with_reducible refine' r_forE2 ?h ?_); (case h => walk_at "sql"))
  | (with_reducible refine' r_lcR ?_) | ((with_reducible refine' r_iteT ?h ?_); (case h => rfl)) | ((with_reducible refine' r_iteF ?h ?_); (case h => rfl))
  | (with_reducible refine' r_dnew ?_) | (with_reducible refine' r_vei ?_) | (with_reducible refine' r_ost ?_) | (with_reducible refine' r_mkV ?_) | (with_reducible refine' r_mkX ?_) | (with_reducible refine' r_xfld ?_)
  | ((with_reducible refine' MkG.mk ?o ?n ?k ?_); (case o => exact ErrOk.o (by assumption)); (case n => exact ErrOk.no (by assumption)); (case k => assumption); intro _ _ _ _)
  | ((with_reducible refine' AllocX.mk ?k ?_); (case k => assumption); intro _ _ _ _)
  | (with_reducible refine' r_chain ?_) | (with_reducible refine' r_lcS ?_) | (with_reducible refine' r_lcS2 ?_) | (with_reducible refine' r_lcL ?_) | (with_reducible refine' r_lcT ?_) | (with_reducible refine' r_lcI ?_) | (with_reducible refine' r_yes ?_)
  | (with_reducible refine' r_fld ?_) | (with_reducible refine' r_sfld ?_) | (with_reducible refine' r_meth ?_) | (with_reducible refine' r_make ?_) | (with_reducible refine' r_dget ?_) | (with_reducible refine' r_din ?_) | (with_reducible refine' r_dput ?_)
  | ((with_reducible refine' r_disp ?k ?_); (case k => assumption); intro _ _ _ _) | (with_reducible refine' r_pnil ?_) | (with_reducible refine' r_pcons ?_)
  | (walk_at "al") | (walk_at "up"))
local macro_rules | `(tactic| walk_at "go") => `(tactic| repeat walk_at "st")

mutual
theorem dtExt {K : PySem.W.Frag} {H H' : Hp} (e : Wc.Ext H H') : ∀ (d : Dt) (v : V), DtAt K H v d → DtAt K H' v d
  | .str s, _, h => by
    cases h with
    | str h => exact .str h
  | .int i, _, h => by
    cases h with
    | int => exact .int _
  | .oth, v, h => by
    cases h with
    | oth th hs ty k1 k2 =>
      refine .oth (th_ext th e) hs ?_ k1 k2
      cases ty with
      | base h =>
        refine .base ?_
        cases h with
        | non => exact .non
        | bl b => exact .bl b
        | int i => exact .int i
        | str s => exact .str s
        | flt s => exact .flt s
        | lst h => exact .lst (e _ _ h)
        | frz h => exact .frz (e _ _ h)
        | tup h => exact .tup (e _ _ h)
        | dK h => exact .dK (e _ _ h)
        | dT h => exact .dT (e _ _ h)
        | ins h c a b d g => exact .ins (e _ _ h) c a b d g
      | byt b => exact .byt b
      | set h => exact .set (e _ _ h)
      | kList h c => exact .kList h c
      | kTuple h c => exact .kTuple h c
      | kDict h c => exact .kDict h c
      | fTuple h => exact .fTuple (e _ _ h)
      | fDict h => exact .fDict (e _ _ h)
  | .tup ds, _, h => by
    cases h with
    | tup h hl t => exact .tup (e _ _ h) hl (dtExtA e ds _ t)
theorem dtExtA {K : PySem.W.Frag} {H H' : Hp} (e : Wc.Ext H H') : ∀ (ds : List Dt) (vs : List V), DtAll K H vs ds → DtAll K H' vs ds
  | [], _, h => by
    cases h
    exact .nil
  | d :: ds, _, h => by
    cases h with
    | cons h t => exact .cons (dtExt e d _ h) (dtExtA e ds _ t)
end
/-- the constants of bodies.py -/
structure Bd (K : PySem.W.Frag) (w : World) (mg : Str → Option Value) (dl dw tc : Addr) : Prop where
  gL : mg "LENGTHS" = some (.ref dl)
  gW : mg "WITHIN" = some (.ref dw)
  gC : mg "CALLS" = some (.ref tc)
  gG : ∃ t, mg "GREATEST" = some (.int 1000000000 t)
  gM : ∃ t, mg "MOST_PARTS" = some (.int 24 t)
  kl : KD K w dl (fun z r => RelO ((assocV LENS z).map fun n => V.int (n : Nat)) r)
  kw : KD K w dw (fun z r => match assocV WITH z with | none => r = none | some xs => ∃ t, r = some (.ref t) ∧ ∀ H, SqT K H t (xs.map fun n => V.int (n : Nat)))
  kc : ∀ H, SqT K H tc [.str "call", .str "newest"]
section
variable {P : Program} {w : World} {K : PySem.W.Frag} {mg : Str → Option Value} {base : Heap} {f : Addr} {fd : FuncData} {CK CR NC dl dw tc CP : Addr}
def spIsInt (K : PySem.W.Frag) : Sp := fun vs H Q _ => ∃ x d, vs = [x] ∧ DtAt K H x d ∧ Q (.bl (intD d)) H
theorem ok_is_integer (F : FnP K "is_integer" s_is_integer f fd) (T : Bt mg) : FnOk P w K mg base CX0 1 f fd ["thing"] (spIsInt K) := by
  refine F.ok sc_is_integer (fun vs H Q E h => ?_) (fun cdv A outer s H vs Q E hr h => ?_)
  · obtain ⟨x, d, rfl, _⟩ := h
    rfl
  · refine ⟨_, PSs.nox (pss_one (ps_ret (pe_and (pe_callB call_isi (by rfl) T.f_isinstance PyProof.Rows.boot_isinstance (pa_cons (pv 0) (pa_cons (pe_bltn (v := .ty "int") (by rfl) T.f_int PyProof.Rows.boot_int rfl) pa_nil))) (pe_one (pe_not (pe_callB call_isi (by rfl) T.f_isinstance PyProof.Rows.boot_isinstance (pa_cons (pv 0) (pa_cons (pe_bltn (v := .ty "bool") (by rfl) T.f_bool PyProof.Rows.boot_bool rfl) pa_nil)))))))), ?_⟩
    obtain ⟨x, d, rfl, th, k⟩ := h
    rw [show L2.start ["thing"] [x] = ([some (x)] : List (Option V)) from rfl]
    have kh := KH.start (H := H)
    walk_at "go"
    obtain ⟨t, b, h1, h2, h3, h4⟩ := th.ints
    refine r_isi (.ty _) h1 h2 ?_
    walk_at "go"
    cases hd : intD d with
    | true =>
      obtain ⟨rfl, _⟩ := h4 hd
      walk_at "go"
      refine r_isi (.ty _) h1 h3 ?_
      walk_at "go"
      rw [hd] at k
      exact k
    | false =>
      rw [hd] at k
      cases b with
      | true =>
        walk_at "go"
        refine r_isi (.ty _) h1 h3 ?_
        walk_at "go"
        exact k
      | false =>
        walk_at "go"
        exact k
def spBetween (K : PySem.W.Frag) : Sp := fun vs H Q _ => ∃ x d lo hi, vs = [x, .int lo, .int hi] ∧ DtAt K H x d ∧ Q (.bl (betD lo hi d)) H
theorem ok_is_between (F : FnP K "is_between" s_is_between f fd) (T : Bt mg) (D_is_integer : DfOk P w K mg base CX0 1 "is_integer" ["thing"] (spIsInt K)) : FnOk P w K mg base CX0 2 f fd ["thing", "low", "high"] (spBetween K) := by
  refine F.ok sc_is_between (fun vs H Q E h => ?_) (fun cdv A outer s H vs Q E hr h => ?_)
  · obtain ⟨x, d, lo, hi, rfl, _⟩ := h
    rfl
  · refine ⟨_, PSs.nox (pss_one (ps_ret (pe_and (pe_callD D_is_integer hr (pa_cons (pv 0) pa_nil)) (pe_one (pe_chain op_le op_le (pv 1) (pv 0) (pv 2)))))), ?_⟩
    obtain ⟨x, d, lo, hi, rfl, th, k⟩ := h
    rw [show L2.start ["thing", "low", "high"] [x, V.int lo, V.int hi] = ([some (x), some (V.int lo), some (V.int hi)] : List (Option V)) from rfl]
    have kh := KH.start (H := H)
    walk_at "go"
    refine ⟨x, d, rfl, th, ?_⟩
    walk_at "go"
    cases th with
    | int i =>
      walk_at "go"
      cases h1 : decide (lo ≤ i) with
      | false =>
        walk_at "go"
        have e : betD lo hi (.int i) = false := by show (decide (lo ≤ i) && _) = false; rw [h1] <;> rfl
        rw [e] at k
        exact k
      | true =>
        walk_at "go"
        have e : betD lo hi (.int i) = decide (i ≤ hi) := by show (decide (lo ≤ i) && _) = _; rw [h1] <;> rfl
        rw [e] at k
        exact k
    | str _ =>
      walk_at "go"
      exact k
    | oth _ _ _ _ _ =>
      walk_at "go"
      exact k
    | tup _ _ _ =>
      walk_at "go"
      exact k
theorem inV_call (z : Str) : inV (.str z) [.str "call", .str "newest"] = isCallW z := by
  have h : ∀ a b : Str, (a == b) = decide (b = a) := fun a b => by
    by_cases e : b = a
    · rw [decide_eq_true e, e]
      exact beq_self_eq_true a
    · rw [decide_eq_false e]
      exact beq_eq_false_iff_ne.mpr fun z => e z.symm
  simp [inV, isCallW, eqV, h]
theorem inV_int2 (n : Nat) (a b : Nat) : inV (.int (n : Nat)) [.int (a : Nat), .int (b : Nat)] = (decide (n = a) || decide (n = b)) := by
  have h : ∀ a b : Nat, ((a : Int) == (b : Int)) = decide (b = a) := fun a b => by
    by_cases e : b = a
    · rw [decide_eq_true e, e]
      exact beq_self_eq_true _
    · rw [decide_eq_false e]
      exact beq_eq_false_iff_ne.mpr fun z => e (by omega)
  simp [inV, eqV, h]
theorem r_in {K : PySem.W.Frag} {p : Addr} {xs : List V} {x : V} {H : Hp} {Q : VK} (h : SqL K H p xs ∨ SqT K H p xs) (fx : flatV x = true) (fs : xs.all flatV = true) (q : Q (.bl (inV x xs)) H) : rIn K false x (.ref p) H Q := ⟨p, xs, rfl, h, fx, fs, q⟩
def spIsSig (K : PySem.W.Frag) (CK CR : Addr) : Sp := fun vs H Q _ => ∃ r kd tl T n x d, vs = [.ref r, x] ∧ RtAt K CK CR H r kd tl T n ∧ DtAt K H x d ∧ ∀ H', Wc.Ext H H' → Q (.bl (sigD T d)) H'
abbrev NN_is_signature : List Str := ["runtime", "thing", "name"]
theorem ok_is_signature (F : FnP K "is_signature" s_is_signature f fd) (T : Bt mg) (D_is_class : DfOk P w K mg base CX0 2 "is_class" ["runtime", "name"] (spIsClass K CK CR)) : FnOk P w K mg base CX0 3 f fd ["runtime", "thing"] (spIsSig K CK CR) := by
  refine F.ok sc_is_signature (fun vs H Q E h => ?_) (fun cdv A outer s H vs Q E hr h => ?_)
  · obtain ⟨r, kd, tl, T, n, x, d, rfl, _⟩ := h
    rfl
  · refine ⟨_, PSs.nox (pss_one (ps_ret (pe_and (pe_callB call_isi (by rfl) T.f_isinstance PyProof.Rows.boot_isinstance (pa_cons (pv 1) (pa_cons (pe_bltn (v := .ty "tuple") (by rfl) T.f_tuple PyProof.Rows.boot_tuple rfl) pa_nil))) (pe_and (pe_cmpR op_in_seq (pe_callB call_len_seq (by rfl) T.f_len PySem.boot_len (pa_cons (pv 1) pa_nil)) (pe_tup (pa_cons pe_int (pa_cons pe_int pa_nil))) (by rfl)) (pe_one (pe_callB (cr_all rfl) (by rfl) T.f_all PyProof.Rows.boot_all (pa_cons (pe_lc (own := [("name", 2)]) rfl sc_is_signature.nd (pi_tup (pv 1)) (blkOk_by (N := NN_is_signature) (sc := defScope s_is_signature) (by decide +kernel)) (fun _ _ _ _ _ => (pg_name (i := 2) sc_is_signature.nd rfl (by first | exact Or.inl rfl | exact Or.inr rfl))) (fun _ _ _ _ _ => pts_nil) (fun _ _ _ _ _ => (pe_callD D_is_class hr (pa_cons (pv 0) (pa_cons (pv 2) pa_nil))))) pa_nil))))))), ?_⟩
    obtain ⟨r, kd, tl, T, n, x, d, rfl, R, th, k⟩ := h
    rw [show L2.start ["runtime", "thing", "name"] [V.ref r, x] = ([some (V.ref r), some (x), none] : List (Option V)) from rfl]
    have kh := KH.start (H := H)
    walk_at "go"
    obtain ⟨tp, h0, htp⟩ := th.th
    obtain ⟨ty, h1, h2, h3⟩ := h0.ty
    refine r_isi (.ty _) h1 h3 ?_
    walk_at "go"
    cases th with
    | str _ =>
      rw [show tp.isSome = false from by cases h4 : tp.isSome <;> simp_all]
      walk_at "go"
      exact k _ (Wc.Ext.refl _)
    | int _ =>
      rw [show tp.isSome = false from by cases h4 : tp.isSome <;> simp_all]
      walk_at "go"
      exact k _ (Wc.Ext.refl _)
    | oth _ _ _ _ _ =>
      rw [show tp.isSome = false from by cases h4 : tp.isSome <;> simp_all]
      walk_at "go"
      exact k _ (Wc.Ext.refl _)
    | @tup a vs ds ha hal tt =>
      rw [show tp.isSome = true from by simpa using htp]
      walk_at "go"
      refine ⟨a, vs, rfl, .inr (SqT.of ha), ?_⟩
      walk_at "go"
      rename_i p1 H1 n1 k1
      refine r_in (.inr (SqT.of (k1.find .here))) rfl rfl ?_
      rw [show inV (V.int (vs.length : Nat)) [V.int 1, V.int 2] = (decide (vs.length = 1) || decide (vs.length = 2)) from inV_int2 vs.length 1 2]
      have hlen := tt.length
      walk_at "go"
      have sg : sigD T (.tup ds) = ((decide (vs.length = 1) || decide (vs.length = 2)) && ds.all (clsD T)) := by
        rw [hlen]
        rfl
      cases hl : (decide (vs.length = 1) || decide (vs.length = 2)) with
      | false =>
        walk_at "go"
        rw [sg, hl] at k
        exact k _ k1.extE
      | true =>
        rw [sg, hl] at k
        have ha1 := k1.extE _ _ ha
        have t1 := dtExtA k1.extE _ _ tt
        walk_at "go"
        refine ⟨a, rfl, ⟨vs, SqT.of ha1⟩, ?_⟩
        refine lcJ (walk_tup (xs := vs)) (fun i => ds[i]?.map fun d => V.bl (clsD T d)) (by omega) (fun _ e => SqT.of (e _ _ ha1)) ?_ ?_
        · rintro i x H2 H3 R' N' hi e2 ⟨rfl, hx⟩ hR hN
          walk_at "go"
          refine ⟨rfl, ?_⟩
          walk_at "go"
          obtain ⟨d, hd⟩ : ∃ d, ds[i]? = some d := ⟨_, List.getElem?_eq_getElem (by omega)⟩
          obtain ⟨x', hx', dx⟩ := t1.get hd
          obtain rfl : x = x' := Option.some.inj (hx.symm.trans hx')
          obtain ⟨tx, hth, _⟩ := (dtExt e2 _ _ dx).th
          refine ⟨r, kd, tl, T, n, x, tx, rfl, R.ext (k1.extE.trans e2), hth, fun H4 e4 => ?_⟩
          refine hR _ _ ?_ e4
          rw [hd, dx.cls] <;> rfl
        · intro p2 H2 hp2 e2 hl2
          walk_at "go"
          rw [hlen, range_mapG] at hl2
          refine ⟨p2, ds.map (clsD T), rfl, SqL.of (by rw [hl2, List.map_map]; rfl), ?_⟩
          have e : ((ds.map (clsD T)).all id) = ds.all (clsD T) := by rw [List.all_map] <;> rfl
          rw [e]
          have k := k H2 (k1.extE.trans e2)
          exact k
def spCallPart (K : PySem.W.Frag) : Sp := fun vs H Q _ => ∃ a w0 l, vs = [.ref a] ∧ DtAt K H (.ref a) (.tup (.str w0 :: l)) ∧ ∀ H', Wc.Ext H H' → Q (.bl (callB w0 (.str w0 :: l))) H'
theorem nth_ {vs : List V} {ds : List Dt} {H : Hp} (t : DtAll K H vs ds) (i : Nat) (h : i < ds.length) : ∃ v, vs[i]? = some v ∧ DtAt K H v (ds.getD i .oth) := by
  obtain ⟨v, h1, h2⟩ := t.get (List.getElem?_eq_getElem h)
  refine ⟨v, h1, ?_⟩
  rw [List.getD_eq_getElem?_getD, List.getElem?_eq_getElem h]
  exact h2
theorem ok_is_call_part (F : FnP K "is_call_part" s_is_call_part f fd) (T : Bt mg) (B : Bd K w mg dl dw tc) (D_is_name : DfOk P w K mg base CX0 1 "is_name" ["thing"] (spIsName K)) : FnOk P w K mg base CX0 2 f fd ["part"] (spCallPart K) := by
  refine F.ok sc_is_call_part (fun vs H Q E h => ?_) (fun cdv A outer s H vs Q E hr h => ?_)
  · obtain ⟨a, w0, l, rfl, _⟩ := h
    rfl
  · refine ⟨_, PSs.nox (pss_one (ps_ret (pe_and (pe_cmpR op_in_seq (pe_ix ix_tup (pv 0) pe_int (fun _ _ => rfl)) (pe_glob (v := .ref tc) (by rfl) B.gC rfl) (by rfl)) (pe_and (pe_cmpR op_in_seq (pe_callB call_len_seq (by rfl) T.f_len PySem.boot_len (pa_cons (pv 0) pa_nil)) (pe_tup (pa_cons pe_int (pa_cons pe_int pa_nil))) (by rfl)) (pe_one (pe_callD D_is_name hr (pa_cons (pe_ix ix_tup (pv 0) pe_int (fun _ _ => rfl)) pa_nil))))))), ?_⟩
    obtain ⟨a, w0, l, rfl, th, k⟩ := h
    rw [show L2.start ["part"] [V.ref a] = ([some (V.ref a)] : List (Option V)) from rfl]
    have kh := KH.start (H := H)
    cases th with
    | @tup _ vs _ ha hal tt =>
      cases tt with
      | @cons v0 _ vs _ h0 t =>
        cases h0 with
        | str hw =>
          walk_at "go"
          refine r_ixT (SqT.of ha) (atI_nat (xs := V.str w0 :: vs) (j := 0) rfl) ?_
          walk_at "go"
          refine r_in (x := .str w0) (xs := [.str "call", .str "newest"]) (.inr (B.kc _)) rfl rfl ?_
          rw [inV_call]
          walk_at "go"
          have hlen := t.length
          cases hc : isCallW w0 with
          | false =>
            walk_at "go"
            have e : callB w0 (.str w0 :: l) = false := by unfold callB; rw [hc] <;> rfl
            rw [e] at k
            exact k _ (Wc.Ext.refl _)
          | true =>
            walk_at "go"
            refine ⟨a, _, rfl, .inr (SqT.of ha), ?_⟩
            walk_at "go"
            rename_i p1 H1 n1 k1
            refine r_in (.inr (SqT.of (k1.find .here))) rfl rfl ?_
            rw [show inV (V.int ((V.str w0 :: vs).length : Nat)) [V.int 3, V.int 4] = (decide ((V.str w0 :: vs).length = 3) || decide ((V.str w0 :: vs).length = 4)) from inV_int2 _ 3 4]
            have e : callB w0 (.str w0 :: l) = ((decide ((V.str w0 :: vs).length = 3) || decide ((V.str w0 :: vs).length = 4)) && nameD ((Dt.str w0 :: l).getD 1 .oth)) := by
              unfold callB
              rw [hc, List.length_cons, List.length_cons, hlen]
              rfl
            rw [e] at k
            walk_at "go"
            cases hl : (decide ((V.str w0 :: vs).length = 3) || decide ((V.str w0 :: vs).length = 4)) with
            | false =>
              rw [hl] at k
              walk_at "go"
              exact k _ k1.extE
            | true =>
              rw [hl] at k
              have h2 : 1 < (Dt.str w0 :: l).length := by
                have h3 : (V.str w0 :: vs).length = 3 ∨ (V.str w0 :: vs).length = 4 := by simpa using hl
                simp only [List.length_cons] at h3 ⊢
                omega
              obtain ⟨v1, hv1, d1⟩ := nth_ (DtAll.cons (.str hw) t) 1 h2
              walk_at "go"
              refine r_ixT (SqT.of (k1.extE _ _ ha)) (atI_nat (j := 1) hv1) ?_
              walk_at "go"
              obtain ⟨tx, hth, _⟩ := (dtExt k1.extE _ _ d1).th
              refine ⟨v1, tx, rfl, hth, fun H2 e2 => ?_⟩
              rw [d1.name]
              exact k _ (k1.extE.trans e2)
end
end K10


set_option Elab.async false
set_option linter.all false
set_option maxRecDepth 100000
set_option maxHeartbeats 4000000
namespace K10
open PySem L2 Wc
local macro_rules | `(tactic| walk_at "lk") => `(tactic| first | with_reducible exact Look.here | (with_reducible apply Look.there; walk_at "lk"))
local macro_rules | `(tactic| walk_at "ul") => `(tactic| first | with_reducible exact UpL.here | (with_reducible apply UpL.there; walk_at "ul"))
local macro_rules | `(tactic| walk_at "ga") => `(tactic| first | exact GetAt.here | (apply GetAt.there; walk_at "ga"))
local macro_rules | `(tactic| walk_at "sa") => `(tactic| first | exact SetAt.here | (apply SetAt.there; walk_at "sa"))
local macro_rules | `(tactic| walk_at "hp") => `(tactic| first | assumption | (refine' KH.find ?k ?h; (case k => assumption); (case h => walk_at "lk")))
local macro_rules | `(tactic| walk_at "sql") => `(tactic| first | assumption | (refine' SqL.of ?h; (case h => walk_at "hp")) | (refine' Fr.sql (KH.fr ?k) ?n ?h; (case k => assumption); (case h => assumption); (case n => (simp; done))))
local macro_rules | `(tactic| walk_at "sqt") => `(tactic| first | assumption | (refine' SqT.of ?h; (case h => walk_at "hp")))
local macro_rules | `(tactic| walk_at "side") => `(tactic| first | exact (show (0 : Int) < _ by decide) | exact (show (0 : Int) < _ by omega) | exact ⟨by decide, by decide, by decide⟩ | exact ⟨by decide, by decide, by omega⟩ | exact ⟨by decide, by decide⟩ | exact ⟨by omega, by omega⟩ | exact Or.inl ⟨by omega, by omega⟩ | exact Or.inr ⟨by omega, by omega⟩)
local macro_rules | `(tactic| walk_at "siz") => `(tactic| first | (refine sz_of ?_; first | decide | omega | (simp; done) | (simp; omega)) | (refine sz_lt ?_; first | decide | omega | (simp; done) | (simp; omega)))
local macro_rules | `(tactic| walk_at "own") => `(tactic| first | (exact Or.inr (by assumption)) | (refine Or.inl ?_; simp; done))
local macro_rules | `(tactic| walk_at "al") => `(tactic| (refine' AllocO.mk ?k ?_; (case k => assumption); intro _ _ _ _))
local macro_rules | `(tactic| walk_at "up") => `(tactic| (refine' UpdO.mk ?k ?h ?m ?_; (case k => assumption); (case h => walk_at "ul"); (case m => walk_at "own"); intro _ _))
local macro_rules | `(tactic| walk_at "st") => `(tactic| first
  | ((with_reducible refine' r_var ?h ?_); (case h => walk_at "ga"))
  | (with_reducible refine' r_seq ?_) | (with_reducible refine' r_next ?_) | (with_reducible refine' r_asg ?_) | (with_reducible refine' r_drop ?_) | (with_reducible refine' r_ret ?_) | (with_reducible refine' r_retN ?_)
  | (with_reducible refine' r_ifs ?_) | (with_reducible refine' r_cont ?_) | (with_reducible refine' r_break ?_) | (with_reducible refine' r_c ?_) | (with_reducible refine' r_op ?_) | (with_reducible refine' r_un ?_)
  | (with_reducible refine' r_test ?_) | (with_reducible refine' r_tB ?_) | (with_reducible refine' r_not ?_) | (with_reducible refine' r_and ?_) | (with_reducible refine' r_or ?_) | (with_reducible refine' r_notV ?_)
  | (with_reducible refine' r_andV ?_) | (with_reducible refine' r_orV ?_) | (with_reducible refine' r_ifE ?_) | (with_reducible refine' r_bl ?_) | (with_reducible refine' r_nil ?_) | (with_reducible refine' r_cons ?_)
  | (with_reducible refine' r_tup ?_) | (with_reducible refine' r_lst ?_) | (with_reducible refine' r_cb ?_) | (with_reducible refine' r_call ?_) | ((with_reducible refine' r_name ?h ?_); (case h => walk_at "sa")) | (with_reducible refine' r_gnil ?_)
  | (with_reducible refine' r_gcons ?_) | (with_reducible refine' r_gsub ?_) | (with_reducible refine' r_par ?_) | (with_reducible refine' r_par2 ?_) | (with_reducible refine' r_I0 ?_) | (with_reducible refine' r_U ?_)
  | ((with_reducible refine' r_eq ?h ?_); (case h => rfl)) | ((with_reducible refine' r_ne ?h ?_); (case h => rfl))
  | ((with_reducible refine' r_ixL ?h ?a ?_); (case h => walk_at "sql"); (case a => rfl))
  | ((with_reducible refine' r_ixT ?h ?a ?_); (case h => walk_at "sqt"); (case a => rfl))
  | ((with_reducible refine' r_setL ?h ?a ?_); (case h => walk_at "hp"); (case a => rfl))
  | ((with_reducible refine' r_I ?c ?_); (case c => walk_at "side"))
  | (with_reducible refine' r_sl ?_) | (with_reducible refine' r_part ?_) | (with_reducible refine' r_nopart ?_) | (with_reducible refine' r_ii ?_)
  | ((with_reducible refine' r_slL ?h ?_); (case h => walk_at "sql"))
  | (with_reducible refine' r_bm ?_) | (with_reducible refine' r_bm0 ?_) | (with_reducible refine' r_int1 ?_) | (with_reducible refine' r_int1b ?_)
  | ((with_reducible refine' r_aug ?h ?_); (case h => walk_at "ga"))
  | ((with_reducible refine' r_cat ?a ?b ?z ?_); (case a => walk_at "hp"); (case b => walk_at "hp"); (case z => walk_at "siz"))
  | ((with_reducible refine' r_append ?a ?z ?_); (case a => walk_at "hp"); (case z => walk_at "siz"))
  | ((with_reducible refine' And.intro ?z ?_); (case z => first | walk_at "siz" | exact Or.inl ⟨rfl, _, by walk_at "sql"⟩))
  | ((with_reducible refine' r_gtup ?h ?l ?_); (case h => walk_at "sqt"); (case l => rfl))
  | (with_reducible refine' r_forL ?_) | (with_reducible refine' r_forE ?_) | (with_reducible refine' r_forR ?_) | ((with_reducible refine' r_forL2 ?h ?_); (case h => walk_at "sql")) | ((with_reducible refine' r_forE2 ?h ?_); (case h => walk_at "sql"))
  | (with_reducible refine' r_lcR ?_) | ((with_reducible refine' r_iteT ?h ?_); (case h => rfl)) | ((with_reducible refine' r_iteF ?h ?_); (case h => rfl))
  | (with_reducible refine' r_dnew ?_) | (with_reducible refine' r_vei ?_) | (with_reducible refine' r_ost ?_) | (with_reducible refine' r_mkV ?_) | (with_reducible refine' r_mkX ?_) | (with_reducible refine' r_xfld ?_)
  | ((with_reducible refine' MkG.mk ?o ?n ?k ?_); (case o => exact ErrOk.o (by assumption)); (case n => exact ErrOk.no (by assumption)); (case k => assumption); intro _ _ _ _)
  | ((with_reducible refine' AllocX.mk ?k ?_); (case k => assumption); intro _ _ _ _)
  | (with_reducible refine' r_chain ?_) | (with_reducible refine' r_lcS ?_) | (with_reducible refine' r_lcS2 ?_) | (with_reducible refine' r_lcL ?_) | (with_reducible refine' r_lcT ?_) | (with_reducible refine' r_lcI ?_) | (with_reducible refine' r_yes ?_)
  | (with_reducible refine' r_fld ?_) | (with_reducible refine' r_sfld ?_) | (with_reducible refine' r_meth ?_) | (with_reducible refine' r_make ?_) | (with_reducible refine' r_dget ?_) | (with_reducible refine' r_din ?_) | (with_reducible refine' r_dput ?_)
  | ((with_reducible refine' r_disp ?k ?_); (case k => assumption); intro _ _ _ _) | (with_reducible refine' r_pnil ?_) | (with_reducible refine' r_pcons ?_)
  | (walk_at "al") | (walk_at "up"))
local macro_rules | `(tactic| walk_at "go") => `(tactic| repeat walk_at "st")

structure CsP (K : PySem.W.Frag) (CP : Addr) : Prop where
  c : Cls K CP
  piece : NoAttr K CP "piece"
  path : NoAttr K CP "path"
  count : NoAttr K CP "count"
  names : NoAttr K CP "names"
/-- a place on the heap -/
def PlAt (K : PySem.W.Frag) (CP : Addr) (H : Hp) (v : V) (p : Pl) : Prop := ∃ a dx pv pt nt, v = .ref a ∧ H a = some (.ins CP dx [("piece", pv), ("path", .ref pt), ("count", .int (p.count : Nat)), ("names", .ref nt)]) ∧ DtAt K H pv p.d ∧ H pt = some (.tup (p.path.map fun n => V.int (n : Nat))) ∧ H nt = some (.tup (p.names.map V.str))
theorem PlAt.ext {K : PySem.W.Frag} {CP : Addr} {H H' : Hp} {v : V} {p : Pl} (h : PlAt K CP H v p) (e : Wc.Ext H H') : PlAt K CP H' v p := by
  obtain ⟨a, dx, pv, pt, nt, rfl, h1, h2, h3, h4⟩ := h
  exact ⟨a, dx, pv, pt, nt, rfl, e _ _ h1, dtExt e _ _ h2, e _ _ h3, e _ _ h4⟩
section
variable {P : Program} {w : World} {K : PySem.W.Frag} {mg : Str → Option Value} {base : Heap} {f : Addr} {fd : FuncData} {CK CR NC dl dw tc CP : Addr}
def spNewPart (K : PySem.W.Frag) (CK CR : Addr) : Sp := fun vs H Q _ => ∃ r kd tl T n a w0 l, vs = [.ref r, .ref a] ∧ RtAt K CK CR H r kd tl T n ∧ (∀ c, c ∈ T → c.all.length ≤ 1000) ∧ DtAt K H (.ref a) (.tup (.str w0 :: l)) ∧ ∀ H', Wc.Ext H H' → Q (.bl (newB T w0 (.str w0 :: l))) H'
theorem ok_is_new_part (F : FnP K "is_new_part" s_is_new_part f fd) (T : Bt mg) (C : Cs K CK CR) (D_is_class : DfOk P w K mg base CX0 2 "is_class" ["runtime", "name"] (spIsClass K CK CR)) : FnOk P w K mg base CX0 3 f fd ["runtime", "part"] (spNewPart K CK CR) := by
  refine F.ok sc_is_new_part (fun vs H Q E h => ?_) (fun cdv A outer s H vs Q E hr h => ?_)
  · obtain ⟨r, kd, tl, T, n, a, w0, l, rfl, _⟩ := h
    rfl
  · refine ⟨_, PSs.nox (pss_cons (ps_if (PW.pt (pw_or (pt_cmpR op_ne (pe_ix ix_tup (pv 1) pe_int (fun _ _ => rfl)) pe_str (nomark _)) (pw_or (pt_cmpR op_lt (pe_callB call_len_seq (by rfl) T.f_len PySem.boot_len (pa_cons (pv 1) pa_nil)) pe_int (nomark _)) (pw_or (pt_not (pt_val (pe_callD D_is_class hr (pa_cons (pv 0) (pa_cons (pe_ix ix_tup (pv 1) pe_int (fun _ _ => rfl)) pa_nil))))) (pw_or1 (pt_cmpR op_eq (pe_ix ix_tup (pv 1) pe_int (fun _ _ => rfl)) pe_str (nomark _))))))) (pss_one (ps_ret pe_bl)) pss_nil)
      (pss_one (ps_ret (pe_cmpR op_eq (pe_callB call_len_seq (by rfl) T.f_len PySem.boot_len (pa_cons (pv 1) pa_nil)) (pe_op op_add pe_int (pe_callB call_len_seq (by rfl) T.f_len PySem.boot_len (pa_cons (pe_fld (pe_dget (un1 hr) (pe_fld (pv 0) rfl) (pe_ix ix_tup (pv 1) pe_int (fun _ _ => rfl)) (fun _ _ => rfl)) rfl) pa_nil))) (nomark _))))), ?_⟩
    obtain ⟨r, kd, tl, T, n, a, w0, l, rfl, R, hT, th, k⟩ := h
    rw [show L2.start ["runtime", "part"] [V.ref r, V.ref a] = ([some (V.ref r), some (V.ref a)] : List (Option V)) from rfl]
    have kh := KH.start (H := H)
    cases th with
    | @tup _ vs _ ha hal tt =>
      cases tt with
      | @cons v0 _ vs _ h0 t =>
        cases h0 with
        | str hw =>
          have hlen := t.length
          walk_at "go"
          refine r_ixT (SqT.of ha) (atI_nat (xs := V.str w0 :: vs) (j := 0) rfl) ?_
          walk_at "go"
          by_cases hw0 : w0 = "new"
          · rw [show (!decide (V.str w0 = V.str "new")) = false from by rw [decide_eq_true (by rw [hw0])] <;> rfl]
            walk_at "go"
            refine ⟨a, _, rfl, .inr (SqT.of ha), ?_⟩
            walk_at "go"
            by_cases h2 : 2 ≤ (Dt.str w0 :: l).length
            · rw [show decide (((V.str w0 :: vs).length : Int) < 2) = false from decide_eq_false (by simp only [List.length_cons] at h2 ⊢; omega)]
              walk_at "go"
              obtain ⟨v1, hv1, d1⟩ := nth_ (DtAll.cons (.str hw) t) 1 (by omega)
              refine r_ixT (SqT.of ha) (atI_nat (j := 1) hv1) ?_
              walk_at "go"
              obtain ⟨tx, hth, _⟩ := d1.th
              refine ⟨r, kd, tl, T, n, v1, tx, rfl, R, hth, fun H1 e1 => ?_⟩
              rw [d1.cls]
              have ha1 := e1 _ _ ha
              generalize hg : (Dt.str w0 :: l).getD 1 .oth = g1 at d1 ⊢
              cases hc : clsD T g1 with
              | false =>
                walk_at "go"
                have e : newB T w0 (.str w0 :: l) = false := by unfold newB; rw [hg, hc]; simp
                rw [e] at k
                exact k _ e1
              | true =>
                walk_at "go"
                refine r_ixT (SqT.of ha1) (atI_nat (j := 1) hv1) ?_
                obtain ⟨z, rfl⟩ : ∃ z, g1 = .str z := by
                  cases g1 <;> first | exact ⟨_, rfl⟩ | cases hc
                cases d1 with
                | str hz =>
                  walk_at "go"
                  by_cases hi : z = "int"
                  · rw [show decide (V.str z = V.str "int") = true from decide_eq_true (by rw [hi])]
                    walk_at "go"
                    have e : newB T w0 (.str w0 :: l) = false := by unfold newB; rw [hg, hc, show isStrD "int" (.str z) = true from decide_eq_true hi]; simp
                    rw [e] at k
                    exact k _ e1
                  · rw [show decide (V.str z = V.str "int") = false from decide_eq_false (fun e => hi (V.str.inj e))]
                    walk_at "go"
                    refine ⟨a, _, rfl, .inr (SqT.of ha1), ?_⟩
                    obtain ⟨c, hcz⟩ : ∃ c, findC T z = some c := by
                      have h3 : (nameS z && (findC T z).isSome) = true := hc
                      cases q : findC T z with
                      | some c => exact ⟨c, rfl⟩
                      | none => rw [q] at h3; simp at h3
                    obtain ⟨⟨dx, fs, h1, _⟩, ⟨kvs, h4, bn⟩, _⟩ := R.ext e1
                    obtain ⟨kv, hkv, q, qx, ft, rfl, hq, hft⟩ := bn.some hcz
                    walk_at "go"
                    refine FldAt.mk h1 C.r C.r_kinds rfl ?_
                    walk_at "go"
                    refine r_ixT (SqT.of ha1) (atI_nat (j := 1) hv1) ?_
                    refine dget_mk h4 hkv ?_
                    refine FldAt.mk hq C.k C.k_fields rfl ?_
                    walk_at "go"
                    refine ⟨ft, c.all, rfl, .inr hft.t, ?_⟩
                    have hca := hT c (find_mem hcz).1
                    walk_at "go"
                    have e : newB T w0 (.str w0 :: l) = decide (V.int ((V.str w0 :: vs).length : Nat) = V.int (2 + (c.all.length : Nat))) := by
                      unfold newB
                      rw [hg, hc, show isStrD "int" (.str z) = false from decide_eq_false hi, decide_eq_true hw0, decide_eq_true h2, show fieldsOf T (.str z) = c.all.length from by show (match findC T z with | some c => c.all.length | none => 0) = _; rw [hcz]]
                      have hd : ((Dt.str w0 :: l).length = 2 + c.all.length) ↔ (V.int ((V.str w0 :: vs).length : Nat) = V.int (2 + (c.all.length : Nat))) := by
                        rw [V.int.injEq]
                        simp only [List.length_cons]
                        omega
                      simp only [Bool.true_and, Bool.not_false]
                      exact decide_eq_decide.mpr hd
                    rw [e] at k
                    exact k _ e1
            · rw [show decide (((V.str w0 :: vs).length : Int) < 2) = true from decide_eq_true (by simp only [List.length_cons] at h2 ⊢; omega)]
              walk_at "go"
              have e : newB T w0 (.str w0 :: l) = false := by unfold newB; rw [decide_eq_false h2]; simp
              rw [e] at k
              exact k _ (Wc.Ext.refl _)
          · rw [show (!decide (V.str w0 = V.str "new")) = true from by rw [decide_eq_false (fun e => hw0 (V.str.inj e))] <;> rfl]
            walk_at "go"
            have e : newB T w0 (.str w0 :: l) = false := by unfold newB; rw [decide_eq_false hw0] <;> rfl
            rw [e] at k
            exact k _ (Wc.Ext.refl _)
def spLeaf (K : PySem.W.Frag) (CP : Addr) : Sp := fun vs H Q _ => ∃ v p w0 x, vs = [v] ∧ PlAt K CP H v p ∧ p.d = .tup [.str w0, x] ∧ p.names.length ≤ 1000 ∧ ∀ H', Wc.Ext H H' → Q (.bl (leafB p.count p.names w0 x)) H'
theorem flats_all (l : List Str) : (l.map V.str).all flatV = true := by
  rw [List.all_map]
  exact List.all_eq_true.mpr fun _ _ => rfl
theorem inV_strs (z : Str) (l : List Str) : inV (.str z) (l.map V.str) = l.contains z := by
  have h : ∀ a b : Str, (a == b) = decide (b = a) := fun a b => by
    by_cases e : b = a
    · rw [decide_eq_true e, e]
      exact beq_self_eq_true a
    · rw [decide_eq_false e]
      exact beq_eq_false_iff_ne.mpr fun z => e z.symm
  induction l with
  | nil => rfl
  | cons a l ih =>
    have e : inV (.str z) (V.str a :: l.map V.str) = (eqV (.str a) (.str z) || inV (.str z) (l.map V.str)) := by
      simp [inV]
    rw [List.map_cons, e, ih, List.contains_cons]
    congr 1
    show (a == z) = (z == a)
    rw [h, h]
    exact decide_eq_decide.mpr ⟨fun e => e.symm, fun e => e.symm⟩
theorem ok_is_leaf_part (F : FnP K "is_leaf_part" s_is_leaf_part f fd) (T : Bt mg) (B : Bd K w mg dl dw tc) (C : CsP K CP) (D_is_between : DfOk P w K mg base CX0 2 "is_between" ["thing", "low", "high"] (spBetween K)) (D_is_name : DfOk P w K mg base CX0 1 "is_name" ["thing"] (spIsName K)) :
    FnOk P w K mg base CX0 3 f fd ["place"] (spLeaf K CP) := by
  obtain ⟨tG, hG⟩ := B.gG
  refine F.ok sc_is_leaf_part (fun vs H Q E h => ?_) (fun cdv A outer s H vs Q E hr h => ?_)
  · obtain ⟨v, p, w0, x, rfl, _⟩ := h
    rfl
  · refine ⟨_, PSs.nox (pss_cons (ps_asg (pe_fld (pv 0) rfl) (pg_tup rfl (pgs_cons (pg_name (i := 1) sc_is_leaf_part.nd rfl (by first | exact Or.inl rfl | exact Or.inr rfl)) (pgs_cons (pg_name (i := 2) sc_is_leaf_part.nd rfl (by first | exact Or.inl rfl | exact Or.inr rfl)) pgs_nil))))
      (pss_cons (ps_if (pt_cmpR op_eq (pv 1) pe_str (nomark _)) (pss_one (ps_ret (pe_callD D_is_between hr (pa_cons (pv 2) (pa_cons (pe_un un_neg (pe_glob (v := .int 1000000000) (by rfl) hG ⟨_, rfl⟩)) (pa_cons (pe_glob (v := .int 1000000000) (by rfl) hG ⟨_, rfl⟩) pa_nil)))))) pss_nil)
      (pss_cons (ps_if (pt_cmpR op_eq (pv 1) pe_str (nomark _)) (pss_one (ps_ret (pe_callD D_is_between hr (pa_cons (pv 2) (pa_cons pe_int (pa_cons (pe_op op_sub (pe_fld (pv 0) rfl) pe_int) pa_nil)))))) pss_nil)
      (pss_one (ps_ret (pe_and (pe_callD D_is_name hr (pa_cons (pv 2) pa_nil)) (pe_one (pe_cmpR op_in_seq (pv 2) (pe_fld (pv 0) rfl) (by rfl))))))))), ?_⟩
    obtain ⟨v, p, w0, x, rfl, hp, hd, hnl, k⟩ := h
    rw [show L2.start ["place", "word", "thing"] [v] = ([some (v), none, none] : List (Option V)) from rfl]
    obtain ⟨a, dx, pv, pt, nt, rfl, ha, dpv, hpt, hnt⟩ := hp
    have kh := KH.start (H := H)
    rw [hd] at dpv
    cases dpv with
    | @tup b vs _ hb hal tt =>
      cases tt with
      | cons h0 t =>
        cases h0 with
        | str hw =>
          cases t with
          | @cons x0 _ _ _ hx t2 =>
            cases t2
            walk_at "go"
            refine FldAt.mk ha C.c C.piece rfl ?_
            refine r_gtup (SqT.of hb) rfl ?_
            walk_at "go"
            by_cases h1 : w0 = "int"
            · rw [show decide (V.str w0 = V.str "int") = true from decide_eq_true (by rw [h1])]
              walk_at "go"
              refine ⟨x0, x, -1000000000, 1000000000, rfl, hx, ?_⟩
              have e : leafB p.count p.names w0 x = betD (-1000000000) 1000000000 x := by unfold leafB; rw [if_pos h1]
              rw [e] at k
              exact k _ (Wc.Ext.refl _)
            · rw [show decide (V.str w0 = V.str "int") = false from decide_eq_false (fun e => h1 (V.str.inj e))]
              walk_at "go"
              by_cases h2 : w0 = "arg"
              · rw [show decide (V.str w0 = V.str "arg") = true from decide_eq_true (by rw [h2])]
                walk_at "go"
                refine FldAt.mk ha C.c C.count rfl ?_
                walk_at "go"
                refine ⟨x0, x, 0, _, rfl, hx, ?_⟩
                have e : leafB p.count p.names w0 x = betD 0 ((p.count : Int) - 1) x := by unfold leafB; rw [if_neg h1, if_pos h2]
                rw [e] at k
                exact k _ (Wc.Ext.refl _)
              · rw [show decide (V.str w0 = V.str "arg") = false from decide_eq_false (fun e => h2 (V.str.inj e))]
                walk_at "go"
                obtain ⟨tx, hth, _⟩ := hx.th
                refine ⟨x0, tx, rfl, hth, fun H1 e1 => ?_⟩
                rw [hx.name]
                have e0 : leafB p.count p.names w0 x = nmB p.names x := by unfold leafB; rw [if_neg h1, if_neg h2]
                rw [e0] at k
                cases hn : nameD x with
                | false =>
                  walk_at "go"
                  have e : nmB p.names x = false := by
                    cases x with
                    | str s => show (nameS s && _) = false; have hn : nameS s = false := hn; rw [hn] <;> rfl
                    | _ => rfl
                  rw [e] at k
                  exact k _ e1
                | true =>
                  obtain ⟨z, rfl⟩ : ∃ z, x = .str z := by
                    cases x <;> first | exact ⟨_, rfl⟩ | cases hn
                  cases hx with
                  | str hz =>
                    walk_at "go"
                    refine FldAt.mk (e1 _ _ ha) C.c C.names rfl ?_
                    refine r_in (x := .str z) (xs := p.names.map V.str) (.inr (SqT.of (e1 _ _ hnt))) rfl (flats_all _) ?_
                    rw [inV_strs]
                    have k2 : Q (.bl (nameS z && p.names.contains z)) H1 := k H1 e1
                    rw [show nameS z = true from hn] at k2
                    exact k2
theorem r_tupRg {te : L2.St → Hp → (Int → Int → Hp → Prop) → Prop} {σ : L2.St} {H : Hp} {Q : VK} (h : te σ H fun a b H1 => RgOk a b ∧ ∀ q, H1 q = none → Q (.ref q) (upd H1 q (.tup (rgV a b)))) : tTupRg te σ H Q := h
theorem r_rg2 {ta tb : TE} {σ : L2.St} {H : Hp} {Q : Int → Int → Hp → Prop} (h : ta σ H fun x H1 => tb σ H1 fun y H2 => ∃ i j, x = .int i ∧ y = .int j ∧ Q i j H2) : tRg2 ta tb σ H Q := h
theorem r_kget {K : PySem.W.Frag} {w : World} {td ty tx : TE} {σ : L2.St} {H : Hp} {Q : VK} (h : td σ H fun x H1 => ∃ a, x = .ref a ∧ (∃ es n, KDict K w a es n) ∧ ty σ H1 fun y H2 => tx σ H2 fun z H3 => ∃ s r o, y = .str s ∧ PySem.W.nsIn K a s = some r ∧ RelO o r ∧ Q (o.getD z) H3) : tKGet K w td ty tx σ H Q := h
def spIndexes (K : PySem.W.Frag) : Sp := fun vs H Q _ => ∃ a w0 l, vs = [.ref a] ∧ DtAt K H (.ref a) (.tup (.str w0 :: l)) ∧ ∀ p H', Wc.Ext H H' → SqT K H' p ((withinI w0 (l.length + 1)).map fun n => V.int (n : Nat)) → Q (.ref p) H'
theorem rg_two (n : Nat) : rgV 2 (n : Int) = ((List.range (n - 2)).map (· + 2)).map fun m => V.int ((m : Nat) : Int) := by
  unfold rgV
  rw [show ((n : Int) - 2).toNat = n - 2 by omega, List.map_map]
  refine List.map_congr_left fun m _ => ?_
  show V.int _ = V.int _
  congr 1
  show (2 : Int) + (m : Int) = ((m + 2 : Nat) : Int)
  omega
theorem ok_indexes_within (F : FnP K "indexes_within" s_indexes_within f fd) (T : Bt mg) (B : Bd K w mg dl dw tc) : FnOk P w K mg base CX0 1 f fd ["part"] (spIndexes K) := by
  refine F.ok sc_indexes_within (fun vs H Q E h => ?_) (fun cdv A outer s H vs Q E hr h => ?_)
  · obtain ⟨a, w0, l, rfl, _⟩ := h
    rfl
  · refine ⟨_, PSs.nox (pss_cons (ps_if (PW.pt (pw_or (pt_cmpR op_in_seq (pe_ix ix_tup (pv 0) pe_int (fun _ _ => rfl)) (pe_glob (v := .ref tc) (by rfl) B.gC rfl) (by rfl)) (pw_or1 (pt_cmpR op_eq (pe_ix ix_tup (pv 0) pe_int (fun _ _ => rfl)) pe_str (nomark _))))) (pss_one (ps_ret (pe_tupRg rfl (by rfl) T.f_tuple (prg_2 (by rfl) T.f_range pe_int (pe_callB call_len_seq (by rfl) T.f_len PySem.boot_len (pa_cons (pv 0) pa_nil)))))) pss_nil)
      (pss_one (ps_ret (pe_kget (pe_glob (v := .ref dw) (by rfl) B.gW rfl) (pe_ix ix_tup (pv 0) pe_int (fun _ _ => rfl)) (pe_tup pa_nil) ⟨rfl, rfl, rfl, rfl⟩)))), ?_⟩
    obtain ⟨a, w0, l, rfl, th, k⟩ := h
    rw [show L2.start ["part"] [V.ref a] = ([some (V.ref a)] : List (Option V)) from rfl]
    have kh := KH.start (H := H)
    cases th with
    | @tup _ vs _ ha hal tt =>
      cases tt with
      | @cons v0 _ vs _ h0 t =>
        cases h0 with
        | str hw =>
          have hlen := t.length
          walk_at "go"
          refine r_ixT (SqT.of ha) (atI_nat (xs := V.str w0 :: vs) (j := 0) rfl) ?_
          walk_at "go"
          refine r_in (x := .str w0) (xs := [.str "call", .str "newest"]) (.inr (B.kc _)) rfl rfl ?_
          rw [inV_call]
          walk_at "go"
          have two : ∀ (QQ : VK), (∀ p H', Wc.Ext H H' → SqT K H' p ((List.range (l.length + 1 - 2)).map (· + 2) |>.map fun n => V.int (n : Nat)) → QQ (.ref p) H') → ∀ q, H q = none → QQ (.ref q) (upd H q (.tup (rgV 2 ((V.str w0 :: vs).length : Nat)))) := fun QQ hQ q hq => by
            rw [rg_two, List.length_cons, hlen]
            exact hQ q _ (Wc.Ext.new hq) (SqT.of upd_same)
          cases hc : isCallW w0 with
          | true =>
            have e : withinI w0 (l.length + 1) = (List.range (l.length + 1 - 2)).map (· + 2) := by unfold withinI; rw [if_pos (.inl hc)]
            rw [e] at k
            walk_at "go"
            refine r_tupRg (r_rg2 ?_)
            walk_at "go"
            refine ⟨a, _, rfl, .inr (SqT.of ha), ?_⟩
            refine ⟨2, _, rfl, rfl, RgOk.of_le (by decide) (by omega) (by decide) (by omega), ?_⟩
            exact two _ fun p H' e h => k p H' e h
          | false =>
            walk_at "go"
            refine r_ixT (SqT.of ha) (atI_nat (xs := V.str w0 :: vs) (j := 0) rfl) ?_
            walk_at "go"
            by_cases hn : w0 = "new"
            · have e : withinI w0 (l.length + 1) = (List.range (l.length + 1 - 2)).map (· + 2) := by unfold withinI; rw [if_pos (.inr hn)]
              rw [e] at k
              rw [show decide (V.str w0 = V.str "new") = true from decide_eq_true (by rw [hn])]
              walk_at "go"
              refine r_tupRg (r_rg2 ?_)
              walk_at "go"
              refine ⟨a, _, rfl, .inr (SqT.of ha), ?_⟩
              refine ⟨2, _, rfl, rfl, RgOk.of_le (by decide) (by omega) (by decide) (by omega), ?_⟩
              exact two _ fun p H' e h => k p H' e h
            · have e : withinI w0 (l.length + 1) = (assocV WITH w0).getD [] := by unfold withinI; rw [if_neg (by rw [hc]; simpa using hn)]
              rw [e] at k
              rw [show decide (V.str w0 = V.str "new") = false from decide_eq_false (fun e => hn (V.str.inj e))]
              walk_at "go"
              refine r_kget ?_
              walk_at "go"
              refine ⟨dw, rfl, B.kw.ex, ?_⟩
              walk_at "go"
              refine r_ixT (SqT.of ha) (atI_nat (xs := V.str w0 :: vs) (j := 0) rfl) ?_
              walk_at "go"
              rename_i p1 H1 n1 k1
              obtain ⟨r0, hr0, hf⟩ := B.kw.get w0
              cases q : assocV WITH w0 with
              | none =>
                rw [q] at hf k
                refine ⟨w0, r0, none, rfl, hr0, by rw [show r0 = none from hf]; exact True.intro, ?_⟩
                exact k p1 H1 k1.extE (SqT.of (k1.find .here))
              | some xs =>
                rw [q] at hf k
                obtain ⟨t0, ht0, hs0⟩ := hf
                refine ⟨w0, r0, some (.ref t0), rfl, hr0, by rw [ht0]; exact rfl, ?_⟩
                exact k t0 H1 k1.extE (hs0 _)
end
end K10


set_option Elab.async false
set_option linter.all false
set_option maxRecDepth 100000
set_option maxHeartbeats 4000000
namespace K10
open PySem L2 Wc
local macro_rules | `(tactic| walk_at "lk") => `(tactic| first | with_reducible exact Look.here | (with_reducible apply Look.there; walk_at "lk"))
local macro_rules | `(tactic| walk_at "ul") => `(tactic| first | with_reducible exact UpL.here | (with_reducible apply UpL.there; walk_at "ul"))
local macro_rules | `(tactic| walk_at "ga") => `(tactic| first | exact GetAt.here | (apply GetAt.there; walk_at "ga"))
local macro_rules | `(tactic| walk_at "sa") => `(tactic| first | exact SetAt.here | (apply SetAt.there; walk_at "sa"))
local macro_rules | `(tactic| walk_at "hp") => `(tactic| first | assumption | (refine' KH.find ?k ?h; (case k => assumption); (case h => walk_at "lk")))
local macro_rules | `(tactic| walk_at "sql") => `(tactic| first | assumption | (refine' SqL.of ?h; (case h => walk_at "hp")) | (refine' Fr.sql (KH.fr ?k) ?n ?h; (case k => assumption); (case h => assumption); (case n => (simp; done))))
local macro_rules | `(tactic| walk_at "sqt") => `(tactic| first | assumption | (refine' SqT.of ?h; (case h => walk_at "hp")))
local macro_rules | `(tactic| walk_at "side") => `(tactic| first | exact (show (0 : Int) < _ by decide) | exact (show (0 : Int) < _ by omega) | exact ⟨by decide, by decide, by decide⟩ | exact ⟨by decide, by decide, by omega⟩ | exact ⟨by decide, by decide⟩ | exact ⟨by omega, by omega⟩ | exact Or.inl ⟨by omega, by omega⟩ | exact Or.inr ⟨by omega, by omega⟩)
local macro_rules | `(tactic| walk_at "siz") => `(tactic| first | (refine sz_of ?_; first | decide | omega | (simp; done) | (simp; omega)) | (refine sz_lt ?_; first | decide | omega | (simp; done) | (simp; omega)))
local macro_rules | `(tactic| walk_at "own") => `(tactic| first | (exact Or.inr (by assumption)) | (refine Or.inl ?_; simp; done))
local macro_rules | `(tactic| walk_at "al") => `(tactic| (refine' AllocO.mk ?k ?_; (case k => assumption); intro _ _ _ _))
local macro_rules | `(tactic| walk_at "up") => `(tactic| (refine' UpdO.mk ?k ?h ?m ?_; (case k => assumption); (case h => walk_at "ul"); (case m => walk_at "own"); intro _ _))
local macro_rules | `(tactic| walk_at "st") => `(tactic| first
  | ((with_reducible refine' r_var ?h ?_); (case h => walk_at "ga"))
  | (with_reducible refine' r_seq ?_) | (with_reducible refine' r_next ?_) | (with_reducible refine' r_asg ?_) | (with_reducible refine' r_drop ?_) | (with_reducible refine' r_ret ?_) | (with_reducible refine' r_retN ?_)
  | (with_reducible refine' r_ifs ?_) | (with_reducible refine' r_cont ?_) | (with_reducible refine' r_break ?_) | (with_reducible refine' r_c ?_) | (with_reducible refine' r_op ?_) | (with_reducible refine' r_un ?_)
  | (with_reducible refine' r_test ?_) | (with_reducible refine' r_tB ?_) | (with_reducible refine' r_not ?_) | (with_reducible refine' r_and ?_) | (with_reducible refine' r_or ?_) | (with_reducible refine' r_notV ?_)
  | (with_reducible refine' r_andV ?_) | (with_reducible refine' r_orV ?_) | (with_reducible refine' r_ifE ?_) | (with_reducible refine' r_bl ?_) | (with_reducible refine' r_nil ?_) | (with_reducible refine' r_cons ?_)
  | (with_reducible refine' r_tup ?_) | (with_reducible refine' r_lst ?_) | (with_reducible refine' r_cb ?_) | (with_reducible refine' r_call ?_) | ((with_reducible refine' r_name ?h ?_); (case h => walk_at "sa")) | (with_reducible refine' r_gnil ?_)
  | (with_reducible refine' r_gcons ?_) | (with_reducible refine' r_gsub ?_) | (with_reducible refine' r_par ?_) | (with_reducible refine' r_par2 ?_) | (with_reducible refine' r_I0 ?_) | (with_reducible refine' r_U ?_)
  | ((with_reducible refine' r_eq ?h ?_); (case h => rfl)) | ((with_reducible refine' r_ne ?h ?_); (case h => rfl))
  | ((with_reducible refine' r_ixL ?h ?a ?_); (case h => walk_at "sql"); (case a => rfl))
  | ((with_reducible refine' r_ixT ?h ?a ?_); (case h => walk_at "sqt"); (case a => rfl))
  | ((with_reducible refine' r_setL ?h ?a ?_); (case h => walk_at "hp"); (case a => rfl))
  | ((with_reducible refine' r_I ?c ?_); (case c => walk_at "side"))
  | (with_reducible refine' r_sl ?_) | (with_reducible refine' r_part ?_) | (with_reducible refine' r_nopart ?_) | (with_reducible refine' r_ii ?_)
  | ((with_reducible refine' r_slL ?h ?_); (case h => walk_at "sql"))
  | (with_reducible refine' r_bm ?_) | (with_reducible refine' r_bm0 ?_) | (with_reducible refine' r_int1 ?_) | (with_reducible refine' r_int1b ?_)
  | ((with_reducible refine' r_aug ?h ?_); (case h => walk_at "ga"))
  | ((with_reducible refine' r_cat ?a ?b ?z ?_); (case a => walk_at "hp"); (case b => walk_at "hp"); (case z => walk_at "siz"))
  | ((with_reducible refine' r_append ?a ?z ?_); (case a => walk_at "hp"); (case z => walk_at "siz"))
  | ((with_reducible refine' And.intro ?z ?_); (case z => first | walk_at "siz" | exact Or.inl ⟨rfl, _, by walk_at "sql"⟩))
  | ((with_reducible refine' r_gtup ?h ?l ?_); (case h => walk_at "sqt"); (case l => rfl))
  | (with_reducible refine' r_forL ?_) | (with_reducible refine' r_forE ?_) | (with_reducible refine' r_forR ?_) | ((with_reducible refine' r_forL2 ?h ?_); (case h => walk_at "sql")) | ((with_reducible refine' r_forE2 ?h ?_); (case h => walk_at "sql"))
  | (with_reducible refine' r_lcR ?_) | ((with_reducible refine' r_iteT ?h ?_); (case h => rfl)) | ((with_reducible refine' r_iteF ?h ?_); (case h => rfl))
  | (with_reducible refine' r_dnew ?_) | (with_reducible refine' r_vei ?_) | (with_reducible refine' r_ost ?_) | (with_reducible refine' r_mkV ?_) | (with_reducible refine' r_mkX ?_) | (with_reducible refine' r_xfld ?_)
  | ((with_reducible refine' MkG.mk ?o ?n ?k ?_); (case o => exact ErrOk.o (by assumption)); (case n => exact ErrOk.no (by assumption)); (case k => assumption); intro _ _ _ _)
  | ((with_reducible refine' AllocX.mk ?k ?_); (case k => assumption); intro _ _ _ _)
  | (with_reducible refine' r_chain ?_) | (with_reducible refine' r_lcS ?_) | (with_reducible refine' r_lcS2 ?_) | (with_reducible refine' r_lcL ?_) | (with_reducible refine' r_lcT ?_) | (with_reducible refine' r_lcI ?_) | (with_reducible refine' r_yes ?_)
  | (with_reducible refine' r_fld ?_) | (with_reducible refine' r_sfld ?_) | (with_reducible refine' r_meth ?_) | (with_reducible refine' r_make ?_) | (with_reducible refine' r_dget ?_) | (with_reducible refine' r_din ?_) | (with_reducible refine' r_dput ?_)
  | ((with_reducible refine' r_disp ?k ?_); (case k => assumption); intro _ _ _ _) | (with_reducible refine' r_pnil ?_) | (with_reducible refine' r_pcons ?_)
  | (walk_at "al") | (walk_at "up"))
local macro_rules | `(tactic| walk_at "go") => `(tactic| repeat walk_at "st")

section
variable {P : Program} {w : World} {K : PySem.W.Frag} {mg : Str → Option Value} {base : Heap} {f : Addr} {fd : FuncData} {CK CR NC dl dw tc CP : Addr}
theorem inV_3 (z a b c : Str) : inV (.str z) [.str a, .str b, .str c] = (decide (z = a) || (decide (z = b) || decide (z = c))) := by
  have e : inV (.str z) [.str a, .str b, .str c] = inV (.str z) ([a, b, c].map V.str) := rfl
  rw [e, inV_strs]
  have h : ∀ a b : Str, (a == b) = decide (a = b) := fun a b => by
    by_cases e : a = b
    · rw [decide_eq_true e, e]
      exact beq_self_eq_true b
    · rw [decide_eq_false e]
      exact beq_eq_false_iff_ne.mpr e
  simp [List.contains_cons, h]
theorem RelO.mapI {o : Option Nat} {r : Option Value} (h : RelO (o.map fun n => V.int (n : Nat)) r) : RelO (o.map fun n => V.int (n : Nat)) r := h
def spValid (K : PySem.W.Frag) (CK CR CP : Addr) : Sp := fun vs H Q _ => ∃ r kd tl T n v p, vs = [.ref r, v] ∧ RtAt K CK CR H r kd tl T n ∧ (∀ c, c ∈ T → c.all.length ≤ 1000) ∧ PlAt K CP H v p ∧ p.names.length ≤ 1000 ∧ ∀ H', Wc.Ext H H' → Q (.bl (validB T p)) H'
theorem ok_is_valid_part (F : FnP K "is_valid_part" s_is_valid_part f fd) (T : Bt mg) (B : Bd K w mg dl dw tc) (C : CsP K CP) (D_is_name : DfOk P w K mg base CX0 1 "is_name" ["thing"] (spIsName K)) (D_is_class : DfOk P w K mg base CX0 2 "is_class" ["runtime", "name"] (spIsClass K CK CR))
    (D_is_signature : DfOk P w K mg base CX0 3 "is_signature" ["runtime", "thing"] (spIsSig K CK CR)) (D_is_call_part : DfOk P w K mg base CX0 2 "is_call_part" ["part"] (spCallPart K)) (D_is_new_part : DfOk P w K mg base CX0 3 "is_new_part" ["runtime", "part"] (spNewPart K CK CR))
    (D_is_leaf_part : DfOk P w K mg base CX0 3 "is_leaf_part" ["place"] (spLeaf K CP)) : FnOk P w K mg base CX0 4 f fd ["runtime", "place"] (spValid K CK CR CP) := by
  refine F.ok sc_is_valid_part (fun vs H Q E h => ?_) (fun cdv A outer s H vs Q E hr h => ?_)
  · obtain ⟨r, kd, tl, T, n, v, p, rfl, _⟩ := h
    rfl
  · refine ⟨_, PSs.nox (pss_cons (ps_set (i := 2) sc_is_valid_part.nd rfl (by first | exact Or.inl rfl | exact Or.inr rfl) (pe_fld (pv 1) rfl))
      (pss_cons (ps_if (PW.pt (pw_or (pt_not (pt_val (pe_callB call_isi (by rfl) T.f_isinstance PyProof.Rows.boot_isinstance (pa_cons (pv 2) (pa_cons (pe_bltn (v := .ty "tuple") (by rfl) T.f_tuple PyProof.Rows.boot_tuple rfl) pa_nil))))) (pw_or (pt_cmpR (op_eq0 hr) (pv 2) (pe_tup pa_nil) (nomark _)) (pw_or1 (pt_not (pt_val (pe_callB call_isi (by rfl) T.f_isinstance PyProof.Rows.boot_isinstance (pa_cons (pe_ix ix_tup (pv 2) pe_int (fun _ _ => rfl)) (pa_cons (pe_bltn (v := .ty "str") (by rfl) T.f_str PyProof.Rows.boot_str rfl) pa_nil))))))))) (pss_one (ps_ret pe_bl)) pss_nil)
      (pss_cons (ps_if (PW.pt (pw_or (pt_val (pe_callD D_is_call_part hr (pa_cons (pv 2) pa_nil))) (pw_or1 (pt_val (pe_callD D_is_new_part hr (pa_cons (pv 0) (pa_cons (pv 2) pa_nil))))))) (pss_one (ps_ret pe_bl)) pss_nil)
      (pss_cons (ps_if (pt_cmpR op_ne (pe_kget (pe_glob (v := .ref dl) (by rfl) B.gL rfl) (pe_ix ix_tup (pv 2) pe_int (fun _ _ => rfl)) pe_int ⟨rfl, rfl, rfl, rfl⟩) (pe_callB call_len_seq (by rfl) T.f_len PySem.boot_len (pa_cons (pv 2) pa_nil)) (nomark _)) (pss_one (ps_ret pe_bl)) pss_nil)
      (pss_cons (ps_if (pt_cmpR op_in_seq (pe_ix ix_tup (pv 2) pe_int (fun _ _ => rfl)) (pe_tup (pa_cons pe_str (pa_cons pe_str (pa_cons pe_str pa_nil)))) (by rfl)) (pss_one (ps_ret (pe_callD D_is_leaf_part hr (pa_cons (pv 1) pa_nil)))) pss_nil)
      (pss_cons (ps_if (pt_cmpR op_eq (pe_ix ix_tup (pv 2) pe_int (fun _ _ => rfl)) pe_str (nomark _)) (pss_one (ps_ret (pe_callD D_is_name hr (pa_cons (pe_ix ix_tup (pv 2) pe_int (fun _ _ => rfl)) pa_nil)))) pss_nil)
      (pss_cons (ps_if (pt_cmpR op_eq (pe_ix ix_tup (pv 2) pe_int (fun _ _ => rfl)) pe_str (nomark _)) (pss_one (ps_ret (pe_callD D_is_name hr (pa_cons (pe_ix ix_tup (pv 2) pe_int (fun _ _ => rfl)) pa_nil)))) pss_nil)
      (pss_cons (ps_if (pt_cmpR op_eq (pe_ix ix_tup (pv 2) pe_int (fun _ _ => rfl)) pe_str (nomark _)) (pss_one (ps_ret (pe_callD D_is_class hr (pa_cons (pv 0) (pa_cons (pe_ix ix_tup (pv 2) pe_int (fun _ _ => rfl)) pa_nil))))) pss_nil)
      (pss_one (ps_ret (pe_or (pe_cmpR op_ne (pe_ix ix_tup (pv 2) pe_int (fun _ _ => rfl)) pe_str (nomark _)) (pe_one (pe_and (pe_callD D_is_name hr (pa_cons (pe_ix ix_tup (pv 2) pe_int (fun _ _ => rfl)) pa_nil)) (pe_one (pe_callD D_is_signature hr (pa_cons (pv 0) (pa_cons (pe_ix ix_tup (pv 2) pe_int (fun _ _ => rfl)) pa_nil))))))))))))))))), ?_⟩
    obtain ⟨r, kd, tl, T, n, v, p, rfl, R, hT, hp, hnl, k⟩ := h
    rw [show L2.start ["runtime", "place", "part"] [V.ref r, v] = ([some (V.ref r), some (v), none] : List (Option V)) from rfl]
    have hp0 := hp
    obtain ⟨a, dx, pv, pt, nt, rfl, ha, dpv, hpt, hnt⟩ := hp
    have kh := KH.start (H := H)
    walk_at "go"
    refine FldAt.mk ha C.c C.piece rfl ?_
    walk_at "go"
    obtain ⟨tp, h0, htp⟩ := dpv.th
    obtain ⟨ty, h1, h2, h3⟩ := h0.ty
    refine r_isi (.ty _) h1 h3 ?_
    walk_at "go"
    generalize hd : p.d = d0 at dpv
    have noT : (∀ l, d0 ≠ .tup l) → tp.isSome = false ∧ validB T p = false := fun hn => by
      refine ⟨?_, ?_⟩
      · cases q : tp.isSome with
        | false => rfl
        | true =>
          obtain ⟨l, e⟩ := htp.mpr q
          exact absurd (hd.symm.trans e) (hn l)
      · unfold validB
        rw [hd]
        cases d0 with
        | tup l => exact absurd rfl (hn l)
        | _ => rfl
    cases dpv with
    | str _ =>
      obtain ⟨e1, e2⟩ := noT (fun _ z => nomatch z)
      rw [e1]
      rw [e2] at k
      walk_at "go"
      exact k _ (Wc.Ext.refl _)
    | int _ =>
      obtain ⟨e1, e2⟩ := noT (fun _ z => nomatch z)
      rw [e1]
      rw [e2] at k
      walk_at "go"
      exact k _ (Wc.Ext.refl _)
    | oth _ _ _ _ _ =>
      obtain ⟨e1, e2⟩ := noT (fun _ z => nomatch z)
      rw [e1]
      rw [e2] at k
      walk_at "go"
      exact k _ (Wc.Ext.refl _)
    | @tup b vs ds hb hal tt =>
      rw [show tp.isSome = true from htp.mp ⟨ds, hd⟩]
      walk_at "go"
      rename_i p1 H1 n1 k1
      refine ⟨b, p1, vs, rfl, rfl, SqT.of (k1.extE _ _ hb), SqT.of (k1.find .here), ?_⟩
      have e01 := k1.extE
      cases tt with
      | nil =>
        have e2 : validB T p = false := by
          unfold validB
          rw [hd]
        rw [e2] at k
        walk_at "go"
        exact k _ e01
      | @cons v0 d1 vs ds h4 t =>
        walk_at "go"
        refine r_ixT (SqT.of (e01 _ _ hb)) (atI_nat (xs := v0 :: vs) (j := 0) rfl) ?_
        walk_at "go"
        have h5 := dtExt e01 _ _ h4
        obtain ⟨tp5, h6, _⟩ := h5.th
        obtain ⟨ty5, g1, g2, g3⟩ := h6.ty
        refine r_isi (.ty _) g1 g2 ?_
        walk_at "go"
        have nS : (∀ s, d1 ≠ .str s) → validB T p = false := fun hn => by
          unfold validB
          rw [hd]
          cases d1 with
          | str s => exact absurd rfl (hn s)
          | _ => rfl
        cases h4 with
        | int _ =>
          rw [nS (fun _ z => nomatch z)] at k
          walk_at "go"
          exact k _ e01
        | oth _ hs _ _ _ =>
          rw [nS (fun _ z => nomatch z)] at k
          rw [hs]
          walk_at "go"
          exact k _ e01
        | tup _ _ _ =>
          rw [nS (fun _ z => nomatch z)] at k
          walk_at "go"
          exact k _ e01
        | @str w0 hw =>
          have ev : validB T p = formB T p w0 (.str w0 :: ds) := by
            unfold validB
            rw [hd]
          rw [ev] at k
          rw [show Wc.isS (V.str w0) = true from rfl]
          walk_at "go"
          have D0 : DtAt K H (.ref b) (.tup (.str w0 :: ds)) := .tup hb hal (.cons (.str hw) t)
          have hlen := t.length
          refine ⟨b, w0, ds, rfl, dtExt e01 _ _ D0, fun H2 e2 => ?_⟩
          have e02 := e01.trans e2
          unfold formB at k
          cases hcB : callB w0 (.str w0 :: ds) with
          | true =>
            rw [hcB] at k
            walk_at "go"
            exact k _ e02
          | false =>
            rw [hcB] at k
            walk_at "go"
            refine ⟨r, kd, tl, T, n, b, w0, ds, rfl, R.ext e02, hT, dtExt e02 _ _ D0, fun H3 e3 => ?_⟩
            have e03 := e02.trans e3
            cases hnB : newB T w0 (.str w0 :: ds) with
            | true =>
              rw [hnB] at k
              walk_at "go"
              exact k _ e03
            | false =>
              rw [hnB] at k
              walk_at "go"
              refine r_kget ?_
              walk_at "go"
              refine ⟨dl, rfl, B.kl.ex, ?_⟩
              walk_at "go"
              have hb3 := e03 _ _ hb
              have t3 := dtExtA e03 _ _ (DtAll.cons (.str hw) t)
              refine r_ixT (SqT.of hb3) (atI_nat (xs := V.str w0 :: vs) (j := 0) rfl) ?_
              walk_at "go"
              obtain ⟨r0, hr0, hf⟩ := B.kl.get w0
              refine ⟨w0, r0, _, rfl, hr0, hf, ?_⟩
              walk_at "go"
              refine ⟨b, _, rfl, .inr (SqT.of hb3), ?_⟩
              refine r_ne (by cases assocV LENS w0 <;> rfl) ?_
              have eo : ((assocV LENS w0).map fun n => V.int ((n : Nat) : Int)).getD (V.int 0) = V.int (((assocV LENS w0).getD 0 : Nat) : Int) := by cases assocV LENS w0 <;> rfl
              rw [eo]
              by_cases hL : (assocV LENS w0).getD 0 = (Dt.str w0 :: ds).length
              · rw [show (!decide (V.int (((assocV LENS w0).getD 0 : Nat) : Int) = V.int ((V.str w0 :: vs).length : Nat))) = false from by rw [decide_eq_true (by rw [hL, List.length_cons, List.length_cons, hlen])] <;> rfl]
                rw [decide_eq_true hL] at k
                simp only [Bool.false_or, Bool.true_and] at k
                have LN : ∀ (x : Str) (m : Nat), (assocV LENS x).getD 0 = m → w0 = x → (Dt.str w0 :: ds).length = m := fun x m hm e => by
                  rw [e] at hL
                  exact hL.symm.trans hm
                walk_at "go"
                refine r_ixT (SqT.of hb3) (atI_nat (xs := V.str w0 :: vs) (j := 0) rfl) ?_
                have k3 := KH.start (H := H3)
                walk_at "go"
                rename_i p4 H4 n4 k4
                have e04 := e03.trans k4.extE
                have hb4 := e04 _ _ hb
                have t4 := dtExtA e04 _ _ (DtAll.cons (.str hw) t)
                refine r_in (x := .str w0) (xs := [.str "int", .str "arg", .str "name"]) (.inr (SqT.of (k4.find .here))) rfl rfl ?_
                rw [inV_3]
                cases hlf : (decide (w0 = "int") || (decide (w0 = "arg") || decide (w0 = "name"))) with
                | true =>
                  have hlf2 : w0 = "int" ∨ w0 = "arg" ∨ w0 = "name" := by simpa using hlf
                  rw [if_pos hlf2] at k
                  have h2 : (Dt.str w0 :: ds).length = 2 := by
                    rcases hlf2 with h | h | h
                    · exact LN _ 2 (by decide +kernel) h
                    · exact LN _ 2 (by decide +kernel) h
                    · exact LN _ 2 (by decide +kernel) h
                  obtain ⟨x, rfl⟩ : ∃ x, ds = [x] := by
                    match ds, h2 with
                    | [x], _ => exact ⟨x, rfl⟩
                  walk_at "go"
                  exact ⟨.ref a, p, w0, x, rfl, hp0.ext e04, hd, hnl, fun H5 e5 => k H5 (e04.trans e5)⟩
                | false =>
                  have hlf2 : ¬ (w0 = "int" ∨ w0 = "arg" ∨ w0 = "name") := by simpa using hlf
                  rw [if_neg hlf2] at k
                  walk_at "go"
                  refine r_ixT (SqT.of hb4) (atI_nat (xs := V.str w0 :: vs) (j := 0) rfl) ?_
                  walk_at "go"
                  by_cases hw1 : w0 = "let"
                  · rw [show decide (V.str w0 = V.str "let") = true from decide_eq_true (by rw [hw1])]
                    rw [if_pos hw1] at k
                    walk_at "go"
                    obtain ⟨v1, hv1, d1⟩ := nth_ t4 1 (by rw [LN _ 4 (by decide +kernel) hw1]; decide)
                    refine r_ixT (SqT.of hb4) (atI_nat (j := 1) hv1) ?_
                    walk_at "go"
                    obtain ⟨tx, hth, _⟩ := d1.th
                    refine ⟨v1, tx, rfl, hth, fun H5 e5 => ?_⟩
                    rw [d1.name]
                    exact k H5 (e04.trans e5)
                  · rw [show decide (V.str w0 = V.str "let") = false from decide_eq_false (fun e => hw1 (V.str.inj e))]
                    rw [if_neg hw1] at k
                    walk_at "go"
                    refine r_ixT (SqT.of hb4) (atI_nat (xs := V.str w0 :: vs) (j := 0) rfl) ?_
                    walk_at "go"
                    by_cases hw2 : w0 = "field"
                    · rw [show decide (V.str w0 = V.str "field") = true from decide_eq_true (by rw [hw2])]
                      rw [if_pos hw2] at k
                      walk_at "go"
                      obtain ⟨v1, hv1, d1⟩ := nth_ t4 2 (by rw [LN _ 3 (by decide +kernel) hw2]; decide)
                      refine r_ixT (SqT.of hb4) (atI_nat (j := 2) hv1) ?_
                      walk_at "go"
                      obtain ⟨tx, hth, _⟩ := d1.th
                      refine ⟨v1, tx, rfl, hth, fun H5 e5 => ?_⟩
                      rw [d1.name]
                      exact k H5 (e04.trans e5)
                    · rw [show decide (V.str w0 = V.str "field") = false from decide_eq_false (fun e => hw2 (V.str.inj e))]
                      rw [if_neg hw2] at k
                      walk_at "go"
                      refine r_ixT (SqT.of hb4) (atI_nat (xs := V.str w0 :: vs) (j := 0) rfl) ?_
                      walk_at "go"
                      by_cases hw3 : w0 = "is"
                      · rw [show decide (V.str w0 = V.str "is") = true from decide_eq_true (by rw [hw3])]
                        rw [if_pos hw3] at k
                        walk_at "go"
                        obtain ⟨v1, hv1, d1⟩ := nth_ t4 2 (by rw [LN _ 3 (by decide +kernel) hw3]; decide)
                        refine r_ixT (SqT.of hb4) (atI_nat (j := 2) hv1) ?_
                        walk_at "go"
                        obtain ⟨tx, hth, _⟩ := d1.th
                        refine ⟨r, kd, tl, T, n, v1, tx, rfl, R.ext e04, hth, fun H5 e5 => ?_⟩
                        rw [d1.cls]
                        exact k H5 (e04.trans e5)
                      · rw [show decide (V.str w0 = V.str "is") = false from decide_eq_false (fun e => hw3 (V.str.inj e))]
                        rw [if_neg hw3] at k
                        walk_at "go"
                        refine r_ixT (SqT.of hb4) (atI_nat (xs := V.str w0 :: vs) (j := 0) rfl) ?_
                        walk_at "go"
                        by_cases hw4 : w0 = "define"
                        · rw [show (!decide (V.str w0 = V.str "define")) = false from by rw [decide_eq_true (by rw [hw4])] <;> rfl]
                          rw [decide_eq_true hw4] at k
                          simp only [Bool.not_true, Bool.false_or] at k
                          walk_at "go"
                          obtain ⟨v1, hv1, d1⟩ := nth_ t4 1 (by rw [LN _ 4 (by decide +kernel) hw4]; decide)
                          refine r_ixT (SqT.of hb4) (atI_nat (j := 1) hv1) ?_
                          walk_at "go"
                          obtain ⟨tx, hth, _⟩ := d1.th
                          refine ⟨v1, tx, rfl, hth, fun H5 e5 => ?_⟩
                          rw [d1.name]
                          have e05 := e04.trans e5
                          cases hnn : nameD ((Dt.str w0 :: ds).getD 1 .oth) with
                          | false =>
                            rw [hnn] at k
                            walk_at "go"
                            exact k H5 e05
                          | true =>
                            rw [hnn] at k
                            walk_at "go"
                            obtain ⟨v2, hv2, d2⟩ := nth_ t4 2 (by rw [LN _ 4 (by decide +kernel) hw4]; decide)
                            refine r_ixT (SqT.of (e05 _ _ hb)) (atI_nat (j := 2) hv2) ?_
                            walk_at "go"
                            refine ⟨r, kd, tl, T, n, v2, _, rfl, R.ext e05, dtExt e5 _ _ d2, fun H6 e6 => ?_⟩
                            exact k H6 (e05.trans e6)
                        · rw [show (!decide (V.str w0 = V.str "define")) = true from by rw [decide_eq_false (fun e => hw4 (V.str.inj e))] <;> rfl]
                          rw [decide_eq_false hw4] at k
                          simp only [Bool.not_false, Bool.true_or] at k
                          walk_at "go"
                          exact k H4 e04
              · rw [show (!decide (V.int (((assocV LENS w0).getD 0 : Nat) : Int) = V.int ((V.str w0 :: vs).length : Nat))) = true from by
                  rw [decide_eq_false (fun e => hL (by
                    have e := V.int.inj e
                    rw [List.length_cons, ← hlen] at *
                    omega))] <;> rfl]
                rw [decide_eq_false hL] at k
                simp only [Bool.false_or, Bool.false_and] at k
                walk_at "go"
                exact k _ e03
end
end K10


set_option Elab.async false
set_option linter.all false
set_option maxRecDepth 100000
set_option maxHeartbeats 4000000
namespace K10
open PySem L2 Wc
local macro_rules | `(tactic| walk_at "lk") => `(tactic| first | with_reducible exact Look.here | (with_reducible apply Look.there; walk_at "lk"))
local macro_rules | `(tactic| walk_at "ul") => `(tactic| first | with_reducible exact UpL.here | (with_reducible apply UpL.there; walk_at "ul"))
local macro_rules | `(tactic| walk_at "ga") => `(tactic| first | exact GetAt.here | (apply GetAt.there; walk_at "ga"))
local macro_rules | `(tactic| walk_at "sa") => `(tactic| first | exact SetAt.here | (apply SetAt.there; walk_at "sa"))
local macro_rules | `(tactic| walk_at "hp") => `(tactic| first | assumption | (refine' KH.find ?k ?h; (case k => assumption); (case h => walk_at "lk")))
local macro_rules | `(tactic| walk_at "sql") => `(tactic| first | assumption | (refine' SqL.of ?h; (case h => walk_at "hp")) | (refine' Fr.sql (KH.fr ?k) ?n ?h; (case k => assumption); (case h => assumption); (case n => (simp; done))))
local macro_rules | `(tactic| walk_at "sqt") => `(tactic| first | assumption | (refine' SqT.of ?h; (case h => walk_at "hp")))
local macro_rules | `(tactic| walk_at "side") => `(tactic| first | exact (show (0 : Int) < _ by decide) | exact (show (0 : Int) < _ by omega) | exact ⟨by decide, by decide, by decide⟩ | exact ⟨by decide, by decide, by omega⟩ | exact ⟨by decide, by decide⟩ | exact ⟨by omega, by omega⟩ | exact Or.inl ⟨by omega, by omega⟩ | exact Or.inr ⟨by omega, by omega⟩)
local macro_rules | `(tactic| walk_at "siz") => `(tactic| first | (refine sz_of ?_; first | decide | omega | (simp; done) | (simp; omega)) | (refine sz_lt ?_; first | decide | omega | (simp; done) | (simp; omega)))
local macro_rules | `(tactic| walk_at "own") => `(tactic| first | (exact Or.inr (by assumption)) | (refine Or.inl ?_; simp; done))
local macro_rules | `(tactic| walk_at "al") => `(tactic| (refine' AllocO.mk ?k ?_; (case k => assumption); intro _ _ _ _))
local macro_rules | `(tactic| walk_at "up") => `(tactic| (refine' UpdO.mk ?k ?h ?m ?_; (case k => assumption); (case h => walk_at "ul"); (case m => walk_at "own"); intro _ _))
local macro_rules | `(tactic| walk_at "st") => `(tactic| first
  | ((with_reducible refine' r_var ?h ?_); (case h => walk_at "ga"))
  | (with_reducible refine' r_seq ?_) | (with_reducible refine' r_next ?_) | (with_reducible refine' r_asg ?_) | (with_reducible refine' r_drop ?_) | (with_reducible refine' r_ret ?_) | (with_reducible refine' r_retN ?_)
  | (with_reducible refine' r_ifs ?_) | (with_reducible refine' r_cont ?_) | (with_reducible refine' r_break ?_) | (with_reducible refine' r_c ?_) | (with_reducible refine' r_op ?_) | (with_reducible refine' r_un ?_)
  | (with_reducible refine' r_test ?_) | (with_reducible refine' r_tB ?_) | (with_reducible refine' r_not ?_) | (with_reducible refine' r_and ?_) | (with_reducible refine' r_or ?_) | (with_reducible refine' r_notV ?_)
  | (with_reducible refine' r_andV ?_) | (with_reducible refine' r_orV ?_) | (with_reducible refine' r_ifE ?_) | (with_reducible refine' r_bl ?_) | (with_reducible refine' r_nil ?_) | (with_reducible refine' r_cons ?_)
  | (with_reducible refine' r_tup ?_) | (with_reducible refine' r_lst ?_) | (with_reducible refine' r_cb ?_) | (with_reducible refine' r_call ?_) | ((with_reducible refine' r_name ?h ?_); (case h => walk_at "sa")) | (with_reducible refine' r_gnil ?_)
  | (with_reducible refine' r_gcons ?_) | (with_reducible refine' r_gsub ?_) | (with_reducible refine' r_par ?_) | (with_reducible refine' r_par2 ?_) | (with_reducible refine' r_I0 ?_) | (with_reducible refine' r_U ?_)
  | ((with_reducible refine' r_eq ?h ?_); (case h => rfl)) | ((with_reducible refine' r_ne ?h ?_); (case h => rfl))
  | ((with_reducible refine' r_ixL ?h ?a ?_); (case h => walk_at "sql"); (case a => rfl))
  | ((with_reducible refine' r_ixT ?h ?a ?_); (case h => walk_at "sqt"); (case a => rfl))
  | ((with_reducible refine' r_setL ?h ?a ?_); (case h => walk_at "hp"); (case a => rfl))
  | ((with_reducible refine' r_I ?c ?_); (case c => walk_at "side"))
  | (with_reducible refine' r_sl ?_) | (with_reducible refine' r_part ?_) | (with_reducible refine' r_nopart ?_) | (with_reducible refine' r_ii ?_)
  | ((with_reducible refine' r_slL ?h ?_); (case h => walk_at "sql"))
  | (with_reducible refine' r_bm ?_) | (with_reducible refine' r_bm0 ?_) | (with_reducible refine' r_int1 ?_) | (with_reducible refine' r_int1b ?_)
  | ((with_reducible refine' r_aug ?h ?_); (case h => walk_at "ga"))
  | ((with_reducible refine' r_cat ?a ?b ?z ?_); (case a => walk_at "hp"); (case b => walk_at "hp"); (case z => walk_at "siz"))
  | ((with_reducible refine' r_append ?a ?z ?_); (case a => walk_at "hp"); (case z => walk_at "siz"))
  | ((with_reducible refine' And.intro ?z ?_); (case z => first | walk_at "siz" | exact Or.inl ⟨rfl, _, by walk_at "sql"⟩))
  | ((with_reducible refine' r_gtup ?h ?l ?_); (case h => walk_at "sqt"); (case l => rfl))
  | (with_reducible refine' r_forL ?_) | (with_reducible refine' r_forE ?_) | (with_reducible refine' r_forR ?_) | ((with_reducible refine' r_forL2 ?h ?_); (case h => walk_at "sql")) | ((with_reducible refine' r_forE2 ?h ?_); (case h => walk_at "sql"))
  | (with_reducible refine' r_lcR ?_) | ((with_reducible refine' r_iteT ?h ?_); (case h => rfl)) | ((with_reducible refine' r_iteF ?h ?_); (case h => rfl))
  | (with_reducible refine' r_dnew ?_) | (with_reducible refine' r_vei ?_) | (with_reducible refine' r_ost ?_) | (with_reducible refine' r_mkV ?_) | (with_reducible refine' r_mkX ?_) | (with_reducible refine' r_xfld ?_)
  | ((with_reducible refine' MkG.mk ?o ?n ?k ?_); (case o => exact ErrOk.o (by assumption)); (case n => exact ErrOk.no (by assumption)); (case k => assumption); intro _ _ _ _)
  | ((with_reducible refine' AllocX.mk ?k ?_); (case k => assumption); intro _ _ _ _)
  | (with_reducible refine' r_chain ?_) | (with_reducible refine' r_lcS ?_) | (with_reducible refine' r_lcS2 ?_) | (with_reducible refine' r_lcL ?_) | (with_reducible refine' r_lcT ?_) | (with_reducible refine' r_lcI ?_) | (with_reducible refine' r_yes ?_)
  | (with_reducible refine' r_fld ?_) | (with_reducible refine' r_sfld ?_) | (with_reducible refine' r_meth ?_) | (with_reducible refine' r_make ?_) | (with_reducible refine' r_dget ?_) | (with_reducible refine' r_din ?_) | (with_reducible refine' r_dput ?_)
  | ((with_reducible refine' r_disp ?k ?_); (case k => assumption); intro _ _ _ _) | (with_reducible refine' r_pnil ?_) | (with_reducible refine' r_pcons ?_)
  | (walk_at "al") | (walk_at "up"))
local macro_rules | `(tactic| walk_at "go") => `(tactic| repeat walk_at "st")

theorem mid {t u : TS} {D : Ends} {σ : L2.St} {H : Hp} {c : Bool} (Mid : L2.St → Hp → Prop) (h : ∀ σ H, Mid σ H → D.nx σ H)
    (h2 : ∀ Nx : L2.St → Hp → Prop, (∀ σ H, Mid σ H → Nx σ H) → if c = true then t { D with nx := Nx } σ H else u { D with nx := Nx } σ H) : if c = true then t D σ H else u D σ H := h2 D.nx h
theorem midT {t : TS} {D : Ends} {σ : L2.St} {H : Hp} (Mid : L2.St → Hp → Prop) (h : ∀ σ H, Mid σ H → D.nx σ H) (h2 : ∀ Nx : L2.St → Hp → Prop, (∀ σ H, Mid σ H → Nx σ H) → t { D with nx := Nx } σ H) : t D σ H := h2 D.nx h
section
variable {P : Program} {w : World} {K : PySem.W.Frag} {mg : Str → Option Value} {base : Heap} {f : Addr} {fd : FuncData} {CK CR NC dl dw tc CP : Addr}
abbrev placeFs (pv tv cv nv : V) : List (Str × V) := [("piece", pv), ("path", tv), ("count", cv), ("names", nv)]
def spPlace (CP : Addr) : Sp := fun vs H Q _ => ∃ a dx pv tv cv nv, vs = [.ref a, pv, tv, cv, nv] ∧ H a = some (.ins CP dx []) ∧ ∀ H', Fr [a] H H' → H' a = some (.ins CP dx (placeFs pv tv cv nv)) → Q .non H'
theorem ok_place (F : MeP K "__init__" "Place.__init__" s_Place_init f fd) (C : CsP K CP) : FnOk P w K mg base CX0 1 f fd ["self", "part", "path", "count", "names"] (spPlace CP) := by
  refine F.ok sc_Place_init (fun vs H Q E h => ?_) (fun cdv A outer s H vs Q E hr h => ?_)
  · obtain ⟨a, dx, pv, tv, cv, nv, rfl, _⟩ := h
    rfl
  · refine ⟨_, PSs.nox (pss_cons (ps_fld (pv 0) (pv 1) rfl)
      (pss_cons (ps_fld (pv 0) (pv 2) rfl)
      (pss_cons (ps_fld (pv 0) (pv 3) rfl)
      (pss_one (ps_fld (pv 0) (pv 4) rfl))))), ?_⟩
    obtain ⟨a, dx, p0, t0, c0, n0, rfl, ha, k⟩ := h
    rw [show L2.start ["self", "part", "path", "count", "names"] [V.ref a, p0, t0, c0, n0] = ([some (V.ref a), some (p0), some (t0), some (c0), some (n0)] : List (Option V)) from rfl]
    have kh := KH.start1 ha
    walk_at "go"
    refine SFldAt.mk kh (by walk_at "ul") C.c C.piece (by decide) (.inl (by simp)) (kh.find .here) fun H1 k1 => ?_
    walk_at "go"
    refine SFldAt.mk k1 (by walk_at "ul") C.c C.path (by show (1 : Nat) < 1000; decide) (.inl (by simp)) (k1.find .here) fun H2 k2 => ?_
    walk_at "go"
    refine SFldAt.mk k2 (by walk_at "ul") C.c C.count (by show (2 : Nat) < 1000; decide) (.inl (by simp)) (k2.find .here) fun H3 k3 => ?_
    walk_at "go"
    refine SFldAt.mk k3 (by walk_at "ul") C.c C.names (by show (3 : Nat) < 1000; decide) (.inl (by simp)) (k3.find .here) fun H4 k4 => ?_
    walk_at "go"
    exact k H4 k4.fr (k4.find .here)
theorem mkPlace {H0 H : Hp} {M : List Addr} {Lk : List (Addr × HO)} {pv tv cv nv : V} {Q : Addr → Hp → Prop} {E : XK} (k : KH H0 M Lk H) (q : ∀ x dx H', H0 x = none → KH H0 M ((x, .ins CP dx (placeFs pv tv cv nv)) :: (dx, .own x) :: Lk) H' → Q x H') :
    ∀ x dx, H x = none → H dx = none → dx ≠ x → spPlace CP (.ref x :: ([pv, tv, cv, nv] ++ [])) (upd (upd H dx (.own x)) x (.ins CP dx [])) (fun v H2 => v = .non ∧ Q x H2) E := fun x dx hx hd ne => by
  have k1 := (k.new (o := .own x) hd).new (p := x) (o := .ins CP dx []) (by rw [upd_ne (Ne.symm ne)]; exact hx)
  refine ⟨x, dx, pv, tv, cv, nv, rfl, upd_same, fun H' fr h' => ⟨rfl, q x dx H' (k.fresh hx) (k1.up .here fr h' (.inr (k.fresh hx)))⟩⟩
/-- a place, its piece known in the heap B -/
def PlR (K : PySem.W.Frag) (CP : Addr) (B H : Hp) (v : V) (p : Pl) : Prop := ∃ a dx pv pt nt, v = .ref a ∧ H a = some (.ins CP dx (placeFs pv (.ref pt) (.int (p.count : Nat)) (.ref nt))) ∧ DtAt K B pv p.d ∧ H pt = some (.tup (p.path.map fun n => V.int (n : Nat))) ∧ H nt = some (.tup (p.names.map V.str))
theorem PlR.mo {CP : Addr} {B H H' : Hp} {v : V} {p : Pl} (h : PlR K CP B H v p) (e : Mo H H') : PlR K CP B H' v p := by
  obtain ⟨a, dx, pv, pt, nt, rfl, h1, h2, h3, h4⟩ := h
  exact ⟨a, dx, pv, pt, nt, rfl, e _ _ rfl h1, h2, e _ _ rfl h3, e _ _ rfl h4⟩
theorem PlR.at_ {CP : Addr} {B H : Hp} {v : V} {p : Pl} (h : PlR K CP B H v p) (e : Wc.Ext B H) : PlAt K CP H v p := by
  obtain ⟨a, dx, pv, pt, nt, rfl, h1, h2, h3, h4⟩ := h
  exact ⟨a, dx, pv, pt, nt, rfl, h1, dtExt e _ _ h2, h3, h4⟩
theorem PlR.reb {CP : Addr} {B B' H : Hp} {v : V} {p : Pl} (h : PlR K CP B H v p) (e : Wc.Ext B B') : PlR K CP B' H v p := by
  obtain ⟨a, dx, pv, pt, nt, rfl, h1, h2, h3, h4⟩ := h
  exact ⟨a, dx, pv, pt, nt, rfl, h1, dtExt e _ _ h2, h3, h4⟩
def spPlaces (K : PySem.W.Frag) (CP : Addr) : Sp := fun vs H Q _ => ∃ v p T B, vs = [v] ∧ Wc.Ext B H ∧ PlR K CP B H v p ∧ validB T p = true ∧ p.path.length ≤ 100 ∧ p.names.length ≤ 100 ∧ ∀ q H' ws, H q = none → Wc.Ext H H' → H' q = some (.lst ws) → PySem.Paired (PlR K CP B H') ws (placesB p) → Q (.ref q) H'
theorem valid_tup {T : List Cl} {p : Pl} (h : validB T p = true) : ∃ w0 l, p.d = .tup (.str w0 :: l) ∧ formB T p w0 (.str w0 :: l) = true := by
  unfold validB at h
  split at h
  · rename_i w0 l e
    exact ⟨w0, l, e, h⟩
  · cases h
/-- the indexes of the parts within stand in the tuple -/
theorem within_lt {T : List Cl} {p : Pl} {w0 : Str} {l : List Dt} (h : formB T p w0 (.str w0 :: l) = true) : ∀ i, i ∈ withinI w0 (l.length + 1) → i < l.length + 1 := by
  intro i hi
  unfold withinI at hi
  by_cases hc : isCallW w0 = true ∨ w0 = "new"
  · rw [if_pos hc] at hi
    obtain ⟨j, hj, rfl⟩ := List.mem_map.mp hi
    have := List.mem_range.mp hj
    omega
  · rw [if_neg hc] at hi
    have h1 : callB w0 (.str w0 :: l) = false := by
      unfold callB
      cases q : isCallW w0 with
      | true => exact absurd (.inl q) hc
      | false => rfl
    have h2 : newB T w0 (.str w0 :: l) = false := by
      unfold newB
      rw [decide_eq_false (fun e => hc (.inr e))]
      rfl
    unfold formB at h
    rw [h1, h2] at h
    simp only [Bool.false_or] at h
    have h3 : (assocV LENS w0).getD 0 = (Dt.str w0 :: l).length := of_decide_eq_true (He.ba h).1
    rw [List.length_cons] at h3
    rw [← h3]
    have key : ∀ q, q ∈ WITH → ∀ j, j ∈ q.2 → j < (assocV LENS q.1).getD 0 := by decide +kernel
    cases q : assocV WITH w0 with
    | none =>
      rw [q] at hi
      cases hi
    | some xs =>
      rw [q] at hi
      exact key _ (assoc_mem q) i hi
theorem within_len {w0 : Str} {n : Nat} : (withinI w0 n).length ≤ n + 3 := by
  unfold withinI
  split
  · rw [List.length_map, List.length_range]
    omega
  · have key : ∀ q, q ∈ WITH → q.2.length ≤ 3 := by decide +kernel
    cases q : assocV WITH w0 with
    | none => exact Nat.zero_le _
    | some xs =>
      have := key _ (assoc_mem q)
      show xs.length ≤ n + 3
      dsimp only at this
      omega
theorem form_let {T : List Cl} {p : Pl} {w0 : Str} {l : List Dt} (h : formB T p w0 l = true) (e : w0 = "let") : nameD (l.getD 1 .oth) = true ∧ l.length = 4 := by
  subst e
  unfold formB at h
  have h1 : callB "let" l = false := by
    unfold callB
    rw [show isCallW "let" = false from by decide +kernel]
    rfl
  have h2 : newB T "let" l = false := by
    unfold newB
    rw [show decide (("let" : Str) = "new") = false from by decide +kernel]
    rfl
  rw [h1, h2] at h
  simp only [Bool.false_or] at h
  obtain ⟨h3, h4⟩ := He.ba h
  rw [if_neg (by decide +kernel), if_pos True.intro] at h4
  exact ⟨h4, (of_decide_eq_true h3).symm.trans (by decide +kernel)⟩
theorem form_define {T : List Cl} {p : Pl} {w0 : Str} {l : List Dt} (h : formB T p w0 l = true) (e : w0 = "define") : sigD T (l.getD 2 .oth) = true ∧ l.length = 4 := by
  subst e
  unfold formB at h
  have h1 : callB "define" l = false := by
    unfold callB
    rw [show isCallW "define" = false from by decide +kernel]
    rfl
  have h2 : newB T "define" l = false := by
    unfold newB
    rw [show decide (("define" : Str) = "new") = false from by decide +kernel]
    rfl
  rw [h1, h2] at h
  simp only [Bool.false_or] at h
  obtain ⟨h3, h4⟩ := He.ba h
  rw [if_neg (by decide +kernel), if_neg (by decide +kernel), if_neg (by decide +kernel), if_neg (by decide +kernel)] at h4
  simp only [decide_true, Bool.not_true, Bool.false_or] at h4
  exact ⟨(He.ba h4).2, (of_decide_eq_true h3).symm.trans (by decide +kernel)⟩
theorem r_catA {a b : Addr} {xs ys : List V} {H : Hp} {Q : VK} (ha : H a = some (.tup xs)) (hb : H b = some (.tup ys)) (hy : ys ≠ []) (hz : xs.length + ys.length ≤ sizeLine) (q : ∀ c H', Wc.Ext H H' → H' c = some (.tup (xs ++ ys)) → Q (.ref c) H') : rCatA K (.ref a) (.ref b) H Q :=
  ⟨a, b, xs, ys, rfl, rfl, SqT.of ha, SqT.of hb, hz, fun z => q b H (Wc.Ext.refl _) (by rw [z]; exact hb), fun _ z => absurd z hy, fun _ _ c hc => q c _ (Wc.Ext.new hc) upd_same⟩
theorem sqt_fr {ip q : Addr} {xs ys : List V} {H H' : Hp} (h : SqT K H ip xs) (f : Wc.Fr [q] H H') (hq : H q = some (.lst ys)) : SqT K H' ip xs := by
  rcases h with (h | ⟨o, h⟩) | h
  · exact .inl (.inl (f _ _ (by simpa using ne_of h hq (by intro z; cases z)) h))
  · exact .inl (.inr ⟨o, f _ _ (by simpa using ne_of h hq (by intro z; cases z)) h⟩)
  · exact .inr h
theorem ok_places_within (F : FnP K "places_within" s_places_within f fd) (T : Bt mg) (C : CsP K CP) (D_indexes_within : DfOk P w K mg base CX0 1 "indexes_within" ["part"] (spIndexes K)) (K_Place : MkOk P w K mg base CX0 1 "Place" CP ["self", "part", "path", "count", "names"] (spPlace CP)) :
    FnOk P w K mg base CX0 3 f fd ["place"] (spPlaces K CP) := by
  refine F.ok sc_places_within (fun vs H Q E h => ?_) (fun cdv A outer s H vs Q E hr h => ?_)
  · obtain ⟨v, p, T, B, rfl, _⟩ := h
    rfl
  · refine ⟨_, PSs.nox (pss_cons (ps_par (i := 1) (j := 2) (by rfl) sc_places_within.nd rfl rfl (by decide) rfl rfl (pa_cons (pe_fld (pv 0) rfl) (pa_cons (pe_lst pa_nil) pa_nil)) (by rfl))
      (pss_cons (ps_for PassesOwn.never rfl (pi_tup (pe_callD D_indexes_within hr (pa_cons (pv 1) pa_nil))) (pg_name (i := 3) sc_places_within.nd rfl (by first | exact Or.inl rfl | exact Or.inr rfl)) (pss_cons (ps_par (i := 4) (j := 5) (by rfl) sc_places_within.nd rfl rfl (by decide) rfl rfl (pa_cons (pe_fld (pv 0) rfl) (pa_cons (pe_fld (pv 0) rfl) pa_nil)) (by rfl))
      (pss_cons (ps_if (PW.pt (pw_and (pt_cmpR op_eq (pe_ix ix_tup (pv 1) pe_int (fun _ _ => rfl)) pe_str (nomark _)) (pw_and1 (pt_cmpR op_eq (pv 3) pe_int (nomark _))))) (pss_one (ps_set (i := 5) sc_places_within.nd rfl (by first | exact Or.inl rfl | exact Or.inr rfl) (pe_op op_catA (pv 5) (pe_tup (pa_cons (pe_ix ix_tup (pv 1) pe_int (fun _ _ => rfl)) pa_nil))))) pss_nil)
      (pss_cons (ps_if (pt_cmpR op_eq (pe_ix ix_tup (pv 1) pe_int (fun _ _ => rfl)) pe_str (nomark _)) (pss_one (ps_par (i := 4) (j := 5) (by rfl) sc_places_within.nd rfl rfl (by decide) rfl rfl (pa_cons (pe_callB call_len_seq (by rfl) T.f_len PySem.boot_len (pa_cons (pe_ix ix_tup (pv 1) pe_int (fun _ _ => rfl)) pa_nil)) (pa_cons (pe_tup pa_nil) pa_nil)) (by rfl))) pss_nil)
      (pss_one (ps_expr (pe_bm PySem.F.plainAttrs_list PySem.F.slot_list_append PySem.F.type_list_append mt_append (pv 2) (pa_cons (pe_makeC K_Place hr (pa_cons (pe_ix ix_tup (pv 1) (pv 3) (fun _ _ => rfl)) (pa_cons (pe_op op_catA (pe_fld (pv 0) rfl) (pe_tup (pa_cons (pv 3) pa_nil))) (pa_cons (pv 4) (pa_cons (pv 5) pa_nil))))) pa_nil))))))))
      (pss_one (ps_ret (pv 2))))), ?_⟩
    obtain ⟨v, p, T, B, rfl, eB, hp, hv, hpl, hnl, k⟩ := h
    rw [show L2.start ["place", "part", "found", "index", "count", "names"] [v] = ([some (v), none, none, none, none, none] : List (Option V)) from rfl]
    obtain ⟨w0, l, hd, hf⟩ := valid_tup hv
    obtain ⟨a, dx, pv, pt, nt, rfl, ha, dpv, hpt, hnt⟩ := hp
    rw [hd] at dpv
    have kh := KH.start (H := H)
    have D0 : DtAt K H pv (.tup (.str w0 :: l)) := dtExt eB _ _ dpv
    cases dpv with
    | @tup b vs _ hbB hal tt =>
      have hb := eB _ _ hbB
      cases tt with
      | @cons v0 _ vs _ h0 t =>
      cases h0 with
      | str hw =>
      have hlen := t.length
      rw [List.length_cons] at hal
      walk_at "go"
      refine FldAt.mk ha C.c C.piece rfl ?_
      walk_at "go"
      rename_i q H1 nq k1
      refine r_forT ?_
      walk_at "go"
      refine ⟨b, w0, l, rfl, dtExt k1.extE _ _ D0, fun ip H2 e2 hip => ?_⟩
      have e02 := k1.extE.trans e2
      have hq2 := e2 _ _ (k1.find (p := q) .here)
      refine ⟨ip, rfl, ⟨_, hip⟩, ?_⟩
      have hpb : placesB p = (withinI w0 (l.length + 1)).map (placeAt p w0 (.str w0 :: l)) := by
        unfold placesB
        rw [hd]
      refine ForT.mk (fun i σ Hi => (∃ v3 v4 v5 : Option V, σ = [some (.ref a), some (.ref b), some (.ref q), v3, v4, v5]) ∧ Wc.Fr [q] H2 Hi ∧ ∃ ws, Hi q = some (.lst ws) ∧ PySem.Paired (PlR K CP B Hi) ws ((placesB p).take i)) ⟨⟨_, _, _, rfl⟩, Wc.Fr.refl _ _, [], hq2, .nil⟩ (fun i σ Hi _ z => sqt_fr hip z.2.1 hq2) ?_ ?_
      · rintro i x σ Hi hx ⟨⟨v3, v4, v5, rfl⟩, fri, ws, hqi, pw⟩
        obtain ⟨j, hj, rfl⟩ : ∃ j, (withinI w0 (l.length + 1))[i]? = some j ∧ x = V.int (j : Nat) := by
          rw [List.getElem?_map] at hx
          cases g : (withinI w0 (l.length + 1))[i]? with
          | none => rw [g] at hx; cases hx
          | some j => rw [g] at hx; exact ⟨j, rfl, (Option.some.inj hx).symm⟩
        have hjl := within_lt hf j (List.mem_of_getElem? hj)
        have e0i : Wc.Ext H Hi := e02.frN fri nq
        have ki := KH.start (H := Hi)
        have hwl : ws.length ≤ 2000 := by
          have h1 := Paired.length pw
          have h2 := within_len (w0 := w0) (n := l.length + 1)
          rw [List.length_take, hpb, List.length_map] at h1
          omega
        walk_at "go"
        refine FldAt.mk (e0i _ _ ha) C.c C.count rfl ?_
        walk_at "go"
        refine FldAt.mk (e0i _ _ ha) C.c C.names rfl ?_
        walk_at "go"
        dsimp only [List.set]
        have hbi := e0i _ _ hb
        have ti := dtExtA (eB.trans e0i) _ _ (DtAll.cons (.str hw) t)
        obtain ⟨vj, hvj, dj⟩ := nth_ (DtAll.cons (.str hw) t) j (by rw [List.length_cons]; exact hjl)
        have hpi : (placesB p)[i]? = some (placeAt p w0 (.str w0 :: l) j) := by
          rw [hpb, List.getElem?_map, hj] <;> rfl
        refine r_ixT (SqT.of hbi) (atI_nat (xs := V.str w0 :: vs) (j := 0) rfl) ?_
        walk_at "go"
        by_cases hw1 : w0 = "let"
        · rw [show decide (V.str w0 = V.str "let") = true from decide_eq_true (by rw [hw1])]
          walk_at "go"
          have nd : ¬ w0 = "define" := by rw [hw1]; decide +kernel
          by_cases hj3 : j = 3
          · rw [show decide (V.int ((j : Nat) : Int) = V.int 3) = true from decide_eq_true (by rw [hj3] <;> rfl)]
            walk_at "go"
            obtain ⟨hn1, hl4⟩ := form_let hf hw1
            obtain ⟨v1, hv1, d1⟩ := nth_ ti 1 (by rw [hl4]; decide)
            have hs1 : (Dt.str w0 :: l).getD 1 .oth = .str (strD ((Dt.str w0 :: l).getD 1 .oth)) := by
              generalize (Dt.str w0 :: l).getD 1 .oth = y at hn1 ⊢
              cases y <;> first | rfl | cases hn1
            rw [hs1] at d1
            generalize hz1 : strD ((Dt.str w0 :: l).getD 1 .oth) = z1 at d1
            cases d1 with
            | str _ =>
            refine r_ixT (SqT.of hbi) (atI_nat (j := 1) hv1) ?_
            walk_at "go"
            rename_i u1 H3 n3 k3
            refine r_catA (k3.extE _ _ (e0i _ _ hnt)) (k3.find .here) (by simp) (by rw [List.length_map]; show _ + 1 ≤ _; exact sz_of (by omega)) fun nt1 H4 e4 hnt1 => ?_
            have hii : Wc.Ext Hi H4 := k3.extE.trans e4
            have hq4 := hii _ _ hqi
            walk_at "go"
            refine r_ixT (SqT.of (hii _ _ hbi)) (atI_nat (xs := V.str w0 :: vs) (j := 0) rfl) ?_
            walk_at "go"
            rw [show decide (V.str w0 = V.str "define") = false from decide_eq_false (fun e => nd (V.str.inj e))]
            walk_at "go"
            refine r_ixT (SqT.of (hii _ _ hbi)) (atI_nat (j := j) hvj) ?_
            walk_at "go"
            refine FldAt.mk (hii _ _ (e0i _ _ ha)) C.c C.path rfl ?_
            have k5 := KH.start (H := H4)
            walk_at "go"
            rename_i t1 H5 n5 k6
            refine r_catA ((Wc.Ext.trans hii k6.extE) _ _ (e0i _ _ hpt)) (k6.find .here) (by simp) (by rw [List.length_map]; show _ + 1 ≤ _; exact sz_of (by omega)) fun c H6 e6 hc => ?_
            have ei6 : Wc.Ext Hi H6 := (Wc.Ext.trans hii k6.extE).trans e6
            have k7 := KH.start1 (ei6 _ _ hqi)
            walk_at "go"
            refine mkPlace (Q := fun x H' => _) k7 fun x dx H7 nx k8 => ?_
            walk_at "go"
            rename_i H8 k9
            have f68 := k9.fr
            have m68 : Mo H6 H8 := Mo.fr1 f68 (ei6 _ _ hqi) rfl
            refine ⟨⟨_, _, _, rfl⟩, fri.trans (ei6.fr.trans f68), _, k9.find (.there (.there .here)), ?_⟩
            rw [List.take_succ, hpi]
            refine Paired.snoc (Paired.mapP pw fun _ _ z => z.mo (ei6.mo.trans m68)) ⟨x, dx, vj, c, nt1, rfl, ?_, dj, ?_, ?_⟩
            · rw [show (placeAt p w0 (.str w0 :: l) j).count = p.count from if_neg nd]
              exact k9.find .here
            · have h9 := m68 _ _ rfl hc
              show H8 c = some (.tup ((p.path ++ [j]).map fun n => V.int ((n : Nat) : Int)))
              rw [List.map_append]
              exact h9
            · rw [show (placeAt p w0 (.str w0 :: l) j).names = p.names ++ [z1] from by rw [← hz1]; show (if _ then _ else _) = _; rw [if_neg nd, if_pos ⟨hw1, hj3⟩], List.map_append]
              exact m68 _ _ rfl (e6 _ _ (k6.extE _ _ (hnt1)))
          · rw [show decide (V.int ((j : Nat) : Int) = V.int 3) = false from decide_eq_false (fun e => hj3 (by have e := V.int.inj e; omega))]
            walk_at "go"
            refine r_ixT (SqT.of hbi) (atI_nat (xs := V.str w0 :: vs) (j := 0) rfl) ?_
            walk_at "go"
            rw [show decide (V.str w0 = V.str "define") = false from decide_eq_false (fun e => nd (V.str.inj e))]
            walk_at "go"
            have hii := Wc.Ext.refl Hi
            refine r_ixT (SqT.of (hii _ _ hbi)) (atI_nat (j := j) hvj) ?_
            walk_at "go"
            refine FldAt.mk (hii _ _ (e0i _ _ ha)) C.c C.path rfl ?_
            have k5 := KH.start (H := Hi)
            walk_at "go"
            rename_i t1 H5 n5 k6
            refine r_catA ((Wc.Ext.trans hii k6.extE) _ _ (e0i _ _ hpt)) (k6.find .here) (by simp) (by rw [List.length_map]; show _ + 1 ≤ _; exact sz_of (by omega)) fun c H6 e6 hc => ?_
            have ei6 : Wc.Ext Hi H6 := (Wc.Ext.trans hii k6.extE).trans e6
            have k7 := KH.start1 (ei6 _ _ hqi)
            walk_at "go"
            refine mkPlace (Q := fun x H' => _) k7 fun x dx H7 nx k8 => ?_
            walk_at "go"
            rename_i H8 k9
            have f68 := k9.fr
            have m68 : Mo H6 H8 := Mo.fr1 f68 (ei6 _ _ hqi) rfl
            refine ⟨⟨_, _, _, rfl⟩, fri.trans (ei6.fr.trans f68), _, k9.find (.there (.there .here)), ?_⟩
            rw [List.take_succ, hpi]
            refine Paired.snoc (Paired.mapP pw fun _ _ z => z.mo (ei6.mo.trans m68)) ⟨x, dx, vj, c, nt, rfl, ?_, dj, ?_, ?_⟩
            · rw [show (placeAt p w0 (.str w0 :: l) j).count = p.count from if_neg nd]
              exact k9.find .here
            · have h9 := m68 _ _ rfl hc
              show H8 c = some (.tup ((p.path ++ [j]).map fun n => V.int ((n : Nat) : Int)))
              rw [List.map_append]
              exact h9
            · rw [show (placeAt p w0 (.str w0 :: l) j).names = p.names from by show (if _ then _ else _) = _; rw [if_neg nd, if_neg (fun z => hj3 z.2)]]
              exact m68 _ _ rfl (e6 _ _ (k6.extE _ _ (e0i _ _ hnt)))
        · rw [show decide (V.str w0 = V.str "let") = false from decide_eq_false (fun e => hw1 (V.str.inj e))]
          walk_at "go"
          refine r_ixT (SqT.of hbi) (atI_nat (xs := V.str w0 :: vs) (j := 0) rfl) ?_
          walk_at "go"
          by_cases hw2 : w0 = "define"
          · rw [show decide (V.str w0 = V.str "define") = true from decide_eq_true (by rw [hw2])]
            walk_at "go"
            obtain ⟨hg1, hl4⟩ := form_define hf hw2
            obtain ⟨v2, hv2, d2⟩ := nth_ ti 2 (by rw [hl4]; decide)
            obtain ⟨sl, hsl⟩ : ∃ sl, (Dt.str w0 :: l).getD 2 .oth = .tup sl := by
              generalize (Dt.str w0 :: l).getD 2 .oth = y at hg1 ⊢
              cases y <;> first | exact ⟨_, rfl⟩ | cases hg1
            rw [hsl] at d2
            cases d2 with
            | @tup sa svs _ hsa _ st =>
            have hsln := st.length
            refine r_ixT (SqT.of hbi) (atI_nat (j := 2) hv2) ?_
            walk_at "go"
            refine ⟨sa, svs, rfl, .inr (SqT.of hsa), ?_⟩
            have kj := ki.cons (o := .lst ws) hqi (by simp)
            walk_at "go"
            rename_i nt1 H4 n4 k4
            have hii : Wc.Ext Hi H4 := k4.extE
            have hq4 := hii _ _ hqi
            have hnt1 := k4.find (p := nt1) .here
            dsimp only [List.set]
            walk_at "go"
            refine r_ixT (SqT.of (hii _ _ hbi)) (atI_nat (j := j) hvj) ?_
            walk_at "go"
            refine FldAt.mk (hii _ _ (e0i _ _ ha)) C.c C.path rfl ?_
            have k5 := KH.start (H := H4)
            walk_at "go"
            rename_i t1 H5 n5 k6
            refine r_catA ((Wc.Ext.trans hii k6.extE) _ _ (e0i _ _ hpt)) (k6.find .here) (by simp) (by rw [List.length_map]; show _ + 1 ≤ _; exact sz_of (by omega)) fun c H6 e6 hc => ?_
            have ei6 : Wc.Ext Hi H6 := (Wc.Ext.trans hii k6.extE).trans e6
            have k7 := KH.start1 (ei6 _ _ hqi)
            walk_at "go"
            refine mkPlace (Q := fun x H' => _) k7 fun x dx H7 nx k8 => ?_
            walk_at "go"
            rename_i H8 k9
            have f68 := k9.fr
            have m68 : Mo H6 H8 := Mo.fr1 f68 (ei6 _ _ hqi) rfl
            refine ⟨⟨_, _, _, rfl⟩, fri.trans (ei6.fr.trans f68), _, k9.find (.there (.there .here)), ?_⟩
            rw [List.take_succ, hpi]
            refine Paired.snoc (Paired.mapP pw fun _ _ z => z.mo (ei6.mo.trans m68)) ⟨x, dx, vj, c, nt1, rfl, ?_, dj, ?_, ?_⟩
            · rw [show (placeAt p w0 (.str w0 :: l) j).count = svs.length from by rw [hsln]; show (if _ then _ else _) = _; rw [if_pos hw2, hsl]]
              exact k9.find .here
            · have h9 := m68 _ _ rfl hc
              show H8 c = some (.tup ((p.path ++ [j]).map fun n => V.int ((n : Nat) : Int)))
              rw [List.map_append]
              exact h9
            · rw [show (placeAt p w0 (.str w0 :: l) j).names = [] from by show (if _ then _ else _) = _; rw [if_pos hw2]]
              exact m68 _ _ rfl (e6 _ _ (k6.extE _ _ (hnt1)))
          · rw [show decide (V.str w0 = V.str "define") = false from decide_eq_false (fun e => hw2 (V.str.inj e))]
            walk_at "go"
            have hii := Wc.Ext.refl Hi
            refine r_ixT (SqT.of (hii _ _ hbi)) (atI_nat (j := j) hvj) ?_
            walk_at "go"
            refine FldAt.mk (hii _ _ (e0i _ _ ha)) C.c C.path rfl ?_
            have k5 := KH.start (H := Hi)
            walk_at "go"
            rename_i t1 H5 n5 k6
            refine r_catA ((Wc.Ext.trans hii k6.extE) _ _ (e0i _ _ hpt)) (k6.find .here) (by simp) (by rw [List.length_map]; show _ + 1 ≤ _; exact sz_of (by omega)) fun c H6 e6 hc => ?_
            have ei6 : Wc.Ext Hi H6 := (Wc.Ext.trans hii k6.extE).trans e6
            have k7 := KH.start1 (ei6 _ _ hqi)
            walk_at "go"
            refine mkPlace (Q := fun x H' => _) k7 fun x dx H7 nx k8 => ?_
            walk_at "go"
            rename_i H8 k9
            have f68 := k9.fr
            have m68 : Mo H6 H8 := Mo.fr1 f68 (ei6 _ _ hqi) rfl
            refine ⟨⟨_, _, _, rfl⟩, fri.trans (ei6.fr.trans f68), _, k9.find (.there (.there .here)), ?_⟩
            rw [List.take_succ, hpi]
            refine Paired.snoc (Paired.mapP pw fun _ _ z => z.mo (ei6.mo.trans m68)) ⟨x, dx, vj, c, nt, rfl, ?_, dj, ?_, ?_⟩
            · rw [show (placeAt p w0 (.str w0 :: l) j).count = p.count from if_neg hw2]
              exact k9.find .here
            · have h9 := m68 _ _ rfl hc
              show H8 c = some (.tup ((p.path ++ [j]).map fun n => V.int ((n : Nat) : Int)))
              rw [List.map_append]
              exact h9
            · rw [show (placeAt p w0 (.str w0 :: l) j).names = p.names from by show (if _ then _ else _) = _; rw [if_neg hw2, if_neg (fun z => hw1 z.1)]]
              exact m68 _ _ rfl (e6 _ _ (k6.extE _ _ (e0i _ _ hnt)))
      · rintro σ Hi ⟨⟨v3, v4, v5, rfl⟩, fri, ws, hqi, pw⟩
        have e0i : Wc.Ext H Hi := e02.frN fri nq
        have e : (placesB p).take ((withinI w0 (l.length + 1)).map fun n => V.int ((n : Nat) : Int)).length = placesB p := by
          refine List.take_of_length_le ?_
          rw [hpb, List.length_map, List.length_map]
          exact Nat.le_refl _
        rw [e] at pw
        walk_at "go"
        exact k q Hi ws nq e0i hqi pw
end
end K10


set_option Elab.async false
set_option linter.all false
set_option maxRecDepth 100000
set_option maxHeartbeats 4000000
namespace K10
open PySem L2 Wc
local macro_rules | `(tactic| walk_at "lk") => `(tactic| first | with_reducible exact Look.here | (with_reducible apply Look.there; walk_at "lk"))
local macro_rules | `(tactic| walk_at "ul") => `(tactic| first | with_reducible exact UpL.here | (with_reducible apply UpL.there; walk_at "ul"))
local macro_rules | `(tactic| walk_at "ga") => `(tactic| first | exact GetAt.here | (apply GetAt.there; walk_at "ga"))
local macro_rules | `(tactic| walk_at "sa") => `(tactic| first | exact SetAt.here | (apply SetAt.there; walk_at "sa"))
local macro_rules | `(tactic| walk_at "hp") => `(tactic| first | assumption | (refine' KH.find ?k ?h; (case k => assumption); (case h => walk_at "lk")))
local macro_rules | `(tactic| walk_at "sql") => `(tactic| first | assumption | (refine' SqL.of ?h; (case h => walk_at "hp")) | (refine' Fr.sql (KH.fr ?k) ?n ?h; (case k => assumption); (case h => assumption); (case n => (simp; done))))
local macro_rules | `(tactic| walk_at "sqt") => `(tactic| first | assumption | (refine' SqT.of ?h; (case h => walk_at "hp")))
local macro_rules | `(tactic| walk_at "side") => `(tactic| first | exact (show (0 : Int) < _ by decide) | exact (show (0 : Int) < _ by omega) | exact ⟨by decide, by decide, by decide⟩ | exact ⟨by decide, by decide, by omega⟩ | exact ⟨by decide, by decide⟩ | exact ⟨by omega, by omega⟩ | exact Or.inl ⟨by omega, by omega⟩ | exact Or.inr ⟨by omega, by omega⟩)
local macro_rules | `(tactic| walk_at "siz") => `(tactic| first | (refine sz_of ?_; first | decide | omega | (simp; done) | (simp; omega)) | (refine sz_lt ?_; first | decide | omega | (simp; done) | (simp; omega)))
local macro_rules | `(tactic| walk_at "own") => `(tactic| first | (exact Or.inr (by assumption)) | (refine Or.inl ?_; simp; done))
local macro_rules | `(tactic| walk_at "al") => `(tactic| (refine' AllocO.mk ?k ?_; (case k => assumption); intro _ _ _ _))
local macro_rules | `(tactic| walk_at "up") => `(tactic| (refine' UpdO.mk ?k ?h ?m ?_; (case k => assumption); (case h => walk_at "ul"); (case m => walk_at "own"); intro _ _))
local macro_rules | `(tactic| walk_at "st") => `(tactic| first
  | ((with_reducible refine' r_var ?h ?_); (case h => walk_at "ga"))
  | (with_reducible refine' r_seq ?_) | (with_reducible refine' r_next ?_) | (with_reducible refine' r_asg ?_) | (with_reducible refine' r_drop ?_) | (with_reducible refine' r_ret ?_) | (with_reducible refine' r_retN ?_)
  | (with_reducible refine' r_ifs ?_) | (with_reducible refine' r_cont ?_) | (with_reducible refine' r_break ?_) | (with_reducible refine' r_c ?_) | (with_reducible refine' r_op ?_) | (with_reducible refine' r_un ?_)
  | (with_reducible refine' r_test ?_) | (with_reducible refine' r_tB ?_) | (with_reducible refine' r_not ?_) | (with_reducible refine' r_and ?_) | (with_reducible refine' r_or ?_) | (with_reducible refine' r_notV ?_)
  | (with_reducible refine' r_andV ?_) | (with_reducible refine' r_orV ?_) | (with_reducible refine' r_ifE ?_) | (with_reducible refine' r_bl ?_) | (with_reducible refine' r_nil ?_) | (with_reducible refine' r_cons ?_)
  | (with_reducible refine' r_tup ?_) | (with_reducible refine' r_lst ?_) | (with_reducible refine' r_cb ?_) | (with_reducible refine' r_call ?_) | ((with_reducible refine' r_name ?h ?_); (case h => walk_at "sa")) | (with_reducible refine' r_gnil ?_)
  | (with_reducible refine' r_gcons ?_) | (with_reducible refine' r_gsub ?_) | (with_reducible refine' r_par ?_) | (with_reducible refine' r_par2 ?_) | (with_reducible refine' r_I0 ?_) | (with_reducible refine' r_U ?_)
  | ((with_reducible refine' r_eq ?h ?_); (case h => rfl)) | ((with_reducible refine' r_ne ?h ?_); (case h => rfl))
  | ((with_reducible refine' r_ixL ?h ?a ?_); (case h => walk_at "sql"); (case a => rfl))
  | ((with_reducible refine' r_ixT ?h ?a ?_); (case h => walk_at "sqt"); (case a => rfl))
  | ((with_reducible refine' r_setL ?h ?a ?_); (case h => walk_at "hp"); (case a => rfl))
  | ((with_reducible refine' r_I ?c ?_); (case c => walk_at "side"))
  | (with_reducible refine' r_sl ?_) | (with_reducible refine' r_part ?_) | (with_reducible refine' r_nopart ?_) | (with_reducible refine' r_ii ?_)
  | ((with_reducible refine' r_slL ?h ?_); (case h => walk_at "sql"))
  | (with_reducible refine' r_bm ?_) | (with_reducible refine' r_bm0 ?_) | (with_reducible refine' r_int1 ?_) | (with_reducible refine' r_int1b ?_)
  | ((with_reducible refine' r_aug ?h ?_); (case h => walk_at "ga"))
  | ((with_reducible refine' r_cat ?a ?b ?z ?_); (case a => walk_at "hp"); (case b => walk_at "hp"); (case z => walk_at "siz"))
  | ((with_reducible refine' r_append ?a ?z ?_); (case a => walk_at "hp"); (case z => walk_at "siz"))
  | ((with_reducible refine' And.intro ?z ?_); (case z => first | walk_at "siz" | exact Or.inl ⟨rfl, _, by walk_at "sql"⟩))
  | ((with_reducible refine' r_gtup ?h ?l ?_); (case h => walk_at "sqt"); (case l => rfl))
  | (with_reducible refine' r_forL ?_) | (with_reducible refine' r_forE ?_) | (with_reducible refine' r_forR ?_) | ((with_reducible refine' r_forL2 ?h ?_); (case h => walk_at "sql")) | ((with_reducible refine' r_forE2 ?h ?_); (case h => walk_at "sql"))
  | (with_reducible refine' r_lcR ?_) | ((with_reducible refine' r_iteT ?h ?_); (case h => rfl)) | ((with_reducible refine' r_iteF ?h ?_); (case h => rfl))
  | (with_reducible refine' r_dnew ?_) | (with_reducible refine' r_vei ?_) | (with_reducible refine' r_ost ?_) | (with_reducible refine' r_mkV ?_) | (with_reducible refine' r_mkX ?_) | (with_reducible refine' r_xfld ?_)
  | ((with_reducible refine' MkG.mk ?o ?n ?k ?_); (case o => exact ErrOk.o (by assumption)); (case n => exact ErrOk.no (by assumption)); (case k => assumption); intro _ _ _ _)
  | ((with_reducible refine' AllocX.mk ?k ?_); (case k => assumption); intro _ _ _ _)
  | (with_reducible refine' r_chain ?_) | (with_reducible refine' r_lcS ?_) | (with_reducible refine' r_lcS2 ?_) | (with_reducible refine' r_lcL ?_) | (with_reducible refine' r_lcT ?_) | (with_reducible refine' r_lcI ?_) | (with_reducible refine' r_yes ?_)
  | (with_reducible refine' r_fld ?_) | (with_reducible refine' r_sfld ?_) | (with_reducible refine' r_meth ?_) | (with_reducible refine' r_make ?_) | (with_reducible refine' r_dget ?_) | (with_reducible refine' r_din ?_) | (with_reducible refine' r_dput ?_)
  | ((with_reducible refine' r_disp ?k ?_); (case k => assumption); intro _ _ _ _) | (with_reducible refine' r_pnil ?_) | (with_reducible refine' r_pcons ?_)
  | (walk_at "al") | (walk_at "up"))
local macro_rules | `(tactic| walk_at "go") => `(tactic| repeat walk_at "st")

section
variable {P : Program} {w : World} {K : PySem.W.Frag} {mg : Str → Option Value} {base : Heap} {f : Addr} {fd : FuncData} {CK CR NC dl dw tc CP NB NFn NSg : Addr}
theorem r_pop {l : Addr} {xs : List V} {y : V} {H : Hp} {Q : VK} (h : H l = some (.lst xs)) (hy : xs[xs.length - 1]? = some y) (q : UpdO l (.lst xs.dropLast) (Q y) H) : rPop (.ref l) [] H Q := ⟨l, xs, y, rfl, rfl, h, hy, q⟩
theorem r_extend {l b : Addr} {xs zs : List V} {H : Hp} {Q : VK} (h : H l = some (.lst xs)) (hb : H b = some (.lst zs)) (hz : xs.length + zs.length ≤ sizeLine) (q : UpdO l (.lst (xs ++ zs)) (Q .non) H) : rExtend (.ref l) [.ref b] H Q := ⟨l, b, xs, zs, rfl, rfl, h, hb, hz, q⟩
theorem places_len {B : Hp} {v : V} {p : Pl} (h : DtAt K B v p.d) : (placesB p).length ≤ 1003 := by
  unfold placesB
  generalize p.d = d at h ⊢
  cases h with
  | @tup a vs ds h hl t =>
    have e := t.length
    cases ds with
    | nil => exact Nat.zero_le _
    | cons d l =>
      cases d with
      | str w0 =>
        have := within_len (w0 := w0) (n := l.length + 1)
        rw [List.length_cons] at e
        show ((withinI w0 (l.length + 1)).map _).length ≤ 1003
        rw [List.length_map]
        omega
      | _ => exact Nat.zero_le _
  | _ => exact Nat.zero_le _
theorem places_in {p x : Pl} (h : x ∈ placesB p) : x.path.length = p.path.length + 1 ∧ x.names.length ≤ p.names.length + 1 := by
  unfold placesB at h
  split at h
  · obtain ⟨i, _, rfl⟩ := List.mem_map.mp h
    refine ⟨by show (p.path ++ [i]).length = _; simp, ?_⟩
    show List.length (if _ then _ else _) ≤ _
    split
    · exact Nat.zero_le _
    · split
      · simp
      · omega
  · cases h
theorem pairApp {α β : Type} {R : α → β → Prop} {a c : List α} {b d : List β} (h : PySem.Paired R a b) (g : PySem.Paired R c d) : PySem.Paired R (a ++ c) (b ++ d) := by
  induction h with
  | nil => exact g
  | cons h _ ih => exact .cons h ih
def spCV (K : PySem.W.Frag) (CK CR NB : Addr) : Sp := fun vs H Q E => ∃ r kd tl T n v d cn, vs = [.ref r, v, .int (cn : Nat)] ∧ RtAt K CK CR H r kd tl T n ∧ (∀ c, c ∈ T → c.all.length ≤ 1000) ∧ DtAt K H v d ∧
  (chk T 24 [⟨d, [], cn, []⟩] = none → ∀ H', Wc.Ext H H' → Q .non H') ∧ (∀ l, chk T 24 [⟨d, [], cn, []⟩] = some l → ∀ e t H', Wc.Ext H H' → H e = none → H' e = some (.xd [("path", .ref t)]) → H' t = some (.tup (l.map fun n => V.int (n : Nat))) → E (.ref NB) (some e) H')
theorem ok_check_valid (F : FnP K "check_valid" s_check_valid f fd) (T : Bt mg) (B : Bd K w mg dl dw tc) (C : CsP K CP) (E_NoBody : ErrOk P w K mg base "NoBody" NB "path") (K_Place : MkOk P w K mg base CX0 1 "Place" CP ["self", "part", "path", "count", "names"] (spPlace CP))
    (D_is_valid_part : DfOk P w K mg base CX0 4 "is_valid_part" ["runtime", "place"] (spValid K CK CR CP)) (D_places_within : DfOk P w K mg base CX0 3 "places_within" ["place"] (spPlaces K CP)) :
    FnOk P w K mg base (L2.CX P w) 5 f fd ["runtime", "body", "count"] (spCV K CK CR NB) := by
  obtain ⟨tM, hM⟩ := B.gM
  refine F.ok sc_check_valid (fun vs H Q E h => ?_) (fun cdv A outer s H vs Q E hr h => ?_)
  · obtain ⟨r, kd, tl, T, n, v, d, cn, rfl, _⟩ := h
    rfl
  · refine ⟨_, (pss_cons (ps_par (i := 3) (j := 4) (by rfl) sc_check_valid.nd rfl rfl (by decide) rfl rfl (pa_cons (pe_lst (pa_cons (pe_makeC K_Place hr (pa_cons (pv 1) (pa_cons (pe_tup pa_nil) (pa_cons (pv 2) (pa_cons (pe_tup pa_nil) pa_nil))))) pa_nil)) (pa_cons pe_int pa_nil)) (by rfl))
      (pss_one (ps_while (passes_of rfl) (pt_cmpR (op_ne0 hr) (pv 3) (pe_lst pa_nil) (nomark _)) (pss_cons (ps_set (i := 5) sc_check_valid.nd rfl (by first | exact Or.inl rfl | exact Or.inr rfl) (pe_bm0 PySem.F.plainAttrs_list PySem.F.slot_list_pop PySem.F.type_list_pop mt_pop (pv 3)))
      (pss_cons (ps_if (pt_cmpR op_eq (pv 4) (pe_glob (v := .int 24) (by rfl) hM ⟨_, rfl⟩) (nomark _)) (pss_one (ps_raiseE rfl (takes_of rfl rfl rfl rfl) E_NoBody hr (pe_tup pa_nil))) pss_nil)
      (pss_cons (ps_if (pt_not (pt_val (pe_callD D_is_valid_part hr (pa_cons (pv 0) (pa_cons (pv 5) pa_nil))))) (pss_one (ps_raiseE rfl (takes_of rfl rfl rfl rfl) E_NoBody hr (pe_fld (pv 5) rfl))) pss_nil)
      (pss_cons (ps_aug (i := 4) sc_check_valid.nd rfl (by first | exact Or.inl rfl | exact Or.inr rfl) pe_int ip_add)
      (pss_one (ps_expr (pe_bm PySem.F.plainAttrs_list PySem.F.slot_list_extend PySem.F.type_list_extend mt_extend (pv 3) (pa_cons (pe_revL (pe_callD D_places_within hr (pa_cons (pv 5) pa_nil))) pa_nil))))))))))), ?_⟩
    obtain ⟨r, kd, tl, T, n, v, d, cn, rfl, R, hT, dv, kN, kE⟩ := h
    rw [show L2.start ["runtime", "body", "count", "waiting", "many", "place"] [V.ref r, v, V.int cn] = ([some (V.ref r), some (v), some (V.int cn), none, none, none] : List (Option V)) from rfl]
    have kh := KH.start (H := H)
    walk_at "go"
    rename_i pt H1 n1 k1 nt H2 n2 k2
    refine mkPlace k2 fun x dx H3 nx k3 => ?_
    walk_at "go"
    rename_i wl H4 nwl k4
    dsimp only [List.set]
    walk_at "go"
    refine r_while ?_
    have dv4 := dv
    have hp0 : PlR K CP H H4 (.ref x) ⟨d, [], cn, []⟩ := ⟨x, dx, v, pt, nt, rfl, k4.find (.there .here), dv, k4.find (o := .tup []) (by walk_at "lk"), k4.find (o := .tup []) (by walk_at "lk")⟩
    refine WhG.mk (fun mm σ Hi => ∃ mk ws st, (∃ v5 : Option V, σ = [some (.ref r), some v, some (.int (cn : Nat)), some (.ref wl), some (.int (mk : Nat)), v5]) ∧ Wc.Ext H Hi ∧ Hi wl = some (.lst ws) ∧ PySem.Paired (PlR K CP H Hi) ws.reverse st ∧ chk T (24 - mk) st = chk T 24 [⟨d, [], cn, []⟩] ∧ mk ≤ 24 ∧ mm = 25 - mk ∧ ws.length ≤ 1 + 1003 * mk ∧ ∀ p, p ∈ st → p.path.length ≤ mk ∧ p.names.length ≤ mk)
      25 ⟨0, [.ref x], [⟨d, [], cn, []⟩], ⟨_, rfl⟩, k4.extE, k4.find .here, .cons hp0 .nil, rfl, by omega, rfl, by simp, fun p hp => by
        obtain rfl := List.mem_singleton.mp hp
        exact ⟨Nat.le_refl _, Nat.le_refl _⟩⟩ ?_
    rintro mm σ Hi ⟨mk, ws, st, ⟨v5, rfl⟩, e0i, hw, pw, hch, hmk, rfl, hwl, hst⟩
    have ki := KH.start1 hw
    walk_at "go"
    rename_i em Hj ne kj
    refine ⟨wl, em, ws, rfl, rfl, SqL.of (kj.find (.there .here)), SqL.of (kj.find .here), ?_⟩
    walk_at "go"
    have eij : Wc.Ext Hi Hj := by
      have f := kj.fr
      intro a o h
      by_cases ha : a = wl
      · subst ha
        rw [hw] at h
        rw [← h]
        exact kj.find (.there .here)
      · exact f a o (by simpa using ha) h
    rcases List.eq_nil_or_concat ws with rfl | ⟨ws0, y, ew⟩
    · walk_at "go"
      cases pw
      refine kN ?_ Hj (e0i.trans eij)
      rw [← hch]
      cases 24 - mk <;> rfl
    · rw [List.concat_eq_append] at ew
      subst ew
      rw [show (!(ws0 ++ [y]).isEmpty) = true from by simp]
      rw [List.reverse_append, List.reverse_singleton, List.singleton_append] at pw
      cases pw with
      | @cons _ p _ st py pw =>
      walk_at "go"
      refine ⟨fun σ' H' => _, fun σ' H' z => z, ?_⟩
      refine r_seq ?_
      have e0j := e0i.trans eij
      have hy := hst p List.mem_cons_self
      walk_at "go"
      refine r_pop (kj.find (.there .here)) (y := y) (by simp) ?_
      walk_at "go"
      rename_i Hk kk
      rw [List.dropLast_concat] at kk
      have e0k : Wc.Ext H Hk := e0i.frN kk.fr nwl
      have mik : Mo Hi Hk := Mo.fr1 kk.fr hw rfl
      by_cases h24 : mk = 24
      · rw [show decide (V.int ((mk : Nat) : Int) = V.int 24) = true from decide_eq_true (by rw [h24] <;> rfl)]
        walk_at "go"
        rename_i t5 H5 n5 k5
        have e05 : Wc.Ext H H5 := e0i.frN k5.fr nwl
        refine RsG.mk E_NoBody.o E_NoBody.no fun e H6 e6 he hx => kE [] ?_ e t5 H6 (e05.trans e6) (e05.free he) hx (e6 _ _ (k5.find .here))
        rw [← hch, h24]
        rfl
      · rw [show decide (V.int ((mk : Nat) : Int) = V.int 24) = false from decide_eq_false (fun e => h24 (by have e := V.int.inj e; omega))]
        walk_at "go"
        have pk := py.mo mik
        have hch1 : chk T (23 - mk + 1) (p :: st) = chk T 24 [⟨d, [], cn, []⟩] := by
          rw [← hch, show 23 - mk + 1 = 24 - mk by omega]
        refine ⟨r, kd, tl, T, n, y, p, rfl, R.ext e0k, hT, pk.at_ e0k, by omega, fun H5 e5 => ?_⟩
        have hv : chk T (23 - mk + 1) (p :: st) = if validB T p then chk T (23 - mk) (placesB p ++ st) else some p.path := rfl
        rw [hv] at hch1
        have k5 := kk.ext e5
        have e05 := e0k.trans e5
        cases hvb : validB T p with
        | false =>
          rw [hvb, if_neg Bool.false_ne_true] at hch1
          obtain ⟨a5, dx5, pv5, pt5, nt5, rfl, h5, _, hp5, _⟩ := pk.mo e5.mo
          walk_at "go"
          refine FldAt.mk h5 C.c C.path rfl ?_
          walk_at "go"
          exact RsG.mk E_NoBody.o E_NoBody.no fun e H6 e6 he hx => kE _ hch1.symm e pt5 H6 (e05.trans e6) (e05.free he) hx (e6 _ _ hp5)
        | true =>
          rw [hvb, if_pos rfl] at hch1
          walk_at "go"
          refine ⟨_, _, rfl, rfl, ?_⟩
          dsimp only [List.set]
          walk_at "go"
          refine r_revL ?_
          walk_at "go"
          refine ⟨y, p, T, H, rfl, e05, pk.mo e5.mo, hvb, by omega, by omega, fun q H6 qs nq e6 hq pq => ?_⟩
          have k6 := k5.ext e6
          have hw6 := k6.find (p := wl) (.there .here)
          have k7 := KH.start1 hw6
          have nqw : q ≠ wl := fun z => by
            obtain ⟨o, u⟩ := k5.mem (p := wl) (by simp)
            rw [z, u] at nq
            cases nq
          have k8 := k7.cons hq (by simpa using nqw)
          have e06 := e05.trans e6
          refine ⟨q, qs, rfl, SqL.of hq, ?_⟩
          walk_at "go"
          rename_i q2 H7 n7 k9
          have lp := Paired.length pq
          have lb : (placesB p).length ≤ 1003 := by
            obtain ⟨_, _, _, _, _, _, _, dd, _⟩ := py
            exact places_len dd
          have lw : ws0.length + 1 ≤ 1 + 1003 * mk := by simpa using hwl
          refine r_extend (k9.find (.there (.there .here))) (k9.find .here) (by rw [List.length_reverse]; exact sz_of (by omega)) ?_
          walk_at "go"
          rename_i H8 k10
          have m68 : Mo H6 H8 := Mo.fr1 k10.fr hw6 rfl
          have mi8 : Mo Hi H8 := mik.trans ((e5.trans e6).mo.trans m68)
          refine ⟨25 - (mk + 1), by omega, mk + 1, ws0 ++ qs.reverse, placesB p ++ st, ⟨_, rfl⟩, e06.frN k10.fr nwl, k10.find (by walk_at "lk"), ?_, ?_, by omega, rfl, ?_, ?_⟩
          · rw [List.reverse_append, List.reverse_reverse]
            exact pairApp (Paired.mapP pq fun _ _ z => z.mo m68) (Paired.mapP pw fun _ _ z => z.mo mi8)
          · rw [show 24 - (mk + 1) = 23 - mk by omega]
            exact hch1
          · rw [List.length_append, List.length_reverse]
            omega
          · intro x hx
            rcases List.mem_append.mp hx with hx | hx
            · obtain ⟨g1, g2⟩ := places_in hx
              exact ⟨by omega, by omega⟩
            · obtain ⟨g1, g2⟩ := hst x (List.mem_cons_of_mem _ hx)
              exact ⟨by omega, by omega⟩
end
end K10


set_option Elab.async false
set_option linter.all false
set_option maxRecDepth 100000
set_option maxHeartbeats 4000000
namespace K10
open PySem L2 Wc
local macro_rules | `(tactic| walk_at "lk") => `(tactic| first | with_reducible exact Look.here | (with_reducible apply Look.there; walk_at "lk"))
local macro_rules | `(tactic| walk_at "ul") => `(tactic| first | with_reducible exact UpL.here | (with_reducible apply UpL.there; walk_at "ul"))
local macro_rules | `(tactic| walk_at "ga") => `(tactic| first | exact GetAt.here | (apply GetAt.there; walk_at "ga"))
local macro_rules | `(tactic| walk_at "sa") => `(tactic| first | exact SetAt.here | (apply SetAt.there; walk_at "sa"))
local macro_rules | `(tactic| walk_at "hp") => `(tactic| first | assumption | (refine' KH.find ?k ?h; (case k => assumption); (case h => walk_at "lk")))
local macro_rules | `(tactic| walk_at "sql") => `(tactic| first | assumption | (refine' SqL.of ?h; (case h => walk_at "hp")) | (refine' Fr.sql (KH.fr ?k) ?n ?h; (case k => assumption); (case h => assumption); (case n => (simp; done))))
local macro_rules | `(tactic| walk_at "sqt") => `(tactic| first | assumption | (refine' SqT.of ?h; (case h => walk_at "hp")))
local macro_rules | `(tactic| walk_at "side") => `(tactic| first | exact (show (0 : Int) < _ by decide) | exact (show (0 : Int) < _ by omega) | exact ⟨by decide, by decide, by decide⟩ | exact ⟨by decide, by decide, by omega⟩ | exact ⟨by decide, by decide⟩ | exact ⟨by omega, by omega⟩ | exact Or.inl ⟨by omega, by omega⟩ | exact Or.inr ⟨by omega, by omega⟩)
local macro_rules | `(tactic| walk_at "siz") => `(tactic| first | (refine sz_of ?_; first | decide | omega | (simp; done) | (simp; omega)) | (refine sz_lt ?_; first | decide | omega | (simp; done) | (simp; omega)))
local macro_rules | `(tactic| walk_at "own") => `(tactic| first | (exact Or.inr (by assumption)) | (refine Or.inl ?_; simp; done))
local macro_rules | `(tactic| walk_at "al") => `(tactic| (refine' AllocO.mk ?k ?_; (case k => assumption); intro _ _ _ _))
local macro_rules | `(tactic| walk_at "up") => `(tactic| (refine' UpdO.mk ?k ?h ?m ?_; (case k => assumption); (case h => walk_at "ul"); (case m => walk_at "own"); intro _ _))
local macro_rules | `(tactic| walk_at "st") => `(tactic| first
  | ((with_reducible refine' r_var ?h ?_); (case h => walk_at "ga"))
  | (with_reducible refine' r_seq ?_) | (with_reducible refine' r_next ?_) | (with_reducible refine' r_asg ?_) | (with_reducible refine' r_drop ?_) | (with_reducible refine' r_ret ?_) | (with_reducible refine' r_retN ?_)
  | (with_reducible refine' r_ifs ?_) | (with_reducible refine' r_cont ?_) | (with_reducible refine' r_break ?_) | (with_reducible refine' r_c ?_) | (with_reducible refine' r_op ?_) | (with_reducible refine' r_un ?_)
  | (with_reducible refine' r_test ?_) | (with_reducible refine' r_tB ?_) | (with_reducible refine' r_not ?_) | (with_reducible refine' r_and ?_) | (with_reducible refine' r_or ?_) | (with_reducible refine' r_notV ?_)
  | (with_reducible refine' r_andV ?_) | (with_reducible refine' r_orV ?_) | (with_reducible refine' r_ifE ?_) | (with_reducible refine' r_bl ?_) | (with_reducible refine' r_nil ?_) | (with_reducible refine' r_cons ?_)
  | (with_reducible refine' r_tup ?_) | (with_reducible refine' r_lst ?_) | (with_reducible refine' r_cb ?_) | (with_reducible refine' r_call ?_) | ((with_reducible refine' r_name ?h ?_); (case h => walk_at "sa")) | (with_reducible refine' r_gnil ?_)
  | (with_reducible refine' r_gcons ?_) | (with_reducible refine' r_gsub ?_) | (with_reducible refine' r_par ?_) | (with_reducible refine' r_par2 ?_) | (with_reducible refine' r_I0 ?_) | (with_reducible refine' r_U ?_)
  | ((with_reducible refine' r_eq ?h ?_); (case h => rfl)) | ((with_reducible refine' r_ne ?h ?_); (case h => rfl))
  | ((with_reducible refine' r_ixL ?h ?a ?_); (case h => walk_at "sql"); (case a => rfl))
  | ((with_reducible refine' r_ixT ?h ?a ?_); (case h => walk_at "sqt"); (case a => rfl))
  | ((with_reducible refine' r_setL ?h ?a ?_); (case h => walk_at "hp"); (case a => rfl))
  | ((with_reducible refine' r_I ?c ?_); (case c => walk_at "side"))
  | (with_reducible refine' r_sl ?_) | (with_reducible refine' r_part ?_) | (with_reducible refine' r_nopart ?_) | (with_reducible refine' r_ii ?_)
  | ((with_reducible refine' r_slL ?h ?_); (case h => walk_at "sql"))
  | (with_reducible refine' r_bm ?_) | (with_reducible refine' r_bm0 ?_) | (with_reducible refine' r_int1 ?_) | (with_reducible refine' r_int1b ?_)
  | ((with_reducible refine' r_aug ?h ?_); (case h => walk_at "ga"))
  | ((with_reducible refine' r_cat ?a ?b ?z ?_); (case a => walk_at "hp"); (case b => walk_at "hp"); (case z => walk_at "siz"))
  | ((with_reducible refine' r_append ?a ?z ?_); (case a => walk_at "hp"); (case z => walk_at "siz"))
  | ((with_reducible refine' And.intro ?z ?_); (case z => first | walk_at "siz" | exact Or.inl ⟨rfl, _, by walk_at "sql"⟩))
  | ((with_reducible refine' r_gtup ?h ?l ?_); (case h => walk_at "sqt"); (case l => rfl))
  | (with_reducible refine' r_forL ?_) | (with_reducible refine' r_forE ?_) | (with_reducible refine' r_forR ?_) | ((with_reducible refine' r_forL2 ?h ?_); (case h => walk_at "sql")) | ((with_reducible refine' r_forE2 ?h ?_); (case h => walk_at "sql"))
  | (with_reducible refine' r_lcR ?_) | ((with_reducible refine' r_iteT ?h ?_); (case h => rfl)) | ((with_reducible refine' r_iteF ?h ?_); (case h => rfl))
  | (with_reducible refine' r_dnew ?_) | (with_reducible refine' r_vei ?_) | (with_reducible refine' r_ost ?_) | (with_reducible refine' r_mkV ?_) | (with_reducible refine' r_mkX ?_) | (with_reducible refine' r_xfld ?_)
  | ((with_reducible refine' MkG.mk ?o ?n ?k ?_); (case o => exact ErrOk.o (by assumption)); (case n => exact ErrOk.no (by assumption)); (case k => assumption); intro _ _ _ _)
  | ((with_reducible refine' AllocX.mk ?k ?_); (case k => assumption); intro _ _ _ _)
  | (with_reducible refine' r_chain ?_) | (with_reducible refine' r_lcS ?_) | (with_reducible refine' r_lcS2 ?_) | (with_reducible refine' r_lcL ?_) | (with_reducible refine' r_lcT ?_) | (with_reducible refine' r_lcI ?_) | (with_reducible refine' r_yes ?_)
  | (with_reducible refine' r_fld ?_) | (with_reducible refine' r_sfld ?_) | (with_reducible refine' r_meth ?_) | (with_reducible refine' r_make ?_) | (with_reducible refine' r_dget ?_) | (with_reducible refine' r_din ?_) | (with_reducible refine' r_dput ?_)
  | ((with_reducible refine' r_disp ?k ?_); (case k => assumption); intro _ _ _ _) | (with_reducible refine' r_pnil ?_) | (with_reducible refine' r_pcons ?_)
  | (walk_at "al") | (walk_at "up"))
local macro_rules | `(tactic| walk_at "go") => `(tactic| repeat walk_at "st")

theorem un9 {A : Around} {k : Nat} (r : Room k A) : A.units + 9 < cLine := by
  have := un64 r
  omega
theorem un10 {A : Around} {k : Nat} (r : Room k A) : A.units + 10 < cLine := by
  have := un64 r
  omega
mutual
/-- a key as data -/
def datK : NK → PyData
  | .none => .none
  | .num i => .int i
  | .text x => .str x
  | .tup ks => .tuple (datKs ks)
def datKs : List NK → List PyData
  | [] => []
  | k :: ks => datK k :: datKs ks
end
mutual
theorem keyDp {K : PySem.W.Frag} {H : Hp} : ∀ (k : NK) (v : V), KeyV H v k → Dp K H v (datK k)
  | .none, _, h => by cases h
  | .num i, _, h => by cases h; exact .int _
  | .text x, _, h => by cases h; exact .str _
  | .tup ks, _, h => by
    cases h with
    | tup h t => exact .tup (SqT.of h) (keyDpA ks _ t)
theorem keyDpA {K : PySem.W.Frag} {H : Hp} : ∀ (ks : List NK) (vs : List V), KeyVs H vs ks → DpAll K H vs (datKs ks)
  | [], _, h => by cases h; exact .nil
  | k :: ks, _, h => by
    cases h with
    | cons h t => exact .cons (keyDp k _ h) (keyDpA ks _ t)
end
theorem keyStrs {H : Hp} : ∀ l : List Str, KeyVs H (l.map V.str) (l.map NestedKey.text)
  | [] => .nil
  | x :: l => .cons (.str x) (keyStrs l)
/-- the key of a method -/
def mKey (fn : Str) (sg : List Str) : NK := .tup [.text fn, .tup (sg.map NestedKey.text)]
theorem depth_texts : ∀ l : List Str, NestedKey.depthAll (l.map NestedKey.text) = 0
  | [] => rfl
  | x :: l => by
    show max 0 (NestedKey.depthAll (l.map NestedKey.text)) = 0
    rw [depth_texts l] <;> rfl
theorem mKey_depth (fn : Str) (sg : List Str) : (mKey fn sg).depth ≤ 8 := by
  show (max 0 (max (NestedKey.depthAll (sg.map NestedKey.text) + 1) 0)) + 1 ≤ 8
  rw [depth_texts]
  decide
theorem mKey_at {H : Hp} {a sa : Addr} {fn : Str} {sg : List Str} (h : H a = some (.tup [.str fn, .ref sa])) (hs : H sa = some (.tup (sg.map V.str))) : NKey H (.ref a) (mKey fn sg) := ⟨⟨a, rfl⟩, .tup h (.cons (.str _) (.cons (.tup hs (keyStrs _)) .nil)), mKey_depth fn sg⟩
/-- what a table has at a key, told against another value -/
def Stored (H : Hp) (kvs : List (NK × V)) (k bk : NK) (same : Bool) : Prop := (valV kvs k = none ∧ same = false) ∨ ∃ v e, valV kvs k = some v ∧ KeyV H v e ∧ SeqAt.shaped (datK e) = true ∧ PyData.eqv (datK e) (datK bk) = same
section
variable {P : Program} {w : World} {K : PySem.W.Frag} {mg : Str → Option Value} {base : Heap} {f : Addr} {fd : FuncData} {CK CR NC dl dw tc CP NB NFn NSg NTh : Addr}
theorem r_nin {td ty : TE} {σ : L2.St} {H : Hp} {Q : VK} (h : ty σ H fun y H1 => td σ H1 fun x H2 => ∃ a kvs k, x = .ref a ∧ NKey H2 y k ∧ Tb P w H2 a kvs ∧ Q (.bl (valV kvs k).isSome) H2) : tNIn P w ty td σ H Q := h
theorem r_nnot {td ty : TE} {σ : L2.St} {H : Hp} {Q : VK} (h : ty σ H fun y H1 => td σ H1 fun x H2 => ∃ a kvs k, x = .ref a ∧ NKey H2 y k ∧ Tb P w H2 a kvs ∧ Q (.bl (!(valV kvs k).isSome)) H2) : tNNot P w ty td σ H Q := h
theorem r_nget {td ty : TE} {σ : L2.St} {H : Hp} {Q : VK} (h : td σ H fun x H1 => ty σ H1 fun y H2 => ∃ a kvs k v, x = .ref a ∧ NKey H2 y k ∧ Tb P w H2 a kvs ∧ valV kvs k = some v ∧ Q v H2) : tNGet P w td ty σ H Q := h
theorem r_nput {td ty tv : TE} {D : Ends} {σ : L2.St} {H : Hp} (h : tv σ H fun v H1 => td σ H1 fun x H2 => ty σ H2 fun y H3 => ∃ a, x = .ref a ∧ NPut P w a y v (D.nx σ) H3) : sNPut P w td ty tv D σ H := h
theorem tbExt {H H' : Hp} {d : Addr} {kvs : List (NK × V)} (h : Tb P w H d kvs) (e : Wc.Ext H H') : Tb P w H' d kvs := h.fr e.mo fun o z _ => e _ _ z
theorem ndExt {H H' : Hp} {d : Addr} {kvs : List (NK × V)} (h : ND P w H d kvs) (e : Wc.Ext H H') : ND P w H' d kvs := h.fr e.mo fun o z _ => e _ _ z
def spCFn (K : PySem.W.Frag) (NFn : Addr) : Sp := fun vs H Q E => ∃ x tp, vs = [x] ∧ Th K H x tp ∧ (nameV x = true → ∀ H', Wc.Ext H H' → Q .non H') ∧ (nameV x = false → ExTo E H NFn "function" x)
theorem ok_check_function (F : FnP K "check_function" s_check_function f fd) (E_NoFunction : ErrOk P w K mg base "NoFunction" NFn "function") (D_is_name : DfOk P w K mg base CX0 1 "is_name" ["thing"] (spIsName K)) : FnOk P w K mg base (L2.CX P w) 3 f fd ["function"] (spCFn K NFn) := by
  refine F.ok sc_check_function (fun vs H Q E h => ?_) (fun cdv A outer s H vs Q E hr h => ?_)
  · obtain ⟨x, tp, rfl, _⟩ := h
    rfl
  · refine ⟨_, (pss_one (ps_if (pt_not (pt_val (pe_callD D_is_name hr (pa_cons (pv 0) pa_nil)))) (pss_one (ps_raiseE rfl (takes_of rfl rfl rfl rfl) E_NoFunction hr (pv 0))) pss_nil)), ?_⟩
    obtain ⟨x, tp, rfl, th, k1, k2⟩ := h
    rw [show L2.start ["function"] [x] = ([some (x)] : List (Option V)) from rfl]
    have kh := KH.start (H := H)
    walk_at "go"
    refine ⟨x, tp, rfl, th, fun H1 e1 => ?_⟩
    walk_at "go"
    cases hc : nameV x with
    | true =>
      walk_at "go"
      exact k1 hc _ e1
    | false =>
      walk_at "go"
      exact RsG.mk E_NoFunction.o E_NoFunction.no ((k2 hc).ext e1)
def spCSg (K : PySem.W.Frag) (CK CR NSg : Addr) : Sp := fun vs H Q E => ∃ r kd tl T n x d, vs = [.ref r, x] ∧ RtAt K CK CR H r kd tl T n ∧ DtAt K H x d ∧ (sigD T d = true → ∀ H', Wc.Ext H H' → Q .non H') ∧ (sigD T d = false → ExTo E H NSg "signature" x)
theorem ok_check_signature (F : FnP K "check_signature" s_check_signature f fd) (E_NoSignature : ErrOk P w K mg base "NoSignature" NSg "signature") (D_is_signature : DfOk P w K mg base CX0 3 "is_signature" ["runtime", "thing"] (spIsSig K CK CR)) : FnOk P w K mg base (L2.CX P w) 4 f fd ["runtime", "signature"] (spCSg K CK CR NSg) := by
  refine F.ok sc_check_signature (fun vs H Q E h => ?_) (fun cdv A outer s H vs Q E hr h => ?_)
  · obtain ⟨r, kd, tl, T, n, x, d, rfl, _⟩ := h
    rfl
  · refine ⟨_, (pss_one (ps_if (pt_not (pt_val (pe_callD D_is_signature hr (pa_cons (pv 0) (pa_cons (pv 1) pa_nil))))) (pss_one (ps_raiseE rfl (takes_of rfl rfl rfl rfl) E_NoSignature hr (pv 1))) pss_nil)), ?_⟩
    obtain ⟨r, kd, tl, T, n, x, d, rfl, R, dv, k1, k2⟩ := h
    rw [show L2.start ["runtime", "signature"] [V.ref r, x] = ([some (V.ref r), some (x)] : List (Option V)) from rfl]
    have kh := KH.start (H := H)
    walk_at "go"
    refine ⟨r, kd, tl, T, n, x, d, rfl, R, dv, fun H1 e1 => ?_⟩
    walk_at "go"
    cases hc : sigD T d with
    | true =>
      walk_at "go"
      exact k1 hc _ e1
    | false =>
      walk_at "go"
      exact RsG.mk E_NoSignature.o E_NoSignature.no ((k2 hc).ext e1)
def spDefIn (P : Program) (w : World) (K : PySem.W.Frag) (CK CR : Addr) : Sp := fun vs H Q _ => ∃ r kd tl T n fn sa sg bv bk ts tv kvs same, vs = [.ref r, .str fn, .ref sa, bv] ∧ RtAt K CK CR H r kd tl T n ∧ n < 50000 ∧ H sa = some (.tup (sg.map V.str)) ∧ KeyV H bv bk ∧ SeqAt.shaped (datK bk) = true ∧
  H tl = some (.lst ts) ∧ ts[n]? = some (.ref tv) ∧ Tb P w H tv kvs ∧ kvs.length ≤ 1 ∧ Stored H kvs (mKey fn sg) bk same ∧ (same = true → ∀ H', Wc.Ext H H' → Q (.int (n : Nat)) H') ∧
  (same = false → ∀ td H', H td = none → Fr [tl] H H' → RtAt K CK CR H' r kd tl T (n + 1) → H' tl = some (.lst (ts ++ [.ref td])) → ND P w H' td (putK kvs (mKey fn sg) bv) → Q (.int ((n + 1 : Nat) : Int)) H')
theorem ok_define_in (F : FnP K "define_in" s_define_in f fd) (T : Bt mg) (C : Cs K CK CR) (hD : mg "dict" = none) (M_newest : MtOk P w K mg base CX0 1 CR "newest" ["self"] (spNewest K CK CR)) (M_table : MtOk P w K mg base CX0 1 CR "table" ["self", "world"] (spTable K CK CR)) (M_add_world : MtOk P w K mg base CX0 2 CR "add_world" ["self", "table"] (spAddWorld K CK CR)) :
    FnOk P w K mg base CX0 3 f fd ["runtime", "function", "signature", "body"] (spDefIn P w K CK CR) := by
  refine F.ok sc_define_in (fun vs H Q E h => ?_) (fun cdv A outer s H vs Q E hr h => ?_)
  · obtain ⟨r, kd, tl, T, n, fn, sa, sg, bv, bk, ts, tv, kvs, same, rfl, _⟩ := h
    rfl
  · refine ⟨_, PSs.nox (pss_cons (ps_set (i := 4) sc_define_in.nd rfl (by first | exact Or.inl rfl | exact Or.inr rfl) (pe_methC M_table hr (pv 0) (pa_cons (pe_methC0 M_newest hr (pv 0)) pa_nil)))
      (pss_cons (ps_if (PW.pt (pw_and (pt_cmp (pc_nin (un9 hr) (pe_tup (pa_cons (pv 1) (pa_cons (pv 2) pa_nil))) (pv 4))) (pw_and1 (pt_cmpR (op_eqD (un64 hr)) (pe_nget (un9 hr) (pv 4) (pe_tup (pa_cons (pv 1) (pa_cons (pv 2) pa_nil))) (fun _ _ => rfl)) (pv 3) (nomark _))))) (pss_one (ps_ret (pe_methC0 M_newest hr (pv 0)))) pss_nil)
      (pss_cons (ps_set (i := 5) sc_define_in.nd rfl (by first | exact Or.inl rfl | exact Or.inr rfl) (pe_callTy (call_ncopy (un10 hr)) (by rfl) hD PyProof.Rows.boot_dict (pa_cons (pv 4) pa_nil)))
      (pss_cons (ps_nput (un9 hr) (pv 5) (pe_tup (pa_cons (pv 1) (pa_cons (pv 2) pa_nil))) (pv 3) rfl)
      (pss_one (ps_ret (pe_methC M_add_world hr (pv 0) (pa_cons (pv 5) pa_nil)))))))), ?_⟩
    obtain ⟨r, kd, tl, T, n, fn, sa, sg, bv, bk, ts, tv, kvs, same, rfl, R, hn, hsa, hb, hbs, htl, htv, tb, hl, st, k1, k2⟩ := h
    rw [show L2.start ["runtime", "function", "signature", "body", "table", "later"] [V.ref r, V.str fn, V.ref sa, bv] = ([some (V.ref r), some (V.str fn), some (V.ref sa), some (bv), none, none] : List (Option V)) from rfl]
    have kh := KH.start (H := H)
    walk_at "go"
    obtain ⟨⟨dx, fs, h1, hs1, hs2, hs3⟩, _⟩ := id R
    refine ⟨r, dx, _, rfl, h1, hs2, ?_⟩
    walk_at "go"
    refine ⟨r, dx, _, rfl, h1, hs1, ?_⟩
    walk_at "go"
    refine ⟨r, kd, tl, T, n, rfl, R, ?_⟩
    walk_at "go"
    refine ⟨r, kd, tl, T, n, n, rfl, R, Nat.le_refl _, fun ts3 tv3 hts3 htv3 => ?_⟩
    obtain rfl : ts = ts3 := by
      rw [htl] at hts3
      cases hts3
      rfl
    obtain rfl : V.ref tv = tv3 := Option.some.inj (htv.symm.trans htv3)
    walk_at "go"
    refine r_nin ?_
    walk_at "go"
    rename_i p1 H1 n1 kk1
    have e01 := kk1.extE
    refine ⟨tv, kvs, mKey fn sg, rfl, mKey_at (kk1.find .here) (e01 _ _ hsa), tbExt tb e01, ?_⟩
    walk_at "go"
    rcases st with ⟨hv, rfl⟩ | ⟨v, e, hv, hke, hse, heq⟩
    · rw [hv, show (none : Option V).isSome = false from rfl]
      walk_at "go"
      refine ⟨tv, kvs, rfl, tbExt tb e01, hl, fun td H5 ntd e5 nd => ?_⟩
      have e05 : Wc.Ext H H5 := Wc.Ext.trans e01 e5
      have k5 := KH.start (H := H5)
      walk_at "go"
      refine r_nput ?_
      walk_at "go"
      rename_i p6 H6 n6 k6
      have e06 := e05.trans k6.extE
      have ntd0 : H td = none := Wc.Ext.free e01 ntd
      refine ⟨td, rfl, kvs, mKey fn sg, mKey_at (k6.find .here) (e06 _ _ hsa), .inl (ndExt nd k6.extE), sz_lt (by omega), fun H7 f7 m7 nd7 => ?_⟩
      have e07 : Wc.Ext H H7 := e06.frN f7 ntd0
      walk_at "go"
      refine ⟨r, dx, _, rfl, e07 _ _ h1, hs3, ?_⟩
      walk_at "go"
      refine ⟨r, kd, tl, T, n, .ref td, rfl, R.ext e07, hn, fun ts8 H8 hts8 f8 R8 hl8 => ?_⟩
      have ht7 := e07 _ _ htl
      obtain rfl : ts = ts8 := by
        rw [ht7] at hts8
        cases hts8
        rfl
      have ntt : td ≠ tl := fun z => by
        rw [z, htl] at ntd0
        cases ntd0
      exact k2 rfl td H8 ntd0 (e07.fr.trans f8) R8 hl8 (nd7.fr (Mo.fr1 f8 ht7 rfl) fun o z _ => f8 _ _ (by simpa using ntt) z)
    · rw [hv, show (some v : Option V).isSome = true from rfl]
      walk_at "go"
      refine r_nget ?_
      walk_at "go"
      rename_i p2 H2 n2 kk2
      have e02 := kk2.extE
      refine ⟨tv, kvs, mKey fn sg, v, rfl, mKey_at (kk2.find .here) (e02 _ _ hsa), tbExt tb e02, hv, ?_⟩
      walk_at "go"
      refine ⟨datK e, datK bk, keyDp _ _ (hke.mo e02.mo), keyDp _ _ (hb.mo e02.mo), hse, hbs, ?_⟩
      rw [heq]
      cases same with
      | true =>
        walk_at "go"
        refine ⟨r, dx, _, rfl, e02 _ _ h1, hs1, ?_⟩
        walk_at "go"
        refine ⟨r, kd, tl, T, n, rfl, R.ext e02, ?_⟩
        exact k1 rfl _ e02
      | false =>
        walk_at "go"
        refine ⟨tv, kvs, rfl, tbExt tb e02, hl, fun td H5 ntd e5 nd => ?_⟩
        have e05 : Wc.Ext H H5 := Wc.Ext.trans e02 e5
        have k5 := KH.start (H := H5)
        walk_at "go"
        refine r_nput ?_
        walk_at "go"
        rename_i p6 H6 n6 k6
        have e06 := e05.trans k6.extE
        have ntd0 : H td = none := Wc.Ext.free e02 ntd
        refine ⟨td, rfl, kvs, mKey fn sg, mKey_at (k6.find .here) (e06 _ _ hsa), .inl (ndExt nd k6.extE), sz_lt (by omega), fun H7 f7 m7 nd7 => ?_⟩
        have e07 : Wc.Ext H H7 := e06.frN f7 ntd0
        walk_at "go"
        refine ⟨r, dx, _, rfl, e07 _ _ h1, hs3, ?_⟩
        walk_at "go"
        refine ⟨r, kd, tl, T, n, .ref td, rfl, R.ext e07, hn, fun ts8 H8 hts8 f8 R8 hl8 => ?_⟩
        have ht7 := e07 _ _ htl
        obtain rfl : ts = ts8 := by
          rw [ht7] at hts8
          cases hts8
          rfl
        have ntt : td ≠ tl := fun z => by
          rw [z, htl] at ntd0
          cases ntd0
        exact k2 rfl td H8 ntd0 (e07.fr.trans f8) R8 hl8 (nd7.fr (Mo.fr1 f8 ht7 rfl) fun o z _ => f8 _ _ (by simpa using ntt) z)
end
end K10


set_option Elab.async false
set_option linter.all false
set_option maxRecDepth 100000
set_option maxHeartbeats 4000000
namespace K10
open PySem PySem.Spec PyProof.Rows L2 Wc
local macro_rules | `(tactic| walk_at "lk") => `(tactic| first | with_reducible exact Look.here | (with_reducible apply Look.there; walk_at "lk"))
local macro_rules | `(tactic| walk_at "ul") => `(tactic| first | with_reducible exact UpL.here | (with_reducible apply UpL.there; walk_at "ul"))
local macro_rules | `(tactic| walk_at "ga") => `(tactic| first | exact GetAt.here | (apply GetAt.there; walk_at "ga"))
local macro_rules | `(tactic| walk_at "sa") => `(tactic| first | exact SetAt.here | (apply SetAt.there; walk_at "sa"))
local macro_rules | `(tactic| walk_at "hp") => `(tactic| first | assumption | (refine' KH.find ?k ?h; (case k => assumption); (case h => walk_at "lk")))
local macro_rules | `(tactic| walk_at "sql") => `(tactic| first | assumption | (refine' SqL.of ?h; (case h => walk_at "hp")) | (refine' Fr.sql (KH.fr ?k) ?n ?h; (case k => assumption); (case h => assumption); (case n => (simp; done))))
local macro_rules | `(tactic| walk_at "sqt") => `(tactic| first | assumption | (refine' SqT.of ?h; (case h => walk_at "hp")))
local macro_rules | `(tactic| walk_at "side") => `(tactic| first | exact (show (0 : Int) < _ by decide) | exact (show (0 : Int) < _ by omega) | exact ⟨by decide, by decide, by decide⟩ | exact ⟨by decide, by decide, by omega⟩ | exact ⟨by decide, by decide⟩ | exact ⟨by omega, by omega⟩ | exact Or.inl ⟨by omega, by omega⟩ | exact Or.inr ⟨by omega, by omega⟩)
local macro_rules | `(tactic| walk_at "siz") => `(tactic| first | (refine sz_of ?_; first | decide | omega | (simp; done) | (simp; omega)) | (refine sz_lt ?_; first | decide | omega | (simp; done) | (simp; omega)))
local macro_rules | `(tactic| walk_at "own") => `(tactic| first | (exact Or.inr (by assumption)) | (refine Or.inl ?_; simp; done))
local macro_rules | `(tactic| walk_at "al") => `(tactic| (refine' AllocO.mk ?k ?_; (case k => assumption); intro _ _ _ _))
local macro_rules | `(tactic| walk_at "up") => `(tactic| (refine' UpdO.mk ?k ?h ?m ?_; (case k => assumption); (case h => walk_at "ul"); (case m => walk_at "own"); intro _ _))
local macro_rules | `(tactic| walk_at "st") => `(tactic| first
  | ((with_reducible refine' r_var ?h ?_); (case h => walk_at "ga"))
  | (with_reducible refine' r_seq ?_) | (with_reducible refine' r_next ?_) | (with_reducible refine' r_asg ?_) | (with_reducible refine' r_drop ?_) | (with_reducible refine' r_ret ?_) | (with_reducible refine' r_retN ?_)
  | (with_reducible refine' r_ifs ?_) | (with_reducible refine' r_cont ?_) | (with_reducible refine' r_break ?_) | (with_reducible refine' r_c ?_) | (with_reducible refine' r_op ?_) | (with_reducible refine' r_un ?_)
  | (with_reducible refine' r_test ?_) | (with_reducible refine' r_tB ?_) | (with_reducible refine' r_not ?_) | (with_reducible refine' r_and ?_) | (with_reducible refine' r_or ?_) | (with_reducible refine' r_notV ?_)
  | (with_reducible refine' r_andV ?_) | (with_reducible refine' r_orV ?_) | (with_reducible refine' r_ifE ?_) | (with_reducible refine' r_bl ?_) | (with_reducible refine' r_nil ?_) | (with_reducible refine' r_cons ?_)
  | (with_reducible refine' r_tup ?_) | (with_reducible refine' r_lst ?_) | (with_reducible refine' r_cb ?_) | (with_reducible refine' r_call ?_) | ((with_reducible refine' r_name ?h ?_); (case h => walk_at "sa")) | (with_reducible refine' r_gnil ?_)
  | (with_reducible refine' r_gcons ?_) | (with_reducible refine' r_gsub ?_) | (with_reducible refine' r_par ?_) | (with_reducible refine' r_par2 ?_) | (with_reducible refine' r_I0 ?_) | (with_reducible refine' r_U ?_)
  | ((with_reducible refine' r_eq ?h ?_); (case h => rfl)) | ((with_reducible refine' r_ne ?h ?_); (case h => rfl))
  | ((with_reducible refine' r_ixL ?h ?a ?_); (case h => walk_at "sql"); (case a => rfl))
  | ((with_reducible refine' r_ixT ?h ?a ?_); (case h => walk_at "sqt"); (case a => rfl))
  | ((with_reducible refine' r_setL ?h ?a ?_); (case h => walk_at "hp"); (case a => rfl))
  | ((with_reducible refine' r_I ?c ?_); (case c => walk_at "side"))
  | (with_reducible refine' r_sl ?_) | (with_reducible refine' r_part ?_) | (with_reducible refine' r_nopart ?_) | (with_reducible refine' r_ii ?_)
  | ((with_reducible refine' r_slL ?h ?_); (case h => walk_at "sql"))
  | (with_reducible refine' r_bm ?_) | (with_reducible refine' r_bm0 ?_) | (with_reducible refine' r_int1 ?_) | (with_reducible refine' r_int1b ?_)
  | ((with_reducible refine' r_aug ?h ?_); (case h => walk_at "ga"))
  | ((with_reducible refine' r_cat ?a ?b ?z ?_); (case a => walk_at "hp"); (case b => walk_at "hp"); (case z => walk_at "siz"))
  | ((with_reducible refine' r_append ?a ?z ?_); (case a => walk_at "hp"); (case z => walk_at "siz"))
  | ((with_reducible refine' And.intro ?z ?_); (case z => first | walk_at "siz" | exact Or.inl ⟨rfl, _, by walk_at "sql"⟩))
  | ((with_reducible refine' r_gtup ?h ?l ?_); (case h => walk_at "sqt"); (case l => rfl))
  | (with_reducible refine' r_forL ?_) | (with_reducible refine' r_forE ?_) | (with_reducible refine' r_forR ?_) | ((with_reducible refine' r_forL2 ?h ?_); (case h => walk_at "sql")) | ((with_reducible refine' r_forE2 ?h ?_); (case h => walk_at "sql"))
  | (with_reducible refine' r_lcR ?_) | ((with_reducible refine' r_iteT ?h ?_); (case h => rfl)) | ((with_reducible refine' r_iteF ?h ?_); (case h => rfl))
  | (with_reducible refine' r_dnew ?_) | (with_reducible refine' r_vei ?_) | (with_reducible refine' r_ost ?_) | (with_reducible refine' r_mkV ?_) | (with_reducible refine' r_mkX ?_) | (with_reducible refine' r_xfld ?_)
  | ((with_reducible refine' MkG.mk ?o ?n ?k ?_); (case o => exact ErrOk.o (by assumption)); (case n => exact ErrOk.no (by assumption)); (case k => assumption); intro _ _ _ _)
  | ((with_reducible refine' AllocX.mk ?k ?_); (case k => assumption); intro _ _ _ _)
  | (with_reducible refine' r_chain ?_) | (with_reducible refine' r_lcS ?_) | (with_reducible refine' r_lcS2 ?_) | (with_reducible refine' r_lcL ?_) | (with_reducible refine' r_lcT ?_) | (with_reducible refine' r_lcI ?_) | (with_reducible refine' r_yes ?_)
  | (with_reducible refine' r_fld ?_) | (with_reducible refine' r_sfld ?_) | (with_reducible refine' r_meth ?_) | (with_reducible refine' r_make ?_) | (with_reducible refine' r_dget ?_) | (with_reducible refine' r_din ?_) | (with_reducible refine' r_dput ?_)
  | ((with_reducible refine' r_disp ?k ?_); (case k => assumption); intro _ _ _ _) | (with_reducible refine' r_pnil ?_) | (with_reducible refine' r_pcons ?_)
  | (walk_at "al") | (walk_at "up"))
local macro_rules | `(tactic| walk_at "go") => `(tactic| repeat walk_at "st")

def tNPop (P : Program) (w : World) (td ty : TE) : TE := fun σ H Q => td σ H fun x H1 => ∃ a, x = .ref a ∧ (∃ kvs, Tb P w H1 a kvs) ∧ ty σ H1 fun y H2 => rNPop P w (.ref a) [y] H2 Q
theorem pe_npop {X : Cx} {o e : Expr} {apos cpos : Pos} {td ty : TE} (hu : X.A.units + 9 < cLine) (ho : PE X o td) (he : PE X e ty) (m : M1 X o "pop" apos e cpos) : PE X (.Call (.Attribute o "pop" apos) [e] [] cpos) (tNPop X.prog X.w td ty) := by
  refine ⟨fun pins s σ H Q I h => ?_⟩
  refine wpAny_Call_method m.base m.few m.line PySem.F.plainAttrs_dict PySem.F.slot_dict_pop PySem.F.type_dict_pop (thn (ho.run pins s σ H _ I h) fun u s1 ⟨x, H1, I1, rx, a, ex, ⟨kvs, tb⟩, q1⟩ => ?_)
  subst ex
  obtain rfl : u = Value.ref a := rx
  obtain ⟨xs, dd, _⟩ := tb.at_ I1.hok
  refine ⟨dd.typeIs, fun b e => ?_, ?_⟩
  · cases e
    obtain ⟨o, es, ep, g1, g2, _⟩ := dd
    exact ⟨o, g1, g2.2.1⟩
  rw [m.trees]
  refine Calls.callWith_builtin rfl (Calls.evalArgs_plain (Calls.spliced_cons (thn (he.run pins s1 σ H1 _ I1 q1) fun iv s2 ⟨y, H2, I2, ry, q2⟩ => Calls.spliced_nil ?_)))
  exact mt_npop hu pins s2 σ H2 (.ref a) [y] (.ref a) [iv] Q I2 rfl (.cons ry .nil) q2
theorem r_npop {P : Program} {w : World} {td ty : TE} {σ : L2.St} {H : Hp} {Q : VK} (h : td σ H fun x H1 => ∃ a, x = .ref a ∧ (∃ kvs, Tb P w H1 a kvs) ∧ ty σ H1 fun y H2 => rNPop P w (.ref a) [y] H2 Q) : tNPop P w td ty σ H Q := h
section
variable {P : Program} {w : World} {K : PySem.W.Frag} {mg : Str → Option Value} {base : Heap} {f : Addr} {fd : FuncData} {CK CR NC dl dw tc CP NB NFn NSg NTh : Addr}
def sgD (sg : List Str) : Dt := .tup (sg.map Dt.str)
theorem sgD_at {H : Hp} {sa : Addr} {sg : List Str} (h : H sa = some (.tup (sg.map V.str))) (hl : sg.length ≤ 1000) (hs : ∀ x, x ∈ sg → x.length ≤ 1000) : DtAt K H (.ref sa) (sgD sg) := by
  have go : ∀ l : List Str, (∀ x, x ∈ l → x.length ≤ 1000) → DtAll K H (l.map V.str) (l.map Dt.str) := fun l => by
    induction l with
    | nil => exact fun _ => .nil
    | cons x l ih => exact fun z => .cons (.str (z x List.mem_cons_self)) (ih fun y hy => z y (List.mem_cons_of_mem _ hy))
  exact .tup h (by rw [List.length_map]; exact hl) (go sg hs)
def spDefine (P : Program) (w : World) (K : PySem.W.Frag) (CK CR NB : Addr) : Sp := fun vs H Q E => ∃ r kd tl T n fn sa sg bv d, vs = [.ref r, .str fn, .ref sa, bv] ∧ RtAt K CK CR H r kd tl T n ∧ (∀ c, c ∈ T → c.all.length ≤ 1000) ∧ nameS fn = true ∧ fn.length ≤ 1000 ∧ H sa = some (.tup (sg.map V.str)) ∧ sg.length ≤ 1000 ∧ (∀ x, x ∈ sg → x.length ≤ 1000) ∧ sigD T (sgD sg) = true ∧ DtAt K H bv d ∧
  (∀ l, chk T 24 [⟨d, [], sg.length, []⟩] = some l → ∀ e t H', Wc.Ext H H' → H e = none → H' e = some (.xd [("path", .ref t)]) → H' t = some (.tup (l.map fun n => V.int (n : Nat))) → E (.ref NB) (some e) H') ∧
  (chk T 24 [⟨d, [], sg.length, []⟩] = none → ∃ bk ts tv kvs same, n < 50000 ∧ KeyV H bv bk ∧ SeqAt.shaped (datK bk) = true ∧ H tl = some (.lst ts) ∧ ts[n]? = some (.ref tv) ∧ Tb P w H tv kvs ∧ kvs.length ≤ 1 ∧ Stored H kvs (mKey fn sg) bk same ∧ (same = true → ∀ H', Wc.Ext H H' → Q (.int (n : Nat)) H') ∧
    (same = false → ∀ td H', H td = none → Fr [tl] H H' → RtAt K CK CR H' r kd tl T (n + 1) → H' tl = some (.lst (ts ++ [.ref td])) → ND P w H' td (putK kvs (mKey fn sg) bv) → Q (.int ((n + 1 : Nat) : Int)) H'))
theorem Stored.ext {H H' : Hp} {kvs : List (NK × V)} {k bk : NK} {same : Bool} (h : Stored H kvs k bk same) (e : Wc.Ext H H') : Stored H' kvs k bk same := by
  rcases h with h | ⟨v, e1, h1, h2, h3⟩
  · exact .inl h
  · exact .inr ⟨v, e1, h1, h2.mo e.mo, h3⟩
theorem ok_define (F : FnP K "define" s_define f fd) (T : Bt mg) (D_check_function : DfOk P w K mg base (L2.CX P w) 3 "check_function" ["function"] (spCFn K NFn)) (D_check_signature : DfOk P w K mg base (L2.CX P w) 4 "check_signature" ["runtime", "signature"] (spCSg K CK CR NSg)) (D_check_valid : DfOk P w K mg base (L2.CX P w) 5 "check_valid" ["runtime", "body", "count"] (spCV K CK CR NB))
    (D_define_in : DfOk P w K mg base CX0 3 "define_in" ["runtime", "function", "signature", "body"] (spDefIn P w K CK CR)) : FnOk P w K mg base (L2.CX P w) 6 f fd ["runtime", "function", "signature", "body"] (spDefine P w K CK CR NB) := by
  refine F.ok sc_define (fun vs H Q E h => ?_) (fun cdv A outer s H vs Q E hr h => ?_)
  · obtain ⟨r, kd, tl, T, n, fn, sa, sg, bv, d, rfl, _⟩ := h
    rfl
  · refine ⟨_, (pss_cons (ps_expr (pe_callDX (E := E) D_check_function hr (passes_call (takes_of rfl rfl rfl rfl) (fun _ _ _ _ z => z)) (pa_cons (pv 1) pa_nil)))
      (pss_cons (ps_expr (pe_callDX (E := E) D_check_signature hr (passes_call (takes_of rfl rfl rfl rfl) (fun _ _ _ _ z => z)) (pa_cons (pv 0) (pa_cons (pv 2) pa_nil))))
      (pss_cons (ps_expr (pe_callDX (E := E) D_check_valid hr (passes_call (takes_of rfl rfl rfl rfl) (fun _ _ _ _ z => z)) (pa_cons (pv 0) (pa_cons (pv 3) (pa_cons (pe_callB call_len_seq (by rfl) T.f_len PySem.boot_len (pa_cons (pv 2) pa_nil)) pa_nil)))))
      (pss_one (ps_ret (pe_callD D_define_in hr (pa_cons (pv 0) (pa_cons (pv 1) (pa_cons (pv 2) (pa_cons (pv 3) pa_nil)))))))))), ?_⟩
    obtain ⟨r, kd, tl, T, n, fn, sa, sg, bv, d, rfl, R, hT, hfn, hfl, hsa, hsl, hsx, hsg, dv, kE, kN⟩ := h
    rw [show L2.start ["runtime", "function", "signature", "body"] [V.ref r, V.str fn, V.ref sa, bv] = ([some (V.ref r), some (V.str fn), some (V.ref sa), some (bv)] : List (Option V)) from rfl]
    have kh := KH.start (H := H)
    walk_at "go"
    refine ⟨.str fn, none, rfl, .str hfl, fun _ H1 e1 => ?_, fun z => by rw [show nameV (.str fn) = true from hfn] at z; cases z⟩
    walk_at "go"
    refine ⟨r, kd, tl, T, n, .ref sa, sgD sg, rfl, R.ext e1, sgD_at (e1 _ _ hsa) hsl hsx, fun _ H2 e2 => ?_, fun z => by rw [hsg] at z; cases z⟩
    have e02 := e1.trans e2
    walk_at "go"
    refine ⟨sa, _, rfl, .inr (SqT.of (e02 _ _ hsa)), ?_⟩
    walk_at "go"
    refine ⟨r, kd, tl, T, n, bv, d, sg.length, by rw [List.length_map] <;> rfl, R.ext e02, hT, dtExt e02 _ _ dv, fun hc H3 e3 => ?_, fun l hl e t H3 e3 he hx ht => kE l hl e t H3 (e02.trans e3) (e02.free he) hx ht⟩
    obtain ⟨bk, ts, tv, kvs, same, hn, hb, hbs, htl, htv, tb, hkl, st, k1, k2⟩ := kN hc
    have e03 := e02.trans e3
    walk_at "go"
    refine ⟨r, kd, tl, T, n, fn, sa, sg, bv, bk, ts, tv, kvs, same, rfl, R.ext e03, hn, e03 _ _ hsa, hb.mo e03.mo, hbs, e03 _ _ htl, htv, tbExt tb e03, hkl, st.ext e03, fun hs H4 e4 => k1 hs H4 (e03.trans e4), fun hs td H4 ntd f4 R4 hl4 nd => k2 hs td H4 (e03.free ntd) (e03.fr.trans f4) R4 hl4 nd⟩
def spDelete (P : Program) (w : World) (K : PySem.W.Frag) (CK CR NTh : Addr) : Sp := fun vs H Q E => ∃ r kd tl T n fn sa sg ts tv kvs, vs = [.ref r, .str fn, .ref sa] ∧ RtAt K CK CR H r kd tl T n ∧ n < 50000 ∧ nameS fn = true ∧ fn.length ≤ 1000 ∧ H sa = some (.tup (sg.map V.str)) ∧ sg.length ≤ 1000 ∧ (∀ x, x ∈ sg → x.length ≤ 1000) ∧ sigD T (sgD sg) = true ∧
  H tl = some (.lst ts) ∧ ts[n]? = some (.ref tv) ∧ Tb P w H tv kvs ∧ kvs.length ≤ 1 ∧ (valV kvs (mKey fn sg) = none → ExTo E H NTh "signature" (.ref sa)) ∧
  (∀ v, valV kvs (mKey fn sg) = some v → ∀ td H', H td = none → Fr [tl] H H' → RtAt K CK CR H' r kd tl T (n + 1) → H' tl = some (.lst (ts ++ [.ref td])) → ND P w H' td (dropK kvs (mKey fn sg)) → Q (.int ((n + 1 : Nat) : Int)) H')
end
end K10


set_option Elab.async false
set_option linter.all false
set_option maxRecDepth 100000
set_option maxHeartbeats 4000000
namespace K10
open PySem L2 Wc
local macro_rules | `(tactic| walk_at "lk") => `(tactic| first | with_reducible exact Look.here | (with_reducible apply Look.there; walk_at "lk"))
local macro_rules | `(tactic| walk_at "ul") => `(tactic| first | with_reducible exact UpL.here | (with_reducible apply UpL.there; walk_at "ul"))
local macro_rules | `(tactic| walk_at "ga") => `(tactic| first | exact GetAt.here | (apply GetAt.there; walk_at "ga"))
local macro_rules | `(tactic| walk_at "sa") => `(tactic| first | exact SetAt.here | (apply SetAt.there; walk_at "sa"))
local macro_rules | `(tactic| walk_at "hp") => `(tactic| first | assumption | (refine' KH.find ?k ?h; (case k => assumption); (case h => walk_at "lk")))
local macro_rules | `(tactic| walk_at "sql") => `(tactic| first | assumption | (refine' SqL.of ?h; (case h => walk_at "hp")) | (refine' Fr.sql (KH.fr ?k) ?n ?h; (case k => assumption); (case h => assumption); (case n => (simp; done))))
local macro_rules | `(tactic| walk_at "sqt") => `(tactic| first | assumption | (refine' SqT.of ?h; (case h => walk_at "hp")))
local macro_rules | `(tactic| walk_at "side") => `(tactic| first | exact (show (0 : Int) < _ by decide) | exact (show (0 : Int) < _ by omega) | exact ⟨by decide, by decide, by decide⟩ | exact ⟨by decide, by decide, by omega⟩ | exact ⟨by decide, by decide⟩ | exact ⟨by omega, by omega⟩ | exact Or.inl ⟨by omega, by omega⟩ | exact Or.inr ⟨by omega, by omega⟩)
local macro_rules | `(tactic| walk_at "siz") => `(tactic| first | (refine sz_of ?_; first | decide | omega | (simp; done) | (simp; omega)) | (refine sz_lt ?_; first | decide | omega | (simp; done) | (simp; omega)))
local macro_rules | `(tactic| walk_at "own") => `(tactic| first | (exact Or.inr (by assumption)) | (refine Or.inl ?_; simp; done))
local macro_rules | `(tactic| walk_at "al") => `(tactic| (refine' AllocO.mk ?k ?_; (case k => assumption); intro _ _ _ _))
local macro_rules | `(tactic| walk_at "up") => `(tactic| (refine' UpdO.mk ?k ?h ?m ?_; (case k => assumption); (case h => walk_at "ul"); (case m => walk_at "own"); intro _ _))
local macro_rules | `(tactic| walk_at "st") => `(tactic| first
  | ((with_reducible refine' r_var ?h ?_); (case h => walk_at "ga"))
  | (with_reducible refine' r_seq ?_) | (with_reducible refine' r_next ?_) | (with_reducible refine' r_asg ?_) | (with_reducible refine' r_drop ?_) | (with_reducible refine' r_ret ?_) | (with_reducible refine' r_retN ?_)
  | (with_reducible refine' r_ifs ?_) | (with_reducible refine' r_cont ?_) | (with_reducible refine' r_break ?_) | (with_reducible refine' r_c ?_) | (with_reducible refine' r_op ?_) | (with_reducible refine' r_un ?_)
  | (with_reducible refine' r_test ?_) | (with_reducible refine' r_tB ?_) | (with_reducible refine' r_not ?_) | (with_reducible refine' r_and ?_) | (with_reducible refine' r_or ?_) | (with_reducible refine' r_notV ?_)
  | (with_reducible refine' r_andV ?_) | (with_reducible refine' r_orV ?_) | (with_reducible refine' r_ifE ?_) | (with_reducible refine' r_bl ?_) | (with_reducible refine' r_nil ?_) | (with_reducible refine' r_cons ?_)
  | (with_reducible refine' r_tup ?_) | (with_reducible refine' r_lst ?_) | (with_reducible refine' r_cb ?_) | (with_reducible refine' r_call ?_) | ((with_reducible refine' r_name ?h ?_); (case h => walk_at "sa")) | (with_reducible refine' r_gnil ?_)
  | (with_reducible refine' r_gcons ?_) | (with_reducible refine' r_gsub ?_) | (with_reducible refine' r_par ?_) | (with_reducible refine' r_par2 ?_) | (with_reducible refine' r_I0 ?_) | (with_reducible refine' r_U ?_)
  | ((with_reducible refine' r_eq ?h ?_); (case h => rfl)) | ((with_reducible refine' r_ne ?h ?_); (case h => rfl))
  | ((with_reducible refine' r_ixL ?h ?a ?_); (case h => walk_at "sql"); (case a => rfl))
  | ((with_reducible refine' r_ixT ?h ?a ?_); (case h => walk_at "sqt"); (case a => rfl))
  | ((with_reducible refine' r_setL ?h ?a ?_); (case h => walk_at "hp"); (case a => rfl))
  | ((with_reducible refine' r_I ?c ?_); (case c => walk_at "side"))
  | (with_reducible refine' r_sl ?_) | (with_reducible refine' r_part ?_) | (with_reducible refine' r_nopart ?_) | (with_reducible refine' r_ii ?_)
  | ((with_reducible refine' r_slL ?h ?_); (case h => walk_at "sql"))
  | (with_reducible refine' r_bm ?_) | (with_reducible refine' r_bm0 ?_) | (with_reducible refine' r_int1 ?_) | (with_reducible refine' r_int1b ?_)
  | ((with_reducible refine' r_aug ?h ?_); (case h => walk_at "ga"))
  | ((with_reducible refine' r_cat ?a ?b ?z ?_); (case a => walk_at "hp"); (case b => walk_at "hp"); (case z => walk_at "siz"))
  | ((with_reducible refine' r_append ?a ?z ?_); (case a => walk_at "hp"); (case z => walk_at "siz"))
  | ((with_reducible refine' And.intro ?z ?_); (case z => first | walk_at "siz" | exact Or.inl ⟨rfl, _, by walk_at "sql"⟩))
  | ((with_reducible refine' r_gtup ?h ?l ?_); (case h => walk_at "sqt"); (case l => rfl))
  | (with_reducible refine' r_forL ?_) | (with_reducible refine' r_forE ?_) | (with_reducible refine' r_forR ?_) | ((with_reducible refine' r_forL2 ?h ?_); (case h => walk_at "sql")) | ((with_reducible refine' r_forE2 ?h ?_); (case h => walk_at "sql"))
  | (with_reducible refine' r_lcR ?_) | ((with_reducible refine' r_iteT ?h ?_); (case h => rfl)) | ((with_reducible refine' r_iteF ?h ?_); (case h => rfl))
  | (with_reducible refine' r_dnew ?_) | (with_reducible refine' r_vei ?_) | (with_reducible refine' r_ost ?_) | (with_reducible refine' r_mkV ?_) | (with_reducible refine' r_mkX ?_) | (with_reducible refine' r_xfld ?_)
  | ((with_reducible refine' MkG.mk ?o ?n ?k ?_); (case o => exact ErrOk.o (by assumption)); (case n => exact ErrOk.no (by assumption)); (case k => assumption); intro _ _ _ _)
  | ((with_reducible refine' AllocX.mk ?k ?_); (case k => assumption); intro _ _ _ _)
  | (with_reducible refine' r_chain ?_) | (with_reducible refine' r_lcS ?_) | (with_reducible refine' r_lcS2 ?_) | (with_reducible refine' r_lcL ?_) | (with_reducible refine' r_lcT ?_) | (with_reducible refine' r_lcI ?_) | (with_reducible refine' r_yes ?_)
  | (with_reducible refine' r_fld ?_) | (with_reducible refine' r_sfld ?_) | (with_reducible refine' r_meth ?_) | (with_reducible refine' r_make ?_) | (with_reducible refine' r_dget ?_) | (with_reducible refine' r_din ?_) | (with_reducible refine' r_dput ?_)
  | ((with_reducible refine' r_disp ?k ?_); (case k => assumption); intro _ _ _ _) | (with_reducible refine' r_pnil ?_) | (with_reducible refine' r_pcons ?_)
  | (walk_at "al") | (walk_at "up"))
local macro_rules | `(tactic| walk_at "go") => `(tactic| repeat walk_at "st")

/-- the world that a value names -/
def worldI (n : Nat) : V → Option Nat
  | .non => some n
  | .int i => if 0 ≤ i ∧ i ≤ (n : Int) then some i.toNat else none
  | _ => none
theorem worldI_bet {K : PySem.W.Frag} {H : Hp} {x : V} {d : Dt} {n : Nat} (h : DtAt K H x d) (hx : x ≠ .non) : (betD 0 (n : Int) d = true → ∃ m : Nat, x = .int (m : Nat) ∧ m ≤ n ∧ worldI n x = some m) ∧ (betD 0 (n : Int) d = false → worldI n x = none) := by
  cases h with
  | int i =>
    by_cases hi : 0 ≤ i ∧ i ≤ (n : Int)
    · refine ⟨fun _ => ⟨i.toNat, by rw [Int.toNat_of_nonneg hi.1], by omega, if_pos hi⟩, fun z => ?_⟩
      have z : (decide (0 ≤ i) && decide (i ≤ (n : Int))) = false := z
      rw [decide_eq_true hi.1, decide_eq_true hi.2] at z
      cases z
    · refine ⟨fun z => ?_, fun _ => if_neg hi⟩
      have z : (decide (0 ≤ i) && decide (i ≤ (n : Int))) = true := z
      obtain ⟨z1, z2⟩ := He.ba z
      exact absurd ⟨of_decide_eq_true z1, of_decide_eq_true z2⟩ hi
  | str h => exact ⟨(fun z => nomatch z), fun _ => rfl⟩
  | @oth v t b th hs ty k1 k2 =>
    refine ⟨fun z => by (cases z), fun _ => ?_⟩
    cases x with
    | non => exact absurd rfl hx
    | int i =>
      have e : t = .type "int" := by
        cases ty with
        | base h => cases h <;> rfl
      rw [e] at k1 k2
      have h1 : PySem.W.kitOne K (.type "int") (.type "int") = some true := kit_ty (show kitB "int" "int" = some true by decide +kernel)
      have h2 : PySem.W.kitOne K (.type "int") (.type "bool") = some false := kit_ty (show kitB "int" "bool" = some false by decide +kernel)
      rw [k1] at h1
      rw [k2] at h2
      cases h1
      cases h2
    | _ => rfl
  | tup h hl t => exact ⟨(fun z => nomatch z), fun _ => rfl⟩
section
variable {P : Program} {w : World} {K : PySem.W.Frag} {mg : Str → Option Value} {base : Heap} {f : Addr} {fd : FuncData} {CK CR NC NW : Addr}
def spWorld (K : PySem.W.Frag) (CK CR NW : Addr) : Sp := fun vs H Q E => ∃ r kd tl T n x d, vs = [.ref r, x] ∧ RtAt K CK CR H r kd tl T n ∧ DtAt K H x d ∧ (∀ m, m ≤ n → worldI n x = some m → Q (.int (m : Nat)) H) ∧ (worldI n x = none → ExTo E H NW "world" x)
theorem ok_world_of (F : FnP K "world_of" s_world_of f fd) (E_NoWorld : ErrOk P w K mg base "NoWorld" NW "world") (M_newest : MtOk P w K mg base CX0 1 CR "newest" ["self"] (spNewest K CK CR)) (D_is_between : DfOk P w K mg base CX0 2 "is_between" ["thing", "low", "high"] (spBetween K)) : FnOk P w K mg base (L2.CX P w) 3 f fd ["runtime", "world"] (spWorld K CK CR NW) := by
  refine F.ok sc_world_of (fun vs H Q E h => ?_) (fun cdv A outer s H vs Q E hr h => ?_)
  · obtain ⟨r, kd, tl, T, n, x, d, rfl, _⟩ := h
    rfl
  · refine ⟨_, (pss_cons (ps_if (pt_cmpR op_isN (pv 1) pe_non (nomark _)) (pss_one (ps_ret (pe_methC0 M_newest hr (pv 0)))) pss_nil)
      (pss_cons (ps_if (pt_not (pt_val (pe_callD D_is_between hr (pa_cons (pv 1) (pa_cons pe_int (pa_cons (pe_methC0 M_newest hr (pv 0)) pa_nil)))))) (pss_one (ps_raiseE rfl (takes_of rfl rfl rfl rfl) E_NoWorld hr (pv 1))) pss_nil)
      (pss_one (ps_ret (pv 1))))), ?_⟩
    obtain ⟨r, kd, tl, T, n, x, d, rfl, R, dv, k1, k2⟩ := h
    rw [show L2.start ["runtime", "world"] [V.ref r, x] = ([some (V.ref r), some (x)] : List (Option V)) from rfl]
    have kh := KH.start (H := H)
    obtain ⟨⟨dx, fs, h1, hs1, _⟩, _⟩ := id R
    walk_at "go"
    refine ⟨rfl, ?_⟩
    walk_at "go"
    by_cases hx : x = .non
    · rw [decide_eq_true hx]
      walk_at "go"
      refine ⟨r, dx, _, rfl, h1, hs1, ?_⟩
      walk_at "go"
      exact ⟨r, kd, tl, T, n, rfl, R, k1 n (Nat.le_refl _) (by rw [hx]; rfl)⟩
    · rw [decide_eq_false hx]
      obtain ⟨b1, b2⟩ := worldI_bet (n := n) dv hx
      walk_at "go"
      refine ⟨r, dx, _, rfl, h1, hs1, ?_⟩
      walk_at "go"
      refine ⟨r, kd, tl, T, n, rfl, R, ?_⟩
      walk_at "go"
      refine ⟨x, d, 0, n, rfl, dv, ?_⟩
      walk_at "go"
      cases hb : betD 0 (n : Int) d with
      | true =>
        obtain ⟨mm, hm, hm2, hw⟩ := b1 hb
        subst hm
        walk_at "go"
        exact k1 mm hm2 hw
      | false =>
        walk_at "go"
        exact RsG.mk E_NoWorld.o E_NoWorld.no (k2 (b2 hb))
def spClassesG (K : PySem.W.Frag) (CK CR NW : Addr) : Sp := fun vs H Q E => ∃ r kd tl T n x d, vs = [.ref r, x] ∧ RtW K CK CR H r kd tl T n ∧ T.length < 64 ∧ DtAt K H x d ∧
  (∀ m, m ≤ n → worldI n x = some m → ∀ ys p H', ys.Perm (knownL T m) → PyProof.Rows.sortedS ys = true → H p = none → Wc.Ext H H' → H' p = some (.lst (ys.map V.str)) → Q (.ref p) H') ∧ (worldI n x = none → ExTo E H NW "world" x)
/-- how a world sees a class -/
def sinceB (T : List Cl) (m : Nat) (s : Str) : Bool := match findC T s with
  | some c => decide ((c.since : Int) ≤ (m : Int))
  | none => false
def seenL (T : List Cl) (m : Nat) (l : List Str) : List Str := l.filter (sinceB T m)
def seenF (T : List Cl) (m : Nat) : V → Option V
  | .str s => if sinceB T m s = true then some (V.str s) else none
  | _ => none
def spSeen (K : PySem.W.Frag) (CK CR : Addr) : Sp := fun vs H Q _ => ∃ r kd tl T n x m l y, vs = [.ref r, .str x, .int (m : Nat)] ∧ RtAt K CK CR H r kd tl T n ∧ Line T (some x) l ∧ l.length ≤ 1000 ∧ (seenL T m l)[0]? = some y ∧ ∀ H', Wc.Ext H H' → Q (.str y) H'
abbrev NN_seen : List Str := ["runtime", "name", "world", "one"]
theorem line_in {T : List Cl} {o : Option Str} {l : List Str} (h : Line T o l) : ∀ s, s ∈ l → ∃ c, findC T s = some c := by
  induction h with
  | nil => intro s hs; cases hs
  | cons h t ih =>
    intro s hs
    rcases List.mem_cons.mp hs with e | hs
    · rw [e]
      exact ⟨_, h⟩
    · exact ih s hs
theorem seen_fm (T : List Cl) (m : Nat) (l : List Str) : (List.range (l.map V.str).length).filterMap (fun i => (l.map V.str)[i]?.bind (seenF T m)) = (seenL T m l).map V.str := by
  rw [range_fm]
  unfold seenL
  induction l with
  | nil => rfl
  | cons s l ih =>
    rw [List.map_cons, List.filter_cons]
    by_cases h : sinceB T m s = true
    · rw [if_pos h, List.filterMap_cons_some (show seenF T m (V.str s) = some (V.str s) from if_pos h), ih] <;> rfl
    · rw [if_neg h, List.filterMap_cons_none (show seenF T m (V.str s) = none from if_neg h), ih]
/-- view(runtime, name, world=world) -/
def spView (K : PySem.W.Frag) (CK CR NC NW : Addr) : Sp := fun vs H Q E => ∃ r kd tl T n x tp wv wd, vs = [.ref r, x, wv] ∧ RtAt K CK CR H r kd tl T n ∧ Th K H x tp ∧ DtAt K H wv wd ∧ (clsV T x = false → ExTo E H NC "name" x) ∧
  (clsV T x = true → ∀ z, x = .str z → (worldI n wv = none → ExTo E H NW "world" wv) ∧ ∀ m, m ≤ n → worldI n wv = some m → ∃ l y, Line T (some z) l ∧ l.length ≤ 1000 ∧ (seenL T m l)[0]? = some y ∧ ∀ H', Wc.Ext H H' → Q (.str y) H')
/-- what is no class -/
def spNoClass (K : PySem.W.Frag) (CK CR NC : Addr) : Sp := fun vs H Q E => ∃ r kd tl T n x tp, vs = [.ref r, x] ∧ RtAt K CK CR H r kd tl T n ∧ Th K H x tp ∧ clsV T x = false ∧ ExTo E H NC "name" x
def spNoBelow (K : PySem.W.Frag) (CK CR NC : Addr) : Sp := fun vs H Q E => ∃ r kd tl T n x tx y ty, vs = [.ref r, x, y] ∧ RtAt K CK CR H r kd tl T n ∧ Th K H x tx ∧ Th K H y ty ∧ (clsV T x = false → ExTo E H NC "name" x) ∧ (clsV T x = true → clsV T y = false ∧ ExTo E H NC "name" y)
end
end K10


set_option Elab.async false
set_option linter.all false
set_option maxRecDepth 100000
set_option maxHeartbeats 4000000
namespace K10
open PySem PySem.Spec PyProof.Rows L2 Wc
local macro_rules | `(tactic| walk_at "lk") => `(tactic| first | with_reducible exact Look.here | (with_reducible apply Look.there; walk_at "lk"))
local macro_rules | `(tactic| walk_at "ul") => `(tactic| first | with_reducible exact UpL.here | (with_reducible apply UpL.there; walk_at "ul"))
local macro_rules | `(tactic| walk_at "ga") => `(tactic| first | exact GetAt.here | (apply GetAt.there; walk_at "ga"))
local macro_rules | `(tactic| walk_at "sa") => `(tactic| first | exact SetAt.here | (apply SetAt.there; walk_at "sa"))
local macro_rules | `(tactic| walk_at "hp") => `(tactic| first | assumption | (refine' KH.find ?k ?h; (case k => assumption); (case h => walk_at "lk")))
local macro_rules | `(tactic| walk_at "sql") => `(tactic| first | assumption | (refine' SqL.of ?h; (case h => walk_at "hp")) | (refine' Fr.sql (KH.fr ?k) ?n ?h; (case k => assumption); (case h => assumption); (case n => (simp; done))))
local macro_rules | `(tactic| walk_at "sqt") => `(tactic| first | assumption | (refine' SqT.of ?h; (case h => walk_at "hp")))
local macro_rules | `(tactic| walk_at "side") => `(tactic| first | exact (show (0 : Int) < _ by decide) | exact (show (0 : Int) < _ by omega) | exact ⟨by decide, by decide, by decide⟩ | exact ⟨by decide, by decide, by omega⟩ | exact ⟨by decide, by decide⟩ | exact ⟨by omega, by omega⟩ | exact Or.inl ⟨by omega, by omega⟩ | exact Or.inr ⟨by omega, by omega⟩)
local macro_rules | `(tactic| walk_at "siz") => `(tactic| first | (refine sz_of ?_; first | decide | omega | (simp; done) | (simp; omega)) | (refine sz_lt ?_; first | decide | omega | (simp; done) | (simp; omega)))
local macro_rules | `(tactic| walk_at "own") => `(tactic| first | (exact Or.inr (by assumption)) | (refine Or.inl ?_; simp; done))
local macro_rules | `(tactic| walk_at "al") => `(tactic| (refine' AllocO.mk ?k ?_; (case k => assumption); intro _ _ _ _))
local macro_rules | `(tactic| walk_at "up") => `(tactic| (refine' UpdO.mk ?k ?h ?m ?_; (case k => assumption); (case h => walk_at "ul"); (case m => walk_at "own"); intro _ _))
local macro_rules | `(tactic| walk_at "st") => `(tactic| first
  | ((with_reducible refine' r_var ?h ?_); (case h => walk_at "ga"))
  | (with_reducible refine' r_seq ?_) | (with_reducible refine' r_next ?_) | (with_reducible refine' r_asg ?_) | (with_reducible refine' r_drop ?_) | (with_reducible refine' r_ret ?_) | (with_reducible refine' r_retN ?_)
  | (with_reducible refine' r_ifs ?_) | (with_reducible refine' r_cont ?_) | (with_reducible refine' r_break ?_) | (with_reducible refine' r_c ?_) | (with_reducible refine' r_op ?_) | (with_reducible refine' r_un ?_)
  | (with_reducible refine' r_test ?_) | (with_reducible refine' r_tB ?_) | (with_reducible refine' r_not ?_) | (with_reducible refine' r_and ?_) | (with_reducible refine' r_or ?_) | (with_reducible refine' r_notV ?_)
  | (with_reducible refine' r_andV ?_) | (with_reducible refine' r_orV ?_) | (with_reducible refine' r_ifE ?_) | (with_reducible refine' r_bl ?_) | (with_reducible refine' r_nil ?_) | (with_reducible refine' r_cons ?_)
  | (with_reducible refine' r_tup ?_) | (with_reducible refine' r_lst ?_) | (with_reducible refine' r_cb ?_) | (with_reducible refine' r_call ?_) | ((with_reducible refine' r_name ?h ?_); (case h => walk_at "sa")) | (with_reducible refine' r_gnil ?_)
  | (with_reducible refine' r_gcons ?_) | (with_reducible refine' r_gsub ?_) | (with_reducible refine' r_par ?_) | (with_reducible refine' r_par2 ?_) | (with_reducible refine' r_I0 ?_) | (with_reducible refine' r_U ?_)
  | ((with_reducible refine' r_eq ?h ?_); (case h => rfl)) | ((with_reducible refine' r_ne ?h ?_); (case h => rfl))
  | ((with_reducible refine' r_ixL ?h ?a ?_); (case h => walk_at "sql"); (case a => rfl))
  | ((with_reducible refine' r_ixT ?h ?a ?_); (case h => walk_at "sqt"); (case a => rfl))
  | ((with_reducible refine' r_setL ?h ?a ?_); (case h => walk_at "hp"); (case a => rfl))
  | ((with_reducible refine' r_I ?c ?_); (case c => walk_at "side"))
  | (with_reducible refine' r_sl ?_) | (with_reducible refine' r_part ?_) | (with_reducible refine' r_nopart ?_) | (with_reducible refine' r_ii ?_)
  | ((with_reducible refine' r_slL ?h ?_); (case h => walk_at "sql"))
  | (with_reducible refine' r_bm ?_) | (with_reducible refine' r_bm0 ?_) | (with_reducible refine' r_int1 ?_) | (with_reducible refine' r_int1b ?_)
  | ((with_reducible refine' r_aug ?h ?_); (case h => walk_at "ga"))
  | ((with_reducible refine' r_cat ?a ?b ?z ?_); (case a => walk_at "hp"); (case b => walk_at "hp"); (case z => walk_at "siz"))
  | ((with_reducible refine' r_append ?a ?z ?_); (case a => walk_at "hp"); (case z => walk_at "siz"))
  | ((with_reducible refine' And.intro ?z ?_); (case z => first | walk_at "siz" | exact Or.inl ⟨rfl, _, by walk_at "sql"⟩))
  | ((with_reducible refine' r_gtup ?h ?l ?_); (case h => walk_at "sqt"); (case l => rfl))
  | (with_reducible refine' r_forL ?_) | (with_reducible refine' r_forE ?_) | (with_reducible refine' r_forR ?_) | ((with_reducible refine' r_forL2 ?h ?_); (case h => walk_at "sql")) | ((with_reducible refine' r_forE2 ?h ?_); (case h => walk_at "sql"))
  | (with_reducible refine' r_lcR ?_) | ((with_reducible refine' r_iteT ?h ?_); (case h => rfl)) | ((with_reducible refine' r_iteF ?h ?_); (case h => rfl))
  | (with_reducible refine' r_dnew ?_) | (with_reducible refine' r_vei ?_) | (with_reducible refine' r_ost ?_) | (with_reducible refine' r_mkV ?_) | (with_reducible refine' r_mkX ?_) | (with_reducible refine' r_xfld ?_)
  | ((with_reducible refine' MkG.mk ?o ?n ?k ?_); (case o => exact ErrOk.o (by assumption)); (case n => exact ErrOk.no (by assumption)); (case k => assumption); intro _ _ _ _)
  | ((with_reducible refine' AllocX.mk ?k ?_); (case k => assumption); intro _ _ _ _)
  | (with_reducible refine' r_chain ?_) | (with_reducible refine' r_lcS ?_) | (with_reducible refine' r_lcS2 ?_) | (with_reducible refine' r_lcL ?_) | (with_reducible refine' r_lcT ?_) | (with_reducible refine' r_lcI ?_) | (with_reducible refine' r_yes ?_)
  | (with_reducible refine' r_fld ?_) | (with_reducible refine' r_sfld ?_) | (with_reducible refine' r_meth ?_) | (with_reducible refine' r_make ?_) | (with_reducible refine' r_dget ?_) | (with_reducible refine' r_din ?_) | (with_reducible refine' r_dput ?_)
  | ((with_reducible refine' r_disp ?k ?_); (case k => assumption); intro _ _ _ _) | (with_reducible refine' r_pnil ?_) | (with_reducible refine' r_pcons ?_)
  | (walk_at "al") | (walk_at "up"))
local macro_rules | `(tactic| walk_at "go") => `(tactic| repeat walk_at "st")

section
variable {P : Program} {w : World} {K : PySem.W.Frag} {mg : Str → Option Value} {base : Heap} {f : Addr} {fd : FuncData} {CK CR NB NCt : Addr}
/-- check_body: the number of arguments ahead of the body -/
def spCB (K : PySem.W.Frag) (CK CR NB NCt : Addr) : Sp := fun vs H Q E => ∃ r kd tl T n v d x dc, vs = [.ref r, v, x] ∧ RtAt K CK CR H r kd tl T n ∧ (∀ c, c ∈ T → c.all.length ≤ 1000) ∧ DtAt K H v d ∧ DtAt K H x dc ∧ (betD 1 2 dc = false → ExTo E H NCt "count" x) ∧
  (betD 1 2 dc = true → ∃ cn : Nat, x = .int cn ∧ (chk T 24 [⟨d, [], cn, []⟩] = none → ∀ H', Wc.Ext H H' → Q .non H') ∧ (∀ l, chk T 24 [⟨d, [], cn, []⟩] = some l → ∀ e t H', Wc.Ext H H' → H e = none → H' e = some (.xd [("path", .ref t)]) → H' t = some (.tup (l.map fun n => V.int (n : Nat))) → E (.ref NB) (some e) H'))
theorem ok_check_body (F : FnP K "check_body" s_check_body f fd) (T : Bt mg) (E_NoCount : ErrOk P w K mg base "NoCount" NCt "count") (D_is_between : DfOk P w K mg base CX0 2 "is_between" ["thing", "low", "high"] (spBetween K)) (D_check_valid : DfOk P w K mg base (L2.CX P w) 5 "check_valid" ["runtime", "body", "count"] (spCV K CK CR NB)) :
    FnOk P w K mg base (L2.CX P w) 6 f fd ["runtime", "body", "count"] (spCB K CK CR NB NCt) := by
  refine F.ok sc_check_body (fun vs H Q E h => ?_) (fun cdv A outer s H vs Q E hr h => ?_)
  · obtain ⟨r, kd, tl, T, n, v, d, x, dc, rfl, _⟩ := h
    rfl
  · refine ⟨_, (pss_cons (ps_if (pt_not (pt_val (pe_callD D_is_between hr (pa_cons (pv 2) (pa_cons pe_int (pa_cons pe_int pa_nil)))))) (pss_one (ps_raiseE rfl (takes_of rfl rfl rfl rfl) E_NoCount hr (pv 2))) pss_nil)
      (pss_one (ps_expr (pe_callDX (E := E) D_check_valid hr (passes_call (takes_of rfl rfl rfl rfl) (fun _ _ _ _ z => z)) (pa_cons (pv 0) (pa_cons (pv 1) (pa_cons (pv 2) pa_nil))))))), ?_⟩
    obtain ⟨r, kd, tl, T, n, v, d, x, dc, rfl, R, hT, dv, dx, k0, k1⟩ := h
    rw [show L2.start ["runtime", "body", "count"] [V.ref r, v, x] = ([some (V.ref r), some (v), some (x)] : List (Option V)) from rfl]
    have kh := KH.start (H := H)
    walk_at "go"
    refine ⟨x, dc, 1, 2, rfl, dx, ?_⟩
    walk_at "go"
    cases hb : betD 1 2 dc with
    | false =>
      walk_at "go"
      exact RsG.mk E_NoCount.o E_NoCount.no (k0 hb)
    | true =>
      obtain ⟨cn, rfl, h1, h2⟩ := k1 hb
      walk_at "go"
      exact ⟨r, kd, tl, T, n, v, d, cn, rfl, R, hT, dv, h1, h2⟩
end
end K10


set_option Elab.async false
set_option linter.all false
set_option maxRecDepth 100000
set_option maxHeartbeats 4000000
namespace K10
open PySem PySem.Spec PyProof.Rows L2 Wc
local macro_rules | `(tactic| walk_at "lk") => `(tactic| first | with_reducible exact Look.here | (with_reducible apply Look.there; walk_at "lk"))
local macro_rules | `(tactic| walk_at "ul") => `(tactic| first | with_reducible exact UpL.here | (with_reducible apply UpL.there; walk_at "ul"))
local macro_rules | `(tactic| walk_at "ga") => `(tactic| first | exact GetAt.here | (apply GetAt.there; walk_at "ga"))
local macro_rules | `(tactic| walk_at "sa") => `(tactic| first | exact SetAt.here | (apply SetAt.there; walk_at "sa"))
local macro_rules | `(tactic| walk_at "hp") => `(tactic| first | assumption | (refine' KH.find ?k ?h; (case k => assumption); (case h => walk_at "lk")))
local macro_rules | `(tactic| walk_at "sql") => `(tactic| first | assumption | (refine' SqL.of ?h; (case h => walk_at "hp")) | (refine' Fr.sql (KH.fr ?k) ?n ?h; (case k => assumption); (case h => assumption); (case n => (simp; done))))
local macro_rules | `(tactic| walk_at "sqt") => `(tactic| first | assumption | (refine' SqT.of ?h; (case h => walk_at "hp")))
local macro_rules | `(tactic| walk_at "side") => `(tactic| first | exact (show (0 : Int) < _ by decide) | exact (show (0 : Int) < _ by omega) | exact ⟨by decide, by decide, by decide⟩ | exact ⟨by decide, by decide, by omega⟩ | exact ⟨by decide, by decide⟩ | exact ⟨by omega, by omega⟩ | exact Or.inl ⟨by omega, by omega⟩ | exact Or.inr ⟨by omega, by omega⟩)
local macro_rules | `(tactic| walk_at "siz") => `(tactic| first | (refine sz_of ?_; first | decide | omega | (simp; done) | (simp; omega)) | (refine sz_lt ?_; first | decide | omega | (simp; done) | (simp; omega)))
local macro_rules | `(tactic| walk_at "own") => `(tactic| first | (exact Or.inr (by assumption)) | (refine Or.inl ?_; simp; done))
local macro_rules | `(tactic| walk_at "al") => `(tactic| (refine' AllocO.mk ?k ?_; (case k => assumption); intro _ _ _ _))
local macro_rules | `(tactic| walk_at "up") => `(tactic| (refine' UpdO.mk ?k ?h ?m ?_; (case k => assumption); (case h => walk_at "ul"); (case m => walk_at "own"); intro _ _))
local macro_rules | `(tactic| walk_at "st") => `(tactic| first
  | ((with_reducible refine' r_var ?h ?_); (case h => walk_at "ga"))
  | (with_reducible refine' r_seq ?_) | (with_reducible refine' r_next ?_) | (with_reducible refine' r_asg ?_) | (with_reducible refine' r_drop ?_) | (with_reducible refine' r_ret ?_) | (with_reducible refine' r_retN ?_)
  | (with_reducible refine' r_ifs ?_) | (with_reducible refine' r_cont ?_) | (with_reducible refine' r_break ?_) | (with_reducible refine' r_c ?_) | (with_reducible refine' r_op ?_) | (with_reducible refine' r_un ?_)
  | (with_reducible refine' r_test ?_) | (with_reducible refine' r_tB ?_) | (with_reducible refine' r_not ?_) | (with_reducible refine' r_and ?_) | (with_reducible refine' r_or ?_) | (with_reducible refine' r_notV ?_)
  | (with_reducible refine' r_andV ?_) | (with_reducible refine' r_orV ?_) | (with_reducible refine' r_ifE ?_) | (with_reducible refine' r_bl ?_) | (with_reducible refine' r_nil ?_) | (with_reducible refine' r_cons ?_)
  | (with_reducible refine' r_tup ?_) | (with_reducible refine' r_lst ?_) | (with_reducible refine' r_cb ?_) | (with_reducible refine' r_call ?_) | ((with_reducible refine' r_name ?h ?_); (case h => walk_at "sa")) | (with_reducible refine' r_gnil ?_)
  | (with_reducible refine' r_gcons ?_) | (with_reducible refine' r_gsub ?_) | (with_reducible refine' r_par ?_) | (with_reducible refine' r_par2 ?_) | (with_reducible refine' r_I0 ?_) | (with_reducible refine' r_U ?_)
  | ((with_reducible refine' r_eq ?h ?_); (case h => rfl)) | ((with_reducible refine' r_ne ?h ?_); (case h => rfl))
  | ((with_reducible refine' r_ixL ?h ?a ?_); (case h => walk_at "sql"); (case a => rfl))
  | ((with_reducible refine' r_ixT ?h ?a ?_); (case h => walk_at "sqt"); (case a => rfl))
  | ((with_reducible refine' r_setL ?h ?a ?_); (case h => walk_at "hp"); (case a => rfl))
  | ((with_reducible refine' r_I ?c ?_); (case c => walk_at "side"))
  | (with_reducible refine' r_sl ?_) | (with_reducible refine' r_part ?_) | (with_reducible refine' r_nopart ?_) | (with_reducible refine' r_ii ?_)
  | ((with_reducible refine' r_slL ?h ?_); (case h => walk_at "sql"))
  | (with_reducible refine' r_bm ?_) | (with_reducible refine' r_bm0 ?_) | (with_reducible refine' r_int1 ?_) | (with_reducible refine' r_int1b ?_)
  | ((with_reducible refine' r_aug ?h ?_); (case h => walk_at "ga"))
  | ((with_reducible refine' r_cat ?a ?b ?z ?_); (case a => walk_at "hp"); (case b => walk_at "hp"); (case z => walk_at "siz"))
  | ((with_reducible refine' r_append ?a ?z ?_); (case a => walk_at "hp"); (case z => walk_at "siz"))
  | ((with_reducible refine' And.intro ?z ?_); (case z => first | walk_at "siz" | exact Or.inl ⟨rfl, _, by walk_at "sql"⟩))
  | ((with_reducible refine' r_gtup ?h ?l ?_); (case h => walk_at "sqt"); (case l => rfl))
  | (with_reducible refine' r_forL ?_) | (with_reducible refine' r_forE ?_) | (with_reducible refine' r_forR ?_) | ((with_reducible refine' r_forL2 ?h ?_); (case h => walk_at "sql")) | ((with_reducible refine' r_forE2 ?h ?_); (case h => walk_at "sql"))
  | (with_reducible refine' r_lcR ?_) | ((with_reducible refine' r_iteT ?h ?_); (case h => rfl)) | ((with_reducible refine' r_iteF ?h ?_); (case h => rfl))
  | (with_reducible refine' r_dnew ?_) | (with_reducible refine' r_vei ?_) | (with_reducible refine' r_ost ?_) | (with_reducible refine' r_mkV ?_) | (with_reducible refine' r_mkX ?_) | (with_reducible refine' r_xfld ?_)
  | ((with_reducible refine' MkG.mk ?o ?n ?k ?_); (case o => exact ErrOk.o (by assumption)); (case n => exact ErrOk.no (by assumption)); (case k => assumption); intro _ _ _ _)
  | ((with_reducible refine' AllocX.mk ?k ?_); (case k => assumption); intro _ _ _ _)
  | (with_reducible refine' r_chain ?_) | (with_reducible refine' r_lcS ?_) | (with_reducible refine' r_lcS2 ?_) | (with_reducible refine' r_lcL ?_) | (with_reducible refine' r_lcT ?_) | (with_reducible refine' r_lcI ?_) | (with_reducible refine' r_yes ?_)
  | (with_reducible refine' r_fld ?_) | (with_reducible refine' r_sfld ?_) | (with_reducible refine' r_meth ?_) | (with_reducible refine' r_make ?_) | (with_reducible refine' r_dget ?_) | (with_reducible refine' r_din ?_) | (with_reducible refine' r_dput ?_)
  | ((with_reducible refine' r_disp ?k ?_); (case k => assumption); intro _ _ _ _) | (with_reducible refine' r_pnil ?_) | (with_reducible refine' r_pcons ?_)
  | (walk_at "al") | (walk_at "up"))
local macro_rules | `(tactic| walk_at "go") => `(tactic| repeat walk_at "st")

section
variable {P : Program} {w : World} {K : PySem.W.Frag} {mg : Str → Option Value} {base : Heap} {f : Addr} {fd : FuncData} {CK CR NFn NSg NW NTh : Addr}
def spBody (P : Program) (w : World) (K : PySem.W.Frag) (CK CR : Addr) : Sp := fun vs H Q _ => ∃ r kd tl T n fn sa sg x dx m ts tv kvs v, vs = [.ref r, .str fn, .ref sa, x] ∧ RtAt K CK CR H r kd tl T n ∧ nameS fn = true ∧ fn.length ≤ 1000 ∧ H sa = some (.tup (sg.map V.str)) ∧ sg.length ≤ 1000 ∧ (∀ x, x ∈ sg → x.length ≤ 1000) ∧ sigD T (sgD sg) = true ∧ DtAt K H x dx ∧
  worldI n x = some m ∧ H tl = some (.lst ts) ∧ ts[m]? = some (.ref tv) ∧ Tb P w H tv kvs ∧ valV kvs (mKey fn sg) = some v ∧ ∀ H', Wc.Ext H H' → Q v H'
theorem ok_mbody (F : FunD K "body" "body" (defArgs s_body) (defBody s_body) (defScope s_body) [] [("world", .non)] f fd) (T : Bt mg) (E_NotThere : ErrOk P w K mg base "NotThere" NTh "signature") (D_check_function : DfOk P w K mg base (L2.CX P w) 3 "check_function" ["function"] (spCFn K NFn)) (D_check_signature : DfOk P w K mg base (L2.CX P w) 4 "check_signature" ["runtime", "signature"] (spCSg K CK CR NSg))
    (M_table : MtOk P w K mg base CX0 1 CR "table" ["self", "world"] (spTable K CK CR)) (D_world_of : DfOk P w K mg base (L2.CX P w) 3 "world_of" ["runtime", "world"] (spWorld K CK CR NW)) : FnOk P w K mg base (L2.CX P w) 5 f fd ["runtime", "function", "signature", "world"] (spBody P w K CK CR) := by
  refine F.ok sc_body (fun vs H Q E h => ?_) (fun cdv A outer s H vs Q E hr h => ?_)
  · obtain ⟨r, kd, tl, T, n, fn, sa, sg, x, dx, m, ts, tv, kvs, v, rfl, _⟩ := h
    rfl
  · refine ⟨_, (pss_cons (ps_expr (pe_callDX (E := E) D_check_function hr (passes_call (takes_of rfl rfl rfl rfl) (fun _ _ _ _ z => z)) (pa_cons (pv 1) pa_nil)))
      (pss_cons (ps_expr (pe_callDX (E := E) D_check_signature hr (passes_call (takes_of rfl rfl rfl rfl) (fun _ _ _ _ z => z)) (pa_cons (pv 0) (pa_cons (pv 2) pa_nil))))
      (pss_cons (ps_set (i := 4) sc_body.nd rfl (by first | exact Or.inl rfl | exact Or.inr rfl) (pe_methC M_table hr (pv 0) (pa_cons (pe_callDX (E := E) D_world_of hr (passes_call (takes_of rfl rfl rfl rfl) (fun _ _ _ _ z => z)) (pa_cons (pv 0) (pa_cons (pv 3) pa_nil))) pa_nil)))
      (pss_cons (ps_if (pt_cmp (pc_nnot (un9 hr) (pe_tup (pa_cons (pv 1) (pa_cons (pv 2) pa_nil))) (pv 4))) (pss_one (ps_raiseE rfl (takes_of rfl rfl rfl rfl) E_NotThere hr (pv 2))) pss_nil)
      (pss_one (ps_ret (pe_nget (un9 hr) (pv 4) (pe_tup (pa_cons (pv 1) (pa_cons (pv 2) pa_nil))) (fun _ _ => rfl)))))))), ?_⟩
    obtain ⟨r, kd, tl, T, n, fn, sa, sg, x, dx, m, ts, tv, kvs, v, rfl, R, hfn, hfl, hsa, hsl, hsx, hsg, dvx, hw, htl, htv, tb, hv, k⟩ := h
    rw [show L2.start ["runtime", "function", "signature", "world", "table"] [V.ref r, V.str fn, V.ref sa, x] = ([some (V.ref r), some (V.str fn), some (V.ref sa), some (x), none] : List (Option V)) from rfl]
    have kh := KH.start (H := H)
    walk_at "go"
    refine ⟨.str fn, none, rfl, .str hfl, fun _ H1 e1 => ?_, fun z => by rw [show nameV (.str fn) = true from hfn] at z; cases z⟩
    walk_at "go"
    refine ⟨r, kd, tl, T, n, .ref sa, sgD sg, rfl, R.ext e1, sgD_at (e1 _ _ hsa) hsl hsx, fun _ H2 e2 => ?_, fun z => by rw [hsg] at z; cases z⟩
    have e02 := e1.trans e2
    obtain ⟨⟨dxr, fs, h1, hs1, hs2, hs3⟩, _⟩ := id R
    walk_at "go"
    refine ⟨r, dxr, _, rfl, e02 _ _ h1, hs2, ?_⟩
    walk_at "go"
    refine ⟨r, kd, tl, T, n, x, dx, rfl, R.ext e02, dtExt e02 _ _ dvx, fun mm hmm hw2 => ?_, fun z => by rw [hw] at z; cases z⟩
    obtain rfl : m = mm := Option.some.inj (hw.symm.trans hw2)
    walk_at "go"
    refine ⟨r, kd, tl, T, n, m, rfl, R.ext e02, hmm, fun ts3 tv3 hts3 htv3 => ?_⟩
    obtain rfl : ts = ts3 := by
      rw [e02 _ _ htl] at hts3
      cases hts3
      rfl
    obtain rfl : V.ref tv = tv3 := Option.some.inj (htv.symm.trans htv3)
    have k2 := KH.start (H := H2)
    walk_at "go"
    refine r_nnot ?_
    walk_at "go"
    rename_i p6 H6 n6 k6
    have e06 := e02.trans k6.extE
    refine ⟨tv, kvs, mKey fn sg, rfl, mKey_at (k6.find .here) (e06 _ _ hsa), tbExt tb e06, ?_⟩
    walk_at "go"
    rw [hv, show (!(some v : Option V).isSome) = false from rfl]
    walk_at "go"
    refine r_nget ?_
    walk_at "go"
    rename_i p7 H7 n7 k7
    have e07 := e02.trans k7.extE
    refine ⟨tv, kvs, mKey fn sg, v, rfl, mKey_at (k7.find .here) (e07 _ _ hsa), tbExt tb e07, hv, ?_⟩
    exact k _ e07
end
end K10


set_option Elab.async false
set_option linter.all false
set_option maxRecDepth 100000
set_option maxHeartbeats 4000000
namespace K10
open PySem PySem.Spec PyProof.Rows L2 Wc
local macro_rules | `(tactic| walk_at "lk") => `(tactic| first | with_reducible exact Look.here | (with_reducible apply Look.there; walk_at "lk"))
local macro_rules | `(tactic| walk_at "ul") => `(tactic| first | with_reducible exact UpL.here | (with_reducible apply UpL.there; walk_at "ul"))
local macro_rules | `(tactic| walk_at "ga") => `(tactic| first | exact GetAt.here | (apply GetAt.there; walk_at "ga"))
local macro_rules | `(tactic| walk_at "sa") => `(tactic| first | exact SetAt.here | (apply SetAt.there; walk_at "sa"))
local macro_rules | `(tactic| walk_at "hp") => `(tactic| first | assumption | (refine' KH.find ?k ?h; (case k => assumption); (case h => walk_at "lk")))
local macro_rules | `(tactic| walk_at "sql") => `(tactic| first | assumption | (refine' SqL.of ?h; (case h => walk_at "hp")) | (refine' Fr.sql (KH.fr ?k) ?n ?h; (case k => assumption); (case h => assumption); (case n => (simp; done))))
local macro_rules | `(tactic| walk_at "sqt") => `(tactic| first | assumption | (refine' SqT.of ?h; (case h => walk_at "hp")))
local macro_rules | `(tactic| walk_at "side") => `(tactic| first | exact (show (0 : Int) < _ by decide) | exact (show (0 : Int) < _ by omega) | exact ⟨by decide, by decide, by decide⟩ | exact ⟨by decide, by decide, by omega⟩ | exact ⟨by decide, by decide⟩ | exact ⟨by omega, by omega⟩ | exact Or.inl ⟨by omega, by omega⟩ | exact Or.inr ⟨by omega, by omega⟩)
local macro_rules | `(tactic| walk_at "siz") => `(tactic| first | (refine sz_of ?_; first | decide | omega | (simp; done) | (simp; omega)) | (refine sz_lt ?_; first | decide | omega | (simp; done) | (simp; omega)))
local macro_rules | `(tactic| walk_at "own") => `(tactic| first | (exact Or.inr (by assumption)) | (refine Or.inl ?_; simp; done))
local macro_rules | `(tactic| walk_at "al") => `(tactic| (refine' AllocO.mk ?k ?_; (case k => assumption); intro _ _ _ _))
local macro_rules | `(tactic| walk_at "up") => `(tactic| (refine' UpdO.mk ?k ?h ?m ?_; (case k => assumption); (case h => walk_at "ul"); (case m => walk_at "own"); intro _ _))
local macro_rules | `(tactic| walk_at "st") => `(tactic| first
  | ((with_reducible refine' r_var ?h ?_); (case h => walk_at "ga"))
  | (with_reducible refine' r_seq ?_) | (with_reducible refine' r_next ?_) | (with_reducible refine' r_asg ?_) | (with_reducible refine' r_drop ?_) | (with_reducible refine' r_ret ?_) | (with_reducible refine' r_retN ?_)
  | (with_reducible refine' r_ifs ?_) | (with_reducible refine' r_cont ?_) | (with_reducible refine' r_break ?_) | (with_reducible refine' r_c ?_) | (with_reducible refine' r_op ?_) | (with_reducible refine' r_un ?_)
  | (with_reducible refine' r_test ?_) | (with_reducible refine' r_tB ?_) | (with_reducible refine' r_not ?_) | (with_reducible refine' r_and ?_) | (with_reducible refine' r_or ?_) | (with_reducible refine' r_notV ?_)
  | (with_reducible refine' r_andV ?_) | (with_reducible refine' r_orV ?_) | (with_reducible refine' r_ifE ?_) | (with_reducible refine' r_bl ?_) | (with_reducible refine' r_nil ?_) | (with_reducible refine' r_cons ?_)
  | (with_reducible refine' r_tup ?_) | (with_reducible refine' r_lst ?_) | (with_reducible refine' r_cb ?_) | (with_reducible refine' r_call ?_) | ((with_reducible refine' r_name ?h ?_); (case h => walk_at "sa")) | (with_reducible refine' r_gnil ?_)
  | (with_reducible refine' r_gcons ?_) | (with_reducible refine' r_gsub ?_) | (with_reducible refine' r_par ?_) | (with_reducible refine' r_par2 ?_) | (with_reducible refine' r_I0 ?_) | (with_reducible refine' r_U ?_)
  | ((with_reducible refine' r_eq ?h ?_); (case h => rfl)) | ((with_reducible refine' r_ne ?h ?_); (case h => rfl))
  | ((with_reducible refine' r_ixL ?h ?a ?_); (case h => walk_at "sql"); (case a => rfl))
  | ((with_reducible refine' r_ixT ?h ?a ?_); (case h => walk_at "sqt"); (case a => rfl))
  | ((with_reducible refine' r_setL ?h ?a ?_); (case h => walk_at "hp"); (case a => rfl))
  | ((with_reducible refine' r_I ?c ?_); (case c => walk_at "side"))
  | (with_reducible refine' r_sl ?_) | (with_reducible refine' r_part ?_) | (with_reducible refine' r_nopart ?_) | (with_reducible refine' r_ii ?_)
  | ((with_reducible refine' r_slL ?h ?_); (case h => walk_at "sql"))
  | (with_reducible refine' r_bm ?_) | (with_reducible refine' r_bm0 ?_) | (with_reducible refine' r_int1 ?_) | (with_reducible refine' r_int1b ?_)
  | ((with_reducible refine' r_aug ?h ?_); (case h => walk_at "ga"))
  | ((with_reducible refine' r_cat ?a ?b ?z ?_); (case a => walk_at "hp"); (case b => walk_at "hp"); (case z => walk_at "siz"))
  | ((with_reducible refine' r_append ?a ?z ?_); (case a => walk_at "hp"); (case z => walk_at "siz"))
  | ((with_reducible refine' And.intro ?z ?_); (case z => first | walk_at "siz" | exact Or.inl ⟨rfl, _, by walk_at "sql"⟩))
  | ((with_reducible refine' r_gtup ?h ?l ?_); (case h => walk_at "sqt"); (case l => rfl))
  | (with_reducible refine' r_forL ?_) | (with_reducible refine' r_forE ?_) | (with_reducible refine' r_forR ?_) | ((with_reducible refine' r_forL2 ?h ?_); (case h => walk_at "sql")) | ((with_reducible refine' r_forE2 ?h ?_); (case h => walk_at "sql"))
  | (with_reducible refine' r_lcR ?_) | ((with_reducible refine' r_iteT ?h ?_); (case h => rfl)) | ((with_reducible refine' r_iteF ?h ?_); (case h => rfl))
  | (with_reducible refine' r_dnew ?_) | (with_reducible refine' r_vei ?_) | (with_reducible refine' r_ost ?_) | (with_reducible refine' r_mkV ?_) | (with_reducible refine' r_mkX ?_) | (with_reducible refine' r_xfld ?_)
  | ((with_reducible refine' MkG.mk ?o ?n ?k ?_); (case o => exact ErrOk.o (by assumption)); (case n => exact ErrOk.no (by assumption)); (case k => assumption); intro _ _ _ _)
  | ((with_reducible refine' AllocX.mk ?k ?_); (case k => assumption); intro _ _ _ _)
  | (with_reducible refine' r_chain ?_) | (with_reducible refine' r_lcS ?_) | (with_reducible refine' r_lcS2 ?_) | (with_reducible refine' r_lcL ?_) | (with_reducible refine' r_lcT ?_) | (with_reducible refine' r_lcI ?_) | (with_reducible refine' r_yes ?_)
  | (with_reducible refine' r_fld ?_) | (with_reducible refine' r_sfld ?_) | (with_reducible refine' r_meth ?_) | (with_reducible refine' r_make ?_) | (with_reducible refine' r_dget ?_) | (with_reducible refine' r_din ?_) | (with_reducible refine' r_dput ?_)
  | ((with_reducible refine' r_disp ?k ?_); (case k => assumption); intro _ _ _ _) | (with_reducible refine' r_pnil ?_) | (with_reducible refine' r_pcons ?_)
  | (walk_at "al") | (walk_at "up"))
local macro_rules | `(tactic| walk_at "go") => `(tactic| repeat walk_at "st")

/-- sorted(d), d a dict of at most one key that is a tuple -/
def rNSort (P : Program) (w : World) : List V → Hp → VK → Prop := fun xs H Q => ∃ a kvs, xs = [.ref a] ∧ Tb P w H a kvs ∧ kvs.length ≤ 1 ∧ ∀ (p : Addr) (bs : List V), H p = none → PySem.Paired (fun (kv : NK × V) b => NKey H b kv.1) kvs bs → Q (.ref p) (upd H p (.lst bs))
theorem pairsB {H : Hp} {kvs : List (NK × V)} {xs : List (NK × Addr × Value)} (r : PySem.Paired (NRel H) kvs xs) : PySem.Paired (fun (kv : NK × V) b => NKey H b kv.1) kvs (xs.map fun x => V.ref x.2.1) := by
  induction r with
  | nil => exact .nil
  | cons h t ih => exact .cons ⟨⟨_, rfl⟩, h.2.1, h.2.2.1⟩ ih
theorem perm1 {α : Type} {l m : List α} (h : l.Perm m) (hm : m.length ≤ 1) : l = m := by
  match m, hm with
  | [], _ => exact h.eq_nil
  | [x], _ => exact List.perm_singleton.mp h
  | _ :: _ :: _, hm => simp at hm
theorem cr_sortedN {X : Cx} (hc : X.calm = true) : CallR X (.builtin "sorted") (rNSort X.prog X.w) := by
  intro pins s σ H xs us Q I r h
  obtain ⟨a, kvs, rfl, tb, h1, q⟩ := h
  obtain ⟨u1, rfl, ru⟩ := vals1 r
  obtain rfl : u1 = Value.ref a := ru
  obtain ⟨xs, dd, hm, hz, rel⟩ := tb.at_ I.hok
  obtain ⟨o, es, ep, g1, g2, g3, g4, g5, g6⟩ := dd
  have hes : es.size = xs.length := by rw [← Array.length_toList, g4, List.length_map]
  have hl : xs.length ≤ 1 := by rw [← Paired.length rel]; exact h1
  refine Calls.call_function_entry PyProof.Rows.kind_sorted PyProof.Rows.plain_sorted PyProof.Rows.entry_sorted (PyProof.Rows.args_sorted1 _) ?_
  unfold Builtin.«sorted»
  refine wpAny_bind (m := checkCount "sorted" 1 1 _) (wpAny_pure ?_)
  refine wpAny_bind (PySem.W.kdu_collect (A := X.A.in1) (kdl_raw hm g2 g3) (I.ok.hd hc) g1 (by omega) fun h' tk acc hk hacc => ?_)
  have hal : acc.toList.length = xs.length := by rw [Array.length_toList, hacc.1, hes]
  have ea : acc.toList = xs.map fun x => Value.ref x.2.1 := by
    apply List.ext_getElem?
    intro j
    rw [List.getElem?_map]
    cases hj : acc.toList[j]? with
    | none =>
      have h1 := List.getElem?_eq_none_iff.mp hj
      rw [List.getElem?_eq_none (by omega)]
      rfl
    | some v =>
      obtain ⟨en, hen, hv⟩ := hacc.2 j v (by rw [← Array.getElem?_toList]; exact hj)
      have qe := entry_at g4 j
      rw [hen] at qe
      cases hb : xs[j]? with
      | none =>
        rw [hb] at qe
        exact nomatch (show some en = none from qe)
      | some b =>
        rw [hb] at qe
        rw [hv, Option.some.inj qe]
        rfl
  have I1 : Inv X pins σ H { s with heap := h', toks := tk } := I.kept hk
  refine wpAny_bind (wpAny_newList ?_ (by rw [hal]; exact hz))
  have hoL : (h'.push (seqObj "list" acc.toList.toArray 0)).get? h'.objs.size = some (seqObj "list" acc.toList.toArray 0) := Heap.get?_push_size _ rfl
  show wpAny _ _ _ _ _ { s with heap := h'.push (seqObj "list" acc.toList.toArray 0), toks := tk }
  refine wpAny_bind (wpAny_holding (wpAny_call_entry PyProof.Rows.slot_list_sort ⟨_, hoL, rfl⟩ PyProof.Rows.entry_list_sort
    (SrtO.list_sort_ord (ltv := fun _ _ => false) ⟨fun _ _ z => (by cases z), fun _ _ _ _ _ => rfl⟩ (s := { s with heap := h'.push (seqObj "list" acc.toList.toArray 0), toks := tk }) hoL (by rw [hal]; exact hz) (fun h2 => absurd h2 (by omega)) fun out hs hb => ⟨_, rfl, ?_⟩)
    (PyProof.Rows.args_list_sort _)))
  have eo : out = acc.toList := perm1 hb.perm (by omega)
  obtain ⟨e', he'⟩ := PyProof.Rows.sortedHeap_at (vs := acc.toList) (out := out.toArray) hoL
  have rv : Vals (xs.map fun x => V.ref x.2.1) out := by
    rw [eo, ea]
    have := vals_refs (xs.map fun x => x.2.1)
    rw [List.map_map, List.map_map] at this
    exact this
  refine wpAny_pure ⟨_, rfl, .ref h'.objs.size, upd H h'.objs.size (.lst (xs.map fun x => V.ref x.2.1)), I1.laid (t' := tk) (fun b u e => ?_) (Nat.le_refl _)
    (show ObjOk X.prog X.w _ _ _ (.lst (xs.map fun x => V.ref x.2.1)) from ⟨by rw [List.length_map]; exact hz, out, e', rv, he'⟩), rfl, q _ _ (I1.hok.fresh (Nat.le_refl _)) (pairsB rel)⟩
  have hb : b < h'.objs.size := Heap.lt_size e
  rw [PyProof.Rows.sortedHeap_old (Nat.ne_of_lt hb) (by rw [size_push']; exact Nat.lt_succ_of_lt hb)]
  exact Heap.get?_push_of_some _ e
section
variable {P : Program} {w : World} {K : PySem.W.Frag} {mg : Str → Option Value} {base : Heap} {f : Addr} {fd : FuncData} {CK CR NW : Addr}
def spMethods (P : Program) (w : World) (K : PySem.W.Frag) (CK CR : Addr) : Sp := fun vs H Q _ => ∃ r kd tl T n x dx m ts tv kvs, vs = [.ref r, x] ∧ RtAt K CK CR H r kd tl T n ∧ DtAt K H x dx ∧ worldI n x = some m ∧ H tl = some (.lst ts) ∧ ts[m]? = some (.ref tv) ∧ Tb P w H tv kvs ∧ kvs.length ≤ 1 ∧
  ∀ (p : Addr) (bs : List V) (H' : Hp), H p = none → Wc.Ext H H' → H' p = some (.lst bs) → PySem.Paired (fun (kv : NK × V) b => NKey H' b kv.1) kvs bs → Q (.ref p) H'
theorem nkExt {H H' : Hp} {y : V} {k : NK} (h : NKey H y k) (e : Wc.Ext H H') : NKey H' y k := ⟨h.1, KeyV.mo e.mo _ _ h.2.1, h.2.2⟩
theorem ok_methods (F : FunD K "methods" "methods" (defArgs s_methods) (defBody s_methods) (defScope s_methods) [] [("world", .non)] f fd) (T : Bt mg) (M_table : MtOk P w K mg base CX0 1 CR "table" ["self", "world"] (spTable K CK CR)) (D_world_of : DfOk P w K mg base (L2.CX P w) 3 "world_of" ["runtime", "world"] (spWorld K CK CR NW)) :
    FnOk P w K mg base (L2.CX P w) 4 f fd ["runtime", "world"] (spMethods P w K CK CR) := by
  refine F.ok sc_methods (fun vs H Q E h => ?_) (fun cdv A outer s H vs Q E hr h => ?_)
  · obtain ⟨r, kd, tl, T, n, x, dx, m, ts, tv, kvs, rfl, _⟩ := h
    rfl
  · refine ⟨_, (pss_one (ps_ret (pe_callB (cr_sortedN rfl) (by rfl) T.f_sorted PyProof.Rows.boot_sorted (pa_cons (pe_methC M_table hr (pv 0) (pa_cons (pe_callDX (E := E) D_world_of hr (passes_call (takes_of rfl rfl rfl rfl) (fun _ _ _ _ z => z)) (pa_cons (pv 0) (pa_cons (pv 1) pa_nil))) pa_nil)) pa_nil)))), ?_⟩
    obtain ⟨r, kd, tl, T, n, x, dx, m, ts, tv, kvs, rfl, R, dvx, hw, htl, htv, tb, h1, k⟩ := h
    rw [show L2.start ["runtime", "world"] [V.ref r, x] = ([some (V.ref r), some (x)] : List (Option V)) from rfl]
    have kh := KH.start (H := H)
    obtain ⟨⟨dxr, fs, h1r, hs1, hs2, hs3⟩, _⟩ := id R
    walk_at "go"
    refine ⟨r, dxr, _, rfl, h1r, hs2, ?_⟩
    walk_at "go"
    refine ⟨r, kd, tl, T, n, x, dx, rfl, R, dvx, fun mm hmm hw2 => ?_, fun z => by rw [hw] at z; cases z⟩
    obtain rfl : m = mm := Option.some.inj (hw.symm.trans hw2)
    walk_at "go"
    refine ⟨r, kd, tl, T, n, m, rfl, R, hmm, fun ts3 tv3 hts3 htv3 => ?_⟩
    obtain rfl : ts = ts3 := by
      rw [htl] at hts3
      cases hts3
      rfl
    obtain rfl : V.ref tv = tv3 := Option.some.inj (htv.symm.trans htv3)
    walk_at "go"
    refine ⟨tv, kvs, rfl, tb, h1, fun p bs hp pr => ?_⟩
    have e : Wc.Ext H (upd H p (.lst bs)) := Wc.Ext.new hp
    exact k p bs _ hp e upd_same (Paired.mapP pr fun _ _ z => nkExt z e)
end
end K10


set_option Elab.async false
set_option linter.all false
set_option maxRecDepth 100000
set_option maxHeartbeats 4000000
namespace K10
open PySem PySem.Spec PyProof.Rows L2 Wc
local macro_rules | `(tactic| walk_at "lk") => `(tactic| first | with_reducible exact Look.here | (with_reducible apply Look.there; walk_at "lk"))
local macro_rules | `(tactic| walk_at "ul") => `(tactic| first | with_reducible exact UpL.here | (with_reducible apply UpL.there; walk_at "ul"))
local macro_rules | `(tactic| walk_at "ga") => `(tactic| first | exact GetAt.here | (apply GetAt.there; walk_at "ga"))
local macro_rules | `(tactic| walk_at "sa") => `(tactic| first | exact SetAt.here | (apply SetAt.there; walk_at "sa"))
local macro_rules | `(tactic| walk_at "hp") => `(tactic| first | assumption | (refine' KH.find ?k ?h; (case k => assumption); (case h => walk_at "lk")))
local macro_rules | `(tactic| walk_at "sql") => `(tactic| first | assumption | (refine' SqL.of ?h; (case h => walk_at "hp")) | (refine' Fr.sql (KH.fr ?k) ?n ?h; (case k => assumption); (case h => assumption); (case n => (simp; done))))
local macro_rules | `(tactic| walk_at "sqt") => `(tactic| first | assumption | (refine' SqT.of ?h; (case h => walk_at "hp")))
local macro_rules | `(tactic| walk_at "side") => `(tactic| first | exact (show (0 : Int) < _ by decide) | exact (show (0 : Int) < _ by omega) | exact ⟨by decide, by decide, by decide⟩ | exact ⟨by decide, by decide, by omega⟩ | exact ⟨by decide, by decide⟩ | exact ⟨by omega, by omega⟩ | exact Or.inl ⟨by omega, by omega⟩ | exact Or.inr ⟨by omega, by omega⟩)
local macro_rules | `(tactic| walk_at "siz") => `(tactic| first | (refine sz_of ?_; first | decide | omega | (simp; done) | (simp; omega)) | (refine sz_lt ?_; first | decide | omega | (simp; done) | (simp; omega)))
local macro_rules | `(tactic| walk_at "own") => `(tactic| first | (exact Or.inr (by assumption)) | (refine Or.inl ?_; simp; done))
local macro_rules | `(tactic| walk_at "al") => `(tactic| (refine' AllocO.mk ?k ?_; (case k => assumption); intro _ _ _ _))
local macro_rules | `(tactic| walk_at "up") => `(tactic| (refine' UpdO.mk ?k ?h ?m ?_; (case k => assumption); (case h => walk_at "ul"); (case m => walk_at "own"); intro _ _))
local macro_rules | `(tactic| walk_at "st") => `(tactic| first
  | ((with_reducible refine' r_var ?h ?_); (case h => walk_at "ga"))
  | (with_reducible refine' r_seq ?_) | (with_reducible refine' r_next ?_) | (with_reducible refine' r_asg ?_) | (with_reducible refine' r_drop ?_) | (with_reducible refine' r_ret ?_) | (with_reducible refine' r_retN ?_)
  | (with_reducible refine' r_ifs ?_) | (with_reducible refine' r_cont ?_) | (with_reducible refine' r_break ?_) | (with_reducible refine' r_c ?_) | (with_reducible refine' r_op ?_) | (with_reducible refine' r_un ?_)
  | (with_reducible refine' r_test ?_) | (with_reducible refine' r_tB ?_) | (with_reducible refine' r_not ?_) | (with_reducible refine' r_and ?_) | (with_reducible refine' r_or ?_) | (with_reducible refine' r_notV ?_)
  | (with_reducible refine' r_andV ?_) | (with_reducible refine' r_orV ?_) | (with_reducible refine' r_ifE ?_) | (with_reducible refine' r_bl ?_) | (with_reducible refine' r_nil ?_) | (with_reducible refine' r_cons ?_)
  | (with_reducible refine' r_tup ?_) | (with_reducible refine' r_lst ?_) | (with_reducible refine' r_cb ?_) | (with_reducible refine' r_call ?_) | ((with_reducible refine' r_name ?h ?_); (case h => walk_at "sa")) | (with_reducible refine' r_gnil ?_)
  | (with_reducible refine' r_gcons ?_) | (with_reducible refine' r_gsub ?_) | (with_reducible refine' r_par ?_) | (with_reducible refine' r_par2 ?_) | (with_reducible refine' r_I0 ?_) | (with_reducible refine' r_U ?_)
  | ((with_reducible refine' r_eq ?h ?_); (case h => rfl)) | ((with_reducible refine' r_ne ?h ?_); (case h => rfl))
  | ((with_reducible refine' r_ixL ?h ?a ?_); (case h => walk_at "sql"); (case a => rfl))
  | ((with_reducible refine' r_ixT ?h ?a ?_); (case h => walk_at "sqt"); (case a => rfl))
  | ((with_reducible refine' r_setL ?h ?a ?_); (case h => walk_at "hp"); (case a => rfl))
  | ((with_reducible refine' r_I ?c ?_); (case c => walk_at "side"))
  | (with_reducible refine' r_sl ?_) | (with_reducible refine' r_part ?_) | (with_reducible refine' r_nopart ?_) | (with_reducible refine' r_ii ?_)
  | ((with_reducible refine' r_slL ?h ?_); (case h => walk_at "sql"))
  | (with_reducible refine' r_bm ?_) | (with_reducible refine' r_bm0 ?_) | (with_reducible refine' r_int1 ?_) | (with_reducible refine' r_int1b ?_)
  | ((with_reducible refine' r_aug ?h ?_); (case h => walk_at "ga"))
  | ((with_reducible refine' r_cat ?a ?b ?z ?_); (case a => walk_at "hp"); (case b => walk_at "hp"); (case z => walk_at "siz"))
  | ((with_reducible refine' r_append ?a ?z ?_); (case a => walk_at "hp"); (case z => walk_at "siz"))
  | ((with_reducible refine' And.intro ?z ?_); (case z => first | walk_at "siz" | exact Or.inl ⟨rfl, _, by walk_at "sql"⟩))
  | ((with_reducible refine' r_gtup ?h ?l ?_); (case h => walk_at "sqt"); (case l => rfl))
  | (with_reducible refine' r_forL ?_) | (with_reducible refine' r_forE ?_) | (with_reducible refine' r_forR ?_) | ((with_reducible refine' r_forL2 ?h ?_); (case h => walk_at "sql")) | ((with_reducible refine' r_forE2 ?h ?_); (case h => walk_at "sql"))
  | (with_reducible refine' r_lcR ?_) | ((with_reducible refine' r_iteT ?h ?_); (case h => rfl)) | ((with_reducible refine' r_iteF ?h ?_); (case h => rfl))
  | (with_reducible refine' r_dnew ?_) | (with_reducible refine' r_vei ?_) | (with_reducible refine' r_ost ?_) | (with_reducible refine' r_mkV ?_) | (with_reducible refine' r_mkX ?_) | (with_reducible refine' r_xfld ?_)
  | ((with_reducible refine' MkG.mk ?o ?n ?k ?_); (case o => exact ErrOk.o (by assumption)); (case n => exact ErrOk.no (by assumption)); (case k => assumption); intro _ _ _ _)
  | ((with_reducible refine' AllocX.mk ?k ?_); (case k => assumption); intro _ _ _ _)
  | (with_reducible refine' r_chain ?_) | (with_reducible refine' r_lcS ?_) | (with_reducible refine' r_lcS2 ?_) | (with_reducible refine' r_lcL ?_) | (with_reducible refine' r_lcT ?_) | (with_reducible refine' r_lcI ?_) | (with_reducible refine' r_yes ?_)
  | (with_reducible refine' r_fld ?_) | (with_reducible refine' r_sfld ?_) | (with_reducible refine' r_meth ?_) | (with_reducible refine' r_make ?_) | (with_reducible refine' r_dget ?_) | (with_reducible refine' r_din ?_) | (with_reducible refine' r_dput ?_)
  | ((with_reducible refine' r_disp ?k ?_); (case k => assumption); intro _ _ _ _) | (with_reducible refine' r_pnil ?_) | (with_reducible refine' r_pcons ?_)
  | (walk_at "al") | (walk_at "up"))
local macro_rules | `(tactic| walk_at "go") => `(tactic| repeat walk_at "st")

/-- a well: its list of three, so many draws at most -/
def wl (a b c : Int) : HO := .lst [.int a, .int b, .int c]
def WellOk (n : Nat) (b c : Int) : Prop := 0 ≤ b ∧ b < 2147483647 ∧ 0 ≤ c ∧ c ≤ n
def spWell : Sp := fun vs H Q _ => ∃ i : Int, vs = [.int i] ∧ ∀ (a b : Int), WellOk 0 b 0 → AllocO (wl a b 0) Q H
def spDraw : Sp := fun vs H Q _ => ∃ (p : Addr) (m a b c : Int) (n : Nat), vs = [.ref p, .int m] ∧ 0 < m ∧ m < 1073741824 ∧ H p = some (wl a b c) ∧ WellOk n b c ∧ n ≤ 1000000000 ∧
  ∀ (d a' c' : Int) (H' : Hp), 0 ≤ d → d < m → WellOk (n + 1) b c' → Fr [p] H H' → H' p = some (wl a' b c') → Q (.int d) H'
section
variable {P : Program} {w : World} {K : PySem.W.Frag} {mg : Str → Option Value} {base : Heap} {f : Addr} {fd : FuncData}
theorem ok_well (F : FnP K "_law_well" s_l_well f fd) (T : Bt mg) : FnOk P w K mg base CX0 1 f fd ["_law_cell"] spWell := by
  refine F.ok sc_l_well (fun vs H Q E h => ?_) (fun cdv A outer s H vs Q E hr h => ?_)
  · obtain ⟨i, rfl, _⟩ := h
    rfl
  · refine ⟨_, PSs.nox (pss_one (ps_ret (pe_lst (pa_cons (pe_op op_mul (pv 0) (pe_callTy call_int1 (by rfl) T.f_int PyProof.Rows.boot_int (pa_cons (pe_cmpR op_ge (pv 0) (pe_op op_pow pe_int pe_int) (nomark _)) pa_nil))) (pa_cons (pe_op op_mod (pe_callTy call_int1 (by rfl) T.f_int PyProof.Rows.boot_int (pa_cons (pv 0) pa_nil)) pe_int) (pa_cons pe_int pa_nil)))))), ?_⟩
    obtain ⟨i, rfl, k⟩ := h
    rw [show L2.start ["_law_cell"] [V.int i] = ([some (V.int i)] : List (Option V)) from rfl]
    have hb : (if decide ((10 : Int) ^ (18 : Int).toNat ≤ i) = true then (1 : Int) else 0) = 0 ∨ (if decide ((10 : Int) ^ (18 : Int).toNat ≤ i) = true then (1 : Int) else 0) = 1 := by
      split
      · exact .inr rfl
      · exact .inl rfl
    walk_at "go"
    exact k _ _ ⟨by omega, by omega, by decide, by decide⟩
theorem ok_draw (F : FnP K "_law_draw" s_l_draw f fd) (T : Bt mg) : FnOk P w K mg base CX0 1 f fd ["_law_well_here", "_law_many"] spDraw := by
  refine F.ok sc_l_draw (fun vs H Q E h => ?_) (fun cdv A outer s H vs Q E hr h => ?_)
  · obtain ⟨p, m, a, b, c, n, rfl, _⟩ := h
    rfl
  · refine ⟨_, PSs.nox (pss_cons (ps_if (pt_cmpR op_gt (pe_ix ix_list (pv 0) pe_int (fun _ _ => rfl)) pe_int (nomark _)) (pss_cons (ps_set (i := 2) sc_l_draw.nd rfl (by first | exact Or.inl rfl | exact Or.inr rfl) (pe_op op_mod (pe_callTy call_int1 (by rfl) T.f_int PyProof.Rows.boot_int (pa_cons (pe_ix ix_list (pv 0) pe_int (fun _ _ => rfl)) pa_nil)) (pv 1)))
      (pss_cons (ps_asg (pe_op op_fdiv (pe_ix ix_list (pv 0) pe_int (fun _ _ => rfl)) (pv 1)) (pg_sub (pv 0) pe_int set_list))
      (pss_one (ps_ret (pv 2))))) pss_nil)
      (pss_cons (ps_asg (pe_op op_add (pe_ix ix_list (pv 0) pe_int (fun _ _ => rfl)) pe_int) (pg_sub (pv 0) pe_int set_list))
      (pss_cons (ps_set (i := 3) sc_l_draw.nd rfl (by first | exact Or.inl rfl | exact Or.inr rfl) (pe_op op_mod (pe_callTy call_int1 (by rfl) T.f_int PyProof.Rows.boot_int (pa_cons (pe_op op_pow (pe_op op_add (pe_op op_add (pe_ix ix_list (pv 0) pe_int (fun _ _ => rfl)) (pe_op op_mul pe_int (pe_ix ix_list (pv 0) pe_int (fun _ _ => rfl)))) pe_int) pe_int) pa_nil)) pe_int))
      (pss_cons (ps_set (i := 3) sc_l_draw.nd rfl (by first | exact Or.inl rfl | exact Or.inr rfl) (pe_op op_mod (pe_callTy call_int1 (by rfl) T.f_int PyProof.Rows.boot_int (pa_cons (pe_op op_mul (pe_op op_add (pv 3) (pe_op op_mul pe_int (pe_ix ix_list (pv 0) pe_int (fun _ _ => rfl)))) (pe_op op_add (pe_op op_fdiv (pv 3) pe_int) pe_int)) pa_nil)) pe_int))
      (pss_one (ps_ret (pe_op op_mod (pe_callTy call_int1 (by rfl) T.f_int PyProof.Rows.boot_int (pa_cons (pe_op op_fdiv (pe_op op_mod (pe_callTy call_int1 (by rfl) T.f_int PyProof.Rows.boot_int (pa_cons (pe_op op_mul (pv 3) (pe_op op_add (pe_op op_fdiv (pv 3) pe_int) pe_int)) pa_nil)) pe_int) pe_int) pa_nil)) (pv 1)))))))), ?_⟩
    obtain ⟨p, m, a, b, c, n, rfl, m0, m1, hp, ⟨b0, b1, c0, c1⟩, hn, k⟩ := h
    rw [show L2.start ["_law_well_here", "_law_many", "_law_digit", "_law_number"] [V.ref p, V.int m] = ([some (V.ref p), some (V.int m), none, none] : List (Option V)) from rfl]
    have kh := KH.start1 hp
    walk_at "go"
    split
    · walk_at "go"
      rename_i H1 k1
      exact k _ _ _ H1 (Int.emod_nonneg _ (by omega)) (Int.emod_lt_of_pos _ m0) ⟨b0, b1, c0, by omega⟩ k1.fr (k1.find .here)
    · walk_at "go"
      rename_i H1 k1
      have x0 := Int.emod_nonneg ((b + 40009 * (c + 1) + 13) ^ Int.toNat 3) (show (2147483629 : Int) ≠ 0 by decide)
      have x1 := Int.emod_lt_of_pos ((b + 40009 * (c + 1) + 13) ^ Int.toNat 3) (show (0 : Int) < 2147483629 by decide)
      generalize (b + 40009 * (c + 1) + 13) ^ Int.toNat 3 % 2147483629 = x at x0 x1 ⊢
      walk_at "go"
      have y0 := Int.emod_nonneg ((x + 6151 * (c + 1)) * (x / 1021 + 48299)) (show (2147483549 : Int) ≠ 0 by decide)
      have y1 := Int.emod_lt_of_pos ((x + 6151 * (c + 1)) * (x / 1021 + 48299)) (show (0 : Int) < 2147483549 by decide)
      generalize (x + 6151 * (c + 1)) * (x / 1021 + 48299) % 2147483549 = y at y0 y1 ⊢
      walk_at "go"
      have z0 := Int.emod_nonneg (y * (y / 1999 + 65539)) (show (2147483497 : Int) ≠ 0 by decide)
      have z1 := Int.emod_lt_of_pos (y * (y / 1999 + 65539)) (show (0 : Int) < 2147483497 by decide)
      generalize y * (y / 1999 + 65539) % 2147483497 = z at z0 z1 ⊢
      walk_at "go"
      exact k _ _ _ H1 (Int.emod_nonneg _ (by omega)) (Int.emod_lt_of_pos _ m0) ⟨b0, b1, by omega, by omega⟩ k1.fr (k1.find .here)
/-- one of these: its place by a draw -/
def spOne (K : PySem.W.Frag) : Sp := fun vs H Q _ => ∃ (p l : Addr) (xs : List V) (a b c : Int) (n : Nat), vs = [.ref p, .ref l] ∧ H p = some (wl a b c) ∧ SqL K H l xs ∧ 0 < xs.length ∧ xs.length ≤ 1000000 ∧ p ≠ l ∧ WellOk n b c ∧ n ≤ 1000000000 ∧
  ∀ (x : V) (a' c' : Int) (H' : Hp), x ∈ xs → WellOk (n + 1) b c' → Fr [p] H H' → H' p = some (wl a' b c') → Q x H'
theorem ok_one (F : FnP K "_law_one" s_l_one f fd) (T : Bt mg) (D_l_draw : DfOk P w K mg base CX0 1 "_law_draw" ["_law_well_here", "_law_many"] spDraw) : FnOk P w K mg base CX0 2 f fd ["_law_well_here", "_law_some"] (spOne K) := by
  refine F.ok sc_l_one (fun vs H Q E h => ?_) (fun cdv A outer s H vs Q E hr h => ?_)
  · obtain ⟨p, l, xs, a, b, c, n, rfl, _⟩ := h
    rfl
  · refine ⟨_, PSs.nox (pss_one (ps_ret (pe_ix ix_list (pv 1) (pe_callD D_l_draw hr (pa_cons (pv 0) (pa_cons (pe_callB call_len (by rfl) T.f_len PySem.boot_len (pa_cons (pv 1) pa_nil)) pa_nil))) (fun _ _ => rfl)))), ?_⟩
    obtain ⟨p, l, xs, a, b, c, n, rfl, hp, hl, x0, x1, ne, wo, hn, k⟩ := h
    rw [show L2.start ["_law_well_here", "_law_some"] [V.ref p, V.ref l] = ([some (V.ref p), some (V.ref l)] : List (Option V)) from rfl]
    walk_at "go"
    refine ⟨_, _, rfl, .inl ⟨xs, hl, rfl⟩, ?_⟩
    walk_at "go"
    refine ⟨p, xs.length, a, b, c, n, rfl, by omega, by omega, hp, wo, hn, fun d a' c' H' d0 d1 wo' e hp' => ?_⟩
    obtain ⟨j, rfl⟩ : ∃ j : Nat, d = (j : Int) := ⟨d.toNat, by omega⟩
    have hj : j < xs.length := by omega
    refine r_ixL (e.sql (by simpa using Ne.symm ne) hl) (atI_nat (List.getElem?_eq_getElem hj)) ?_
    exact k _ a' c' H' (List.getElem_mem hj) wo' e hp'

end
theorem WellOk.up {n m : Nat} {b c : Int} (h : WellOk n b c) (e : n ≤ m) : WellOk m b c := ⟨h.1, h.2.1, h.2.2.1, by have := h.2.2.2; omega⟩
mutual
theorem datK_keyOf : ∀ d : Dt, datK (keyOf d) = datD d
  | .str s => rfl
  | .int i => rfl
  | .oth => rfl
  | .tup l => by
    show PyData.tuple (datKs (keysOf l)) = PyData.tuple (datDs l)
    rw [datKs_keysOf l]
theorem datKs_keysOf : ∀ l : List Dt, datKs (keysOf l) = datDs l
  | [] => rfl
  | d :: l => by
    show datK (keyOf d) :: datKs (keysOf l) = datD d :: datDs l
    rw [datK_keyOf d, datKs_keysOf l]
end
theorem r_par3 {i j l : Nat} {ta : TA} {D : Ends} {σ : L2.St} {H : Hp} (h : ta σ H fun vs H1 => ∃ u v w, vs = [u, v, w] ∧ D.nx (((σ.set i (some u)).set j (some v)).set l (some w)) H1) : tPar3 i j l ta D σ H := h
theorem r_repA {K : PySem.W.Frag} {l : Addr} {k : Int} {xs : List V} {H : Hp} {Q : VK} (h : H l = some (.tup xs)) (ne : xs ≠ []) (h1 : 1 ≤ k) (h2 : k ≤ 1000) (hz : xs.length ≤ 1000) (q : ∀ c H', Wc.Ext H H' → H' c = some (.tup (List.replicate k.toNat xs).flatten) → Q (.ref c) H') : rRepA K (.ref l) (.int k) H Q :=
  ⟨l, k, xs, rfl, rfl, SqT.of h, ne, h1, h2, hz, fun e => q l H (Wc.Ext.refl _) (by rw [e]; show H l = some (.tup (xs ++ [])); rw [List.append_nil]; exact h), fun _ p hp => q p _ (Wc.Ext.new hp) upd_same⟩
theorem r_catG {K : PySem.W.Frag} {a b : Addr} {xs ys : List V} {H : Hp} {Q : VK} (ha : H a = some (.tup xs)) (hb : H b = some (.tup ys)) (hz : xs.length + ys.length ≤ sizeLine) (q : ∀ c H', Wc.Ext H H' → H' c = some (.tup (xs ++ ys)) → Q (.ref c) H') : rCatA K (.ref a) (.ref b) H Q :=
  ⟨a, b, xs, ys, rfl, rfl, SqT.of ha, SqT.of hb, hz, fun z => q b H (Wc.Ext.refl _) (by rw [z]; exact hb), fun _ z => q a H (Wc.Ext.refl _) (by rw [z, List.append_nil]; exact ha), fun _ _ c hc => q c _ (Wc.Ext.new hc) upd_same⟩
theorem r_slA {K : PySem.W.Frag} {a : Addr} {xs : List V} {lo hi : Option Int} {H : Hp} {Q : VK} (h : H a = some (.tup xs)) (q : ∀ c H', Wc.Ext H H' → H' c = some (.tup (cutV xs lo hi)) → Q (.ref c) H') : rSlA K (.ref a) lo hi H Q :=
  ⟨a, xs, rfl, SqT.of h, fun z => q a H (Wc.Ext.refl _) (by unfold cutV; rw [z.1, z.2]; simpa using h), fun _ p hp => q p _ (Wc.Ext.new hp) upd_same⟩
theorem FrN.outA {A B : List Addr} {H0 H H' : Hp} (e : Wc.FrN B H0 H) (f : Wc.FrN A H H') (n : ∀ a, a ∈ A → a ∈ B ∨ ∀ o, (∀ ps, o ≠ .tbl ps) → H0 a ≠ some o) : Wc.FrN B H0 H' := fun a o b t h => f a o (fun m => (n a m).elim b fun z => z o t h) t (e a o b t h)
theorem Fr.outA {A B : List Addr} {H0 H H' : Hp} (e : Wc.Fr B H0 H) (f : Wc.Fr A H H') (n : ∀ a, a ∈ A → a ∈ B ∨ H0 a = none) : Wc.Fr B H0 H' := fun a o b h => f a o (fun m => (n a m).elim b fun z => by
  rw [z] at h
  cases h) (e a o b h)
theorem none_nn {H0 : Hp} {a : Addr} (h : H0 a = none) : ∀ o, (∀ ps, o ≠ .tbl ps) → H0 a ≠ some o := fun o _ z => by
  rw [h] at z
  cases z
theorem FrN.tup {H H' : Hp} {a : Addr} {xs : List V} (f : Wc.FrN [] H H') (h : H a = some (.tup xs)) : H' a = some (.tup xs) := f _ _ (by simp) (fun _ z => nomatch z) h
theorem op_repAK {X : Cx} (K : PySem.W.Frag) (e : X.K = K := by rfl) : OpR X (binaryOp .Mult) (rRepA K) := by
  subst e
  exact op_repA
theorem op_catAK {X : Cx} (K : PySem.W.Frag) (e : X.K = K := by rfl) : OpR X (binaryOp .Add) (rCatA K) := by
  subst e
  exact op_catA
end K10

set_option Elab.async false
set_option linter.all false
set_option maxRecDepth 100000
set_option maxHeartbeats 4000000
namespace K10
open PySem PySem.Spec PyProof.Rows L2 Wc
local macro_rules | `(tactic| walk_at "lk") => `(tactic| first | with_reducible exact Look.here | (with_reducible apply Look.there; walk_at "lk"))
local macro_rules | `(tactic| walk_at "ul") => `(tactic| first | with_reducible exact UpL.here | (with_reducible apply UpL.there; walk_at "ul"))
local macro_rules | `(tactic| walk_at "ga") => `(tactic| first | exact GetAt.here | (apply GetAt.there; walk_at "ga"))
local macro_rules | `(tactic| walk_at "sa") => `(tactic| first | exact SetAt.here | (apply SetAt.there; walk_at "sa"))
local macro_rules | `(tactic| walk_at "hp") => `(tactic| first | assumption | (refine' KH.find ?k ?h; (case k => assumption); (case h => walk_at "lk")))
local macro_rules | `(tactic| walk_at "sql") => `(tactic| first | assumption | (refine' SqL.of ?h; (case h => walk_at "hp")) | (refine' Fr.sql (KH.fr ?k) ?n ?h; (case k => assumption); (case h => assumption); (case n => (simp; done))))
local macro_rules | `(tactic| walk_at "sqt") => `(tactic| first | assumption | (refine' SqT.of ?h; (case h => walk_at "hp")))
local macro_rules | `(tactic| walk_at "side") => `(tactic| first | exact (show (0 : Int) < _ by decide) | exact (show (0 : Int) < _ by omega) | exact ⟨by decide, by decide, by decide⟩ | exact ⟨by decide, by decide, by omega⟩ | exact ⟨by decide, by decide⟩ | exact ⟨by omega, by omega⟩ | exact Or.inl ⟨by omega, by omega⟩ | exact Or.inr ⟨by omega, by omega⟩)
local macro_rules | `(tactic| walk_at "siz") => `(tactic| first | (refine sz_of ?_; first | decide | omega | (simp; done) | (simp; omega)) | (refine sz_lt ?_; first | decide | omega | (simp; done) | (simp; omega)))
local macro_rules | `(tactic| walk_at "own") => `(tactic| first | (exact Or.inr (by assumption)) | (refine Or.inl ?_; simp; done))
local macro_rules | `(tactic| walk_at "al") => `(tactic| (refine' AllocO.mk ?k ?_; (case k => assumption); intro _ _ _ _))
local macro_rules | `(tactic| walk_at "up") => `(tactic| (refine' UpdO.mk ?k ?h ?m ?_; (case k => assumption); (case h => walk_at "ul"); (case m => walk_at "own"); intro _ _))
local macro_rules | `(tactic| walk_at "st") => `(tactic| first
  | ((with_reducible refine' r_var ?h ?_); (case h => walk_at "ga"))
  | (with_reducible refine' r_seq ?_) | (with_reducible refine' r_next ?_) | (with_reducible refine' r_asg ?_) | (with_reducible refine' r_drop ?_) | (with_reducible refine' r_ret ?_) | (with_reducible refine' r_retN ?_)
  | (with_reducible refine' r_ifs ?_) | (with_reducible refine' r_cont ?_) | (with_reducible refine' r_break ?_) | (with_reducible refine' r_c ?_) | (with_reducible refine' r_op ?_) | (with_reducible refine' r_un ?_)
  | (with_reducible refine' r_test ?_) | (with_reducible refine' r_tB ?_) | (with_reducible refine' r_not ?_) | (with_reducible refine' r_and ?_) | (with_reducible refine' r_or ?_) | (with_reducible refine' r_notV ?_)
  | (with_reducible refine' r_andV ?_) | (with_reducible refine' r_orV ?_) | (with_reducible refine' r_ifE ?_) | (with_reducible refine' r_bl ?_) | (with_reducible refine' r_nil ?_) | (with_reducible refine' r_cons ?_)
  | (with_reducible refine' r_tup ?_) | (with_reducible refine' r_lst ?_) | (with_reducible refine' r_cb ?_) | (with_reducible refine' r_call ?_) | ((with_reducible refine' r_name ?h ?_); (case h => walk_at "sa")) | (with_reducible refine' r_gnil ?_)
  | (with_reducible refine' r_gcons ?_) | (with_reducible refine' r_gsub ?_) | (with_reducible refine' r_par ?_) | (with_reducible refine' r_par2 ?_) | (with_reducible refine' r_I0 ?_) | (with_reducible refine' r_U ?_)
  | ((with_reducible refine' r_eq ?h ?_); (case h => rfl)) | ((with_reducible refine' r_ne ?h ?_); (case h => rfl))
  | ((with_reducible refine' r_ixL ?h ?a ?_); (case h => walk_at "sql"); (case a => rfl))
  | ((with_reducible refine' r_ixT ?h ?a ?_); (case h => walk_at "sqt"); (case a => rfl))
  | ((with_reducible refine' r_setL ?h ?a ?_); (case h => walk_at "hp"); (case a => rfl))
  | ((with_reducible refine' r_I ?c ?_); (case c => walk_at "side"))
  | (with_reducible refine' r_sl ?_) | (with_reducible refine' r_part ?_) | (with_reducible refine' r_nopart ?_) | (with_reducible refine' r_ii ?_)
  | ((with_reducible refine' r_slL ?h ?_); (case h => walk_at "sql"))
  | (with_reducible refine' r_bm ?_) | (with_reducible refine' r_bm0 ?_) | (with_reducible refine' r_int1 ?_) | (with_reducible refine' r_int1b ?_)
  | ((with_reducible refine' r_aug ?h ?_); (case h => walk_at "ga"))
  | ((with_reducible refine' r_cat ?a ?b ?z ?_); (case a => walk_at "hp"); (case b => walk_at "hp"); (case z => walk_at "siz"))
  | ((with_reducible refine' r_append ?a ?z ?_); (case a => walk_at "hp"); (case z => walk_at "siz"))
  | ((with_reducible refine' And.intro ?z ?_); (case z => first | walk_at "siz" | exact Or.inl ⟨rfl, _, by walk_at "sql"⟩))
  | ((with_reducible refine' r_gtup ?h ?l ?_); (case h => walk_at "sqt"); (case l => rfl))
  | (with_reducible refine' r_forL ?_) | (with_reducible refine' r_forE ?_) | (with_reducible refine' r_forR ?_) | ((with_reducible refine' r_forL2 ?h ?_); (case h => walk_at "sql")) | ((with_reducible refine' r_forE2 ?h ?_); (case h => walk_at "sql"))
  | (with_reducible refine' r_lcR ?_) | ((with_reducible refine' r_iteT ?h ?_); (case h => rfl)) | ((with_reducible refine' r_iteF ?h ?_); (case h => rfl))
  | (with_reducible refine' r_dnew ?_) | (with_reducible refine' r_vei ?_) | (with_reducible refine' r_ost ?_) | (with_reducible refine' r_mkV ?_) | (with_reducible refine' r_mkX ?_) | (with_reducible refine' r_xfld ?_)
  | ((with_reducible refine' MkG.mk ?o ?n ?k ?_); (case o => exact ErrOk.o (by assumption)); (case n => exact ErrOk.no (by assumption)); (case k => assumption); intro _ _ _ _)
  | ((with_reducible refine' AllocX.mk ?k ?_); (case k => assumption); intro _ _ _ _)
  | (with_reducible refine' r_chain ?_) | (with_reducible refine' r_lcS ?_) | (with_reducible refine' r_lcS2 ?_) | (with_reducible refine' r_lcL ?_) | (with_reducible refine' r_lcT ?_) | (with_reducible refine' r_lcI ?_) | (with_reducible refine' r_yes ?_)
  | (with_reducible refine' r_fld ?_) | (with_reducible refine' r_sfld ?_) | (with_reducible refine' r_meth ?_) | (with_reducible refine' r_make ?_) | (with_reducible refine' r_dget ?_) | (with_reducible refine' r_din ?_) | (with_reducible refine' r_dput ?_)
  | ((with_reducible refine' r_disp ?k ?_); (case k => assumption); intro _ _ _ _) | (with_reducible refine' r_pnil ?_) | (with_reducible refine' r_pcons ?_)
  | (walk_at "al") | (walk_at "up"))
local macro_rules | `(tactic| walk_at "go") => `(tactic| repeat walk_at "st")

structure Bt2 (mg : Str → Option Value) : Prop where
  f_min : mg "min" = none
theorem r_callN {n m : Nat} {sp : Sp} {gV : List V → List V → List V} {E : XK} {t tk : TA} {σ : L2.St} {H : Hp} {Q : VK} (h : t σ H fun vs H1 => tk σ H1 fun zs H2 => vs.length = n ∧ zs.length = m ∧ sp (gV vs zs) H2 Q E) : L2.tCallN n m sp gV E t tk σ H Q := h
theorem FlB.nm {H : Hp} {T : List Cl} {x : V} {a : Str} (h : FlB H T x a) (hn : ∀ c, c ∈ T → c.name ∈ bkN) : FNm H x a := by
  obtain ⟨t, b, rfl, h1, ⟨q, _, h3, h4⟩, h5⟩ := h
  obtain ⟨d, hd, rfl⟩ := List.mem_map.mp h5
  exact ⟨t, _, rfl, h1, (fldN_ok q h3 a h4).2.2, (bkN_ok _ (hn d hd)).2.2⟩
/-- what add_class sees of drawn fields -/
theorem flc_scan {K : PySem.W.Frag} {H : Hp} {T : List Cl} {n : Nat} (w : BK T n) {z : Str} {xs : List V} {os : List Str} (h : PySem.Paired (FlC H T) xs os) (hos : ∀ a, a ∈ os → a ∈ fldN z) (zb : z ∈ bkL) (nd : os.Nodup) :
    ∃ vw : List Vw, vw.map (·.1) = xs ∧ (∀ q, q ∈ vw → ItemAt K H q) ∧ ∀ as : List Str, (∀ a, a ∈ os → a ∉ as) → scan T (as.map V.str) vw = none := by
  induction h with
  | nil => exact ⟨[], rfl, fun q hq => (by cases hq), fun as _ => rfl⟩
  | @cons x a xs os hx _ ih =>
    obtain ⟨t, b, rfl, h1, h2⟩ := hx
    rw [List.nodup_cons] at nd
    obtain ⟨vw, e1, e2, e3⟩ := ih (fun q hq => hos q (List.mem_cons_of_mem _ hq)) nd.2
    obtain ⟨d, hd, rfl⟩ := List.mem_map.mp h2
    have ao := fldN_ok z zb a (hos a List.mem_cons_self)
    have bo := bkN_ok _ (w.nm d hd)
    refine ⟨(.ref t, some [.str a, .str d.name]) :: vw, by rw [List.map_cons, e1], fun q hq => ?_, fun as has => ?_⟩
    · rcases List.mem_cons.mp hq with rfl | hq
      · refine ⟨.tupl h1, fun ys e => ?_⟩
        cases e
        refine ⟨by simp, fun y hy => ?_⟩
        simp at hy
        rcases hy with rfl | rfl
        · exact ⟨none, .str (by omega)⟩
        · exact ⟨none, .str (by omega)⟩
      · exact e2 q hq
    · have ok : okI T (as.map V.str) (some [.str a, .str d.name]) = true := by
        show (nameV (.str a) && (!inV (.str a) (as.map V.str) && clsV T (.str d.name))) = true
        rw [show nameV (.str a) = true from ao.1, inV_strs', w.cls hd, show as.contains a = false from by
          have := has a List.mem_cons_self
          simpa using this]
        rfl
      show (if okI T (as.map V.str) (some [.str a, .str d.name]) = true then scan T (as.map V.str ++ [.str a]) vw else _) = none
      rw [if_pos ok, show as.map V.str ++ [V.str a] = (as ++ [a]).map V.str by rw [List.map_append] <;> rfl]
      refine e3 (as ++ [a]) fun q hq m => ?_
      rcases List.mem_append.mp m with m | m
      · exact has q (List.mem_cons_of_mem _ hq) m
      · rw [List.mem_singleton.mp m] at hq
        exact nd.1 hq
abbrev NN_l_runtime : List Str := ["_law_well_here", "_law_system", "_law_book", "_law_name", "_law_upper", "_law_own", "_law_bounds", "_law_one_here", "_law_field"]
/-- the runtime and its book -/
structure Book (K : PySem.W.Frag) (CK CR : Addr) (H : Hp) (r kd tl bd t0 : Addr) (T : List Cl) (n : Nat) : Prop where
  bk : BK T n
  R : RtW K CK CR H r kd tl T n
  dct : ∃ kvs, H bd = some (.dK kvs) ∧ ByN (RowB H) T kvs
  fl : FlsAt H T
  tls : H tl = some (.lst (List.replicate (n + 1) (.ref t0)))
  t0_ : H t0 = some (.dK [])
  al3 : ∀ c, c ∈ T → c.all.length ≤ 3
theorem Book.frn {K : PySem.W.Frag} {CK CR : Addr} {A : List Addr} {H H' : Hp} {r kd tl bd t0 : Addr} {T : List Cl} {n : Nat} (B : Book K CK CR H r kd tl bd t0 T n) (f : Wc.FrN A H H') (m : Mo H H') (h1 : kd ∉ A) (h2 : tl ∉ A) (h3 : bd ∉ A) (h4 : t0 ∉ A) : Book K CK CR H' r kd tl bd t0 T n := by
  obtain ⟨b1, b2, ⟨kvs, b3, b4⟩, b5, b6, b7, b8⟩ := B
  exact ⟨b1, b2.frn f m h1 h2, ⟨kvs, f _ _ h3 (fun _ z => nomatch z) b3, b4.mono fun _ _ z => z.mo m⟩, b5.mo m, f _ _ h2 (fun _ z => nomatch z) b6, f _ _ h4 (fun _ z => nomatch z) b7, b8⟩
section
variable {P : Program} {w : World} {K : PySem.W.Frag} {mg : Str → Option Value} {base : Heap} {f : Addr} {fd : FuncData} {CK CR NC TK NF tF : Addr}
def spLRt (K : PySem.W.Frag) (CK CR : Addr) : Sp := fun vs H Q _ => ∃ pw a b c N, vs = [.ref pw] ∧ H pw = some (wl a b c) ∧ WellOk N b c ∧ N ≤ 10000000 ∧
  ∀ r kd tl bd t0 T n t a' c' H', n ≤ 4 → Book K CK CR H' r kd tl bd t0 T n → T.map (·.name) = six.take (n + 2) → (∀ q, q ∈ [kd, tl, bd, t0] → H q = none) → [pw, kd, tl, bd, t0].Nodup → H' t = some (.tup [.ref r, .ref bd]) → H' pw = some (wl a' b c') → WellOk (N + 40) b c' → Wc.Fr [pw] H H' → Q (.ref t) H'
theorem ok_lruntime {fa : Addr} {fdA : FuncData} (F : FnP K "_law_runtime" s_l_runtime f fd) (T : Bt mg) (T2 : Bt2 mg) (K_Runtime : MkOk P w K mg base CX0 3 "Runtime" CR ["self"] (spRuntime K CK CR)) (D_l_draw : DfOk P w K mg base CX0 1 "_law_draw" ["_law_well_here", "_law_many"] spDraw)
    (D_l_one : DfOk P w K mg base CX0 2 "_law_one" ["_law_well_here", "_law_some"] (spOne K)) (gA : mg "add_class" = some (.ref fa)) (kpA : PySem.W.keepIn K (.ref fa) = true) (KB : KBn K fdA ["runtime", "name", "parent", "fields"] 3 ["fields"] (fun us ws => us ++ ws) (fun vs zs => vs ++ zs))
    (FA : FnOk P w K mg base (L2.CX P w) 4 fa fdA ["runtime", "name", "parent", "fields"] (spAdd K CK CR NC TK NF)) : FnOk P w K mg base CX0 5 f fd ["_law_well_here"] (spLRt K CK CR) := by
  refine F.ok sc_l_runtime (fun vs H Q E h => ?_) (fun cdv A outer s H vs Q E hr h => ?_)
  · obtain ⟨pw, a, b, c, N, rfl, _⟩ := h
    rfl
  · refine ⟨_, PSs.nox (pss_cons (ps_asg (pe_tup (pa_cons (pe_makeC0 K_Runtime hr) (pa_cons (pe_disp (pps_cons pe_str (pe_tup (pa_cons pe_non (pa_cons pe_int pa_nil))) (pps_cons pe_str (pe_tup (pa_cons pe_str (pa_cons pe_int pa_nil))) pps_nil)) rfl rfl (fun z => nomatch z) (by decide)) pa_nil))) (pg_tup rfl (pgs_cons (pg_name (i := 1) sc_l_runtime.nd rfl (by first | exact Or.inl rfl | exact Or.inr rfl)) (pgs_cons (pg_name (i := 2) sc_l_runtime.nd rfl (by first | exact Or.inl rfl | exact Or.inr rfl)) pgs_nil))))
      (pss_cons (ps_for PassesOwn.never rfl (pi_list (pe_slice sl_list (pe_lst (pa_cons pe_str (pa_cons pe_str (pa_cons pe_str (pa_cons pe_str pa_nil))))) po_none (po_some (pe_callD D_l_draw hr (pa_cons (pv 0) (pa_cons pe_int pa_nil)))))) (pg_name (i := 3) sc_l_runtime.nd rfl (by first | exact Or.inl rfl | exact Or.inr rfl)) (pss_cons (ps_set (i := 4) sc_l_runtime.nd rfl (by first | exact Or.inl rfl | exact Or.inr rfl) (pe_callD D_l_one hr (pa_cons (pv 0) (pa_cons (pe_lock (pe_lc (own := [("_law_one_here", 7)]) rfl sc_l_runtime.nd (pi_keys (pv 2)) (blkOk_by (N := NN_l_runtime) (sc := defScope s_l_runtime) (by decide +kernel)) (fun _ _ _ _ _ => (pg_name (i := 7) sc_l_runtime.nd rfl (by first | exact Or.inl rfl | exact Or.inr rfl))) (fun _ _ _ _ _ => (pts_one (pt_cmpR op_ne (pv 7) pe_str (nomark _)))) (fun _ _ _ _ _ => (pv 7)))) pa_nil))))
      (pss_cons (ps_set (i := 5) sc_l_runtime.nd rfl (by first | exact Or.inl rfl | exact Or.inr rfl) (pe_slice sl_list (pe_lst (pa_cons (pe_op op_add_str (pv 3) pe_str) (pa_cons (pe_op op_add_str (pv 3) pe_str) pa_nil))) po_none (po_some (pe_callD D_l_draw hr (pa_cons (pv 0) (pa_cons (pe_callB (call_min2 rfl) (by rfl) T2.f_min PyProof.Rows.boot_min (pa_cons pe_int (pa_cons (pe_op op_sub pe_int (pe_ix ix_tup (pe_dget (un1 hr) (pv 2) (pv 4) (fun _ _ => rfl)) pe_int (fun _ _ => rfl))) pa_nil))) pa_nil))))))
      (pss_cons (ps_setLc (i := 6) (own := [("_law_field", 8)]) rfl sc_l_runtime.nd rfl rfl (sw_true rfl rfl rfl (by decide +kernel)) (pi_list (pv 5)) (blkOk_by (N := NN_l_runtime) (sc := defScope s_l_runtime) (by decide +kernel)) (fun _ _ _ _ _ => (pg_name (i := 8) sc_l_runtime.nd rfl (by first | exact Or.inl rfl | exact Or.inr rfl))) (fun _ _ _ _ _ => pts_nil) (fun _ _ _ _ _ => (pe_tup (pa_cons (pv 8) (pa_cons (pe_callD D_l_one hr (pa_cons (pv 0) (pa_cons (pe_callTy (call_listD rfl) (by rfl) T.f_list PyProof.Rows.boot_list (pa_cons (pv 2) pa_nil)) pa_nil))) pa_nil)))))
      (pss_cons (ps_expr (pe_callN FA hr (by rfl) gA kpA KB (by first | exact pass0 | exact passL) (pa_cons (pv 1) (pa_cons (pv 3) (pa_cons (pv 4) pa_nil))) (pk_cons (pe_callTy call_tuple_of (by rfl) T.f_tuple PyProof.Rows.boot_tuple (pa_cons (pv 6) pa_nil)) pk_nil)))
      (pss_one (ps_dput (un1 hr) (pv 2) (pv 3) (pe_tup (pa_cons (pv 4) (pa_cons (pe_op op_add (pe_ix ix_tup (pe_dget (un1 hr) (pv 2) (pv 4) (fun _ _ => rfl)) pe_int (fun _ _ => rfl)) (pe_callB call_len_seq (by rfl) T.f_len PySem.boot_len (pa_cons (pv 5) pa_nil))) pa_nil))) rfl)))))))
      (pss_one (ps_ret (pe_tup (pa_cons (pv 1) (pa_cons (pv 2) pa_nil))))))), ?_⟩
    obtain ⟨pw, a, b, c, N, rfl, hpw, wo, hN, k⟩ := h
    rw [show L2.start ["_law_well_here", "_law_system", "_law_book", "_law_name", "_law_upper", "_law_own", "_law_bounds", "_law_one_here", "_law_field"] [V.ref pw] = ([some (V.ref pw), none, none, none, none, none, none, none, none] : List (Option V)) from rfl]
    have kh := KH.start1 hpw
    walk_at "go"
    intro x dx hx0 hdx0 ne0
    have kx := (kh.new (o := .own x) hdx0).new (p := x) (o := .ins CR dx []) (by rw [upd_ne (Ne.symm ne0)]; exact hx0)
    refine ⟨x, dx, rfl, upd_same, fun kd tl t0 H1 f1 R1 nkd ntl htl1 ht01 nt0 => ⟨rfl, ?_⟩⟩
    generalize upd (upd H dx (.own x)) x (.ins CR dx []) = Hx at kx f1 nkd ntl nt0
    obtain ⟨⟨dx1, fs1, h1x, _⟩, _⟩ := id R1.at_
    have nkd0 : H kd = none := kx.fresh nkd
    have ntl0 : H tl = none := kx.fresh ntl
    have nt00 : H t0 = none := kx.fresh nt0
    have k0 := kx.up .here f1 h1x (.inr hx0)
    have f01 : Wc.Fr [pw] H H1 := k0.fr
    have hp1 := k0.find (p := pw) (o := wl a b c) (by walk_at "lk")
    have k1 := KH.start1 hp1
    obtain ⟨kv1, hkd1⟩ := R1.kd
    have nkp : kd ≠ pw := ne_of hkd1 hp1 (by intro z; cases z)
    have ntp : tl ≠ pw := ne_of htl1 hp1 (by intro z; unfold wl at z; cases z)
    have nkt : kd ≠ tl := ne_of hkd1 htl1 (by intro z; cases z)
    have nt0p : t0 ≠ pw := ne_of ht01 hp1 (by intro z; unfold wl at z; cases z)
    have nt0t : t0 ≠ tl := ne_of ht01 htl1 (by intro z; cases z)
    have nt0k : t0 ≠ kd := by
      obtain ⟨kvs0, b1, b2⟩ := R1.at_.kd
      rcases b1 with b1 | ⟨o, b1⟩
      · refine ne_of ht01 b1 (fun z => ?_)
        injection z with z
        have := b2.length
        rw [← z] at this
        cases this
      · rw [hkd1] at b1
        cases b1
    clear kx kh k0
    walk_at "go"
    rename_i td H4 ntd k4 t1 H5 nt1 k5 t2 H6 nt2 k6
    refine' r_dispE [(.inr "any", .ref t1), (.inr "int", .ref t2)] ?qh ?qe ?ql ?_
    case qh => exact k6.find (by walk_at "lk")
    case qe => rfl
    case ql => simp
    have k9 := KH.up k6 (o' := .dK [(.inr "any", .ref t1), (.inr "int", .ref t2)]) (by walk_at "ul") (Fr.updE (by simp)) upd_same (.inr ntd)
    rw [show mergeK [] [(Sum.inr ("any" : Str), V.ref t1), (Sum.inr ("int" : Str), V.ref t2)] = ([(Sum.inr ("any" : Str), V.ref t1), (Sum.inr ("int" : Str), V.ref t2)] : List (Key × V)) from rfl]
    generalize upd H6 td _ = H9 at k9 ⊢
    clear k4 k5 k6
    walk_at "go"
    rename_i t10 H10 n10 k10 l11 H11 n11 k11
    refine ⟨pw, 5, a, b, c, N, rfl, by decide, by decide, k11.find (by walk_at "lk"), wo, by omega, fun d a12 c12 H12 d0 d1 wo12 f12 h12 => ?_⟩
    have k12 := k11.up (by walk_at "ul") f12 h12 (.inl (by simp))
    obtain ⟨dn, rfl⟩ : ∃ dn : Nat, d = dn := ⟨d.toNat, by omega⟩
    walk_at "go"
    rename_i l13 H13 n13 k13
    have htd13 := k13.find (p := td) (o := .dK [(.inr "any", .ref t1), (.inr "int", .ref t2)]) (by walk_at "lk")
    have hp13 := k13.find (p := pw) (o := wl a12 b c12) (by walk_at "lk")
    have f113 : Wc.Fr [pw] H1 H13 := k13.fr
    have m113 : Mo H1 H13 := Mo.fr1 f113 hp1 rfl
    have bn13 : ByN (RowB H13) T0 [(.inr "any", .ref t1), (.inr "int", .ref t2)] := .cons ⟨rfl, t1, rfl, k13.find (o := .tup [.non, .int 0]) (by walk_at "lk")⟩ (.cons ⟨rfl, t2, rfl, k13.find (o := .tup [.str "any", .int 0]) (by walk_at "lk")⟩ .nil)
    have hl13 : H13 l13 = some (.lst (((["a", "b", "c", "d"] : List Str).map V.str).take dn)) := by
      refine (k13.find (p := l13) .here).trans ?_
      show some (HO.lst (cutV ((["a", "b", "c", "d"] : List Str).map V.str) none (some (dn : Int)))) = _
      have h : dn = 0 ∨ dn = 1 ∨ dn = 2 ∨ dn = 3 ∨ dn = 4 := by omega
      rcases h with rfl | rfl | rfl | rfl | rfl <;> rfl
    have ntdp : td ≠ pw := (ne_of_none hp1 ntd).symm
    have ntdt : td ≠ tl := (ne_of_none htl1 ntd).symm
    have ntdk : td ≠ kd := (ne_of_none hkd1 ntd).symm
    have ntd0 : td ≠ t0 := (ne_of_none ht01 ntd).symm
    have nl0 : H1 l13 = none := n13
    have nlA : l13 ∉ [pw, kd, tl, td] := by
      have e1 : l13 ≠ pw := (ne_of_none hp1 nl0).symm
      have e2 : l13 ≠ kd := (ne_of_none hkd1 nl0).symm
      have e3 : l13 ≠ tl := (ne_of_none htl1 nl0).symm
      have e4 : l13 ≠ td := ne_of hl13 htd13 (by intro z; cases z)
      simp [e1, e2, e3, e4]
    have B13 : Book K CK CR H13 x kd tl td t0 T0 0 := ⟨BK.start, R1.fr f113 m113 (by simpa using nkp) (by simpa using ntp), ⟨_, htd13, bn13⟩, fun c hc => by
      simp at hc
      rcases hc with rfl | rfl <;> exact ⟨[], .nil⟩, f113 _ _ (by simpa using ntp) htl1, f113 _ _ (by simpa using nt0p) ht01, fun c hc => by
      simp at hc
      rcases hc with rfl | rfl <;> exact Nat.zero_le _⟩
    have lx : (((["a", "b", "c", "d"] : List Str).map V.str).take dn).length = dn := by
      rw [List.length_take, List.length_map]
      simp
      omega
    refine ForG.mk (xs := ((["a", "b", "c", "d"] : List Str).map V.str).take dn) (fun i σ Hi => ∃ T v3 v4 v5 v6 a' c', σ = [some (.ref pw), some (.ref x), some (.ref td), v3, v4, v5, v6, none, none] ∧ Book K CK CR Hi x kd tl td t0 T i ∧ T.map (·.name) = six.take (i + 2) ∧ Hi pw = some (wl a' b c') ∧ WellOk (N + 1 + 5 * i) b c' ∧ Wc.Fr [pw, kd, tl, td] H13 Hi)
      ⟨T0, none, none, none, none, a12, c12, rfl, B13, rfl, hp13, wo12, Wc.Fr.refl _ _⟩ (fun i σ Hi _ z => by
        obtain ⟨_, _, _, _, _, _, _, _, _, _, _, _, f⟩ := z
        exact SqL.of (f _ _ nlA hl13)) ?_ ?_
    · rintro i y σ Hi hy ⟨T, v3, v4, v5, v6, a2, c2, rfl, B, hT, hpi, woi, fi⟩
      have hid : i < dn := by
        have := (List.getElem?_eq_some_iff.mp hy).1
        omega
      have hi4 : i < 4 := by omega
      obtain ⟨z, hz, rfl⟩ : ∃ z, (["a", "b", "c", "d"] : List Str)[i]? = some z ∧ y = V.str z := by
        rw [List.getElem?_take, if_pos hid, List.getElem?_map] at hy
        obtain ⟨z, h1, h2⟩ := Option.map_eq_some_iff.mp hy
        exact ⟨z, h1, h2.symm⟩
      obtain ⟨zn, zb, zt⟩ := six_at hi4 hz
      have fz : findC T z = none := B.bk.fresh (by rw [hT]; exact zn)
      obtain ⟨bk, R, ⟨kvs, hbd, bn⟩, fls, tls, ht0, bal3⟩ := id B
      have hTl : T.length ≤ 6 := by rw [bk.tl]; omega
      have hkl : kvs.length ≤ 6 := by rw [bn.length]; exact hTl
      walk_at "go"
      refine r_lockE hbd trivial fun od => ?_
      have hlk : upd Hi td (.frz od (.dK kvs)) td = some (.frz od (.dK kvs)) := upd_same
      have hout : ∀ {H' : Hp}, Wc.Ext (upd Hi td (.frz od (.dK kvs))) H' → Wc.Ext Hi (upd H' td (.dK kvs)) := fun e => lock_out hbd e
      generalize upd Hi td (.frz od (.dK kvs)) = HL at hlk hout ⊢
      walk_at "go"
      refine r_lcK ?_
      walk_at "go"
      refine ⟨td, od, rfl, .inl ⟨kvs, hlk, ?_⟩⟩
      refine lcJ walk_keys (fun i => T[i]?.bind nonI) (by omega) (fun _ e => e _ _ hlk) ?_ ?_
      · rintro i2 v2 Hm1 Hm2 R' N' hi2 em ⟨rfl, kk, vv, hkv, rfl⟩ hR hN
        obtain ⟨cc2, hc2, hn2, _⟩ := Wc.paired_get bn hkv
        dsimp only at hn2
        subst hn2
        walk_at "go"
        refine ⟨rfl, ?_⟩
        walk_at "go"
        by_cases hs : cc2.name = "int"
        · rw [show decide (kV (Sum.inr cc2.name) = V.str "int") = true from decide_eq_true (by rw [hs] <;> rfl)]
          exact hN _ (by rw [hc2]; exact nonI_int hs) (Wc.Ext.refl _)
        · rw [show decide (kV (Sum.inr cc2.name) = V.str "int") = false from decide_eq_false (fun e => hs (by injection e))]
          walk_at "go"
          exact hR _ _ (by rw [hc2]; exact nonI_else hs) (Wc.Ext.refl _)
      intro p6 Hb hp6 eb hlb
      refine ⟨eb _ _ hlk, ?_⟩
      have e3 := hout eb
      have hlc : upd Hb td (.dK kvs) p6 = some (.lst ((List.range kvs.length).filterMap fun i => T[i]?.bind nonI)) := by
        rw [upd_ne (fun e => by rw [e, hlk] at hp6; cases hp6)]
        exact hlb
      generalize upd Hb td (.dK kvs) = Hc at e3 hlc
      rw [bn.length, range_fm] at hlc
      have hpc := e3 _ _ hpi
      have np6 : pw ≠ p6 := ne_of hpc hlc (by
        intro e
        unfold wl at e
        injection e with e
        have : V.int a2 ∈ T.filterMap nonI := by rw [← e]; exact List.mem_cons_self
        obtain ⟨q, _, _, hq⟩ := nonI_mem this
        cases hq)
      obtain ⟨ca, hca, _⟩ := bk.any
      have lpos : 0 < (T.filterMap nonI).length := List.length_pos_of_mem (a := V.str "any") (List.mem_filterMap.mpr ⟨ca, (find_mem hca).1, by rw [nonI_else (by rw [(find_mem hca).2]; decide +kernel), (find_mem hca).2]⟩)
      have llen := List.length_filterMap_le nonI T
      walk_at "go"
      refine ⟨pw, p6, _, a2, b, c2, N + 1 + 5 * i, rfl, hpc, SqL.of hlc, lpos, by omega, np6, woi, by omega, fun y a3 c3 H3 hy3 wo3 f3 h3 => ?_⟩
      obtain ⟨cp, hcp, npi, rfl⟩ := nonI_mem hy3
      have fi3 : Wc.Fr [pw] Hi H3 := e3.fr.trans f3
      have mi3 : Mo Hi H3 := Mo.fr1 fi3 hpi rfl
      have htd3 : H3 td = some (.dK kvs) := fi3 _ _ (by simpa using ntdp) hbd
      obtain ⟨vp, hvp, tp, rfl, htp⟩ := bn.some (bk.find hcp)
      have htp3 := mi3 _ _ rfl htp
      have apl := bal3 cp hcp
      clear hlc hlk hout hlb eb
      have k3 := (KH.start1 h3).cons htd3 (by simpa using ntdp)
      walk_at "go"
      refine ⟨_, _, rfl, rfl, sz_of (by have := (bkN_ok z (bkL_N z zb).1).2.1; show z.length + 1 ≤ 100000; omega), ?_⟩
      walk_at "go"
      refine ⟨_, _, rfl, rfl, sz_of (by have := (bkN_ok z (bkL_N z zb).1).2.1; show z.length + 1 ≤ 100000; omega), ?_⟩
      walk_at "go"
      rename_i l4 H4 n4 k4
      refine dget_mk (.inl (k4.find (by walk_at "lk"))) hvp ?_
      walk_at "go"
      refine r_ixT (SqT.of ((Mo.fr1 k4.fr h3 rfl) _ _ rfl htp3)) rfl ?_
      walk_at "go"
      refine ⟨3, 4 - (cp.all.length : Int), rfl, ?_⟩
      have m0 : (0 : Int) < if 4 - (cp.all.length : Int) < 3 then 4 - (cp.all.length : Int) else 3 := by split <;> omega
      have m1 : (if 4 - (cp.all.length : Int) < 3 then 4 - (cp.all.length : Int) else 3) ≤ 3 ∧ (if 4 - (cp.all.length : Int) < 3 then 4 - (cp.all.length : Int) else 3) ≤ 4 - (cp.all.length : Int) := by split <;> omega
      generalize (if 4 - (cp.all.length : Int) < 3 then 4 - (cp.all.length : Int) else 3) = mm at m0 m1 ⊢
      walk_at "go"
      refine ⟨pw, mm, a3, b, c3, N + 1 + 5 * i + 1, rfl, m0, by omega, k4.find (by walk_at "lk"), wo3, by omega, fun d5 a5 c5 H5 d50 d51 wo5 f5 h5 => ?_⟩
      obtain ⟨dm, rfl⟩ : ∃ dm : Nat, d5 = dm := ⟨d5.toNat, by omega⟩
      have k5 := k4.up (by walk_at "ul") f5 h5 (.inl (by simp))
      walk_at "go"
      rename_i l6 H6 n6 k6
      have hl6 : H6 l6 = some (.lst (((fldN z).take dm).map V.str)) := by
        rw [show ((fldN z).take dm).map V.str = cutV [V.str (z ++ "x"), V.str (z ++ "y")] none (some (dm : Int)) from by rw [take_str (by omega), List.map_take] <;> rfl]
        exact k6.find .here
      have osl : ((fldN z).take dm).length = dm := by
        rw [List.length_take]
        show min dm 2 = dm
        omega
      have osm : ∀ q, q ∈ (fldN z).take dm → q ∈ fldN z := fun q hq => List.mem_of_mem_take hq
      have osn : ((fldN z).take dm).Nodup := List.Nodup.sublist (List.take_sublist _ _) (List.nodup_cons.mpr ⟨by simp [fldN_xy z zb], by simp⟩)
      generalize (fldN z).take dm = os at hl6 osl osm osn
      have f36 : Wc.Fr [pw] H3 H6 := k6.fr
      have hp6 := k6.find (p := pw) (o := wl a5 b c5) (by walk_at "lk")
      have htd6 := k6.find (p := td) (o := .dK kvs) (by walk_at "lk")
      have nl6 : l6 ≠ pw := ne_of hl6 hp6 (by
        intro e
        unfold wl at e
        injection e with e
        cases os with
        | nil => cases e
        | cons q os => injection e with e1 e2; cases e1)
      have fi6 : Wc.Fr [pw] Hi H6 := fi3.trans f36
      clear k3 k4 k5 k6
      refine ⟨l6, rfl, ⟨_, SqL.of hl6⟩, ?_⟩
      refine lcP (walk_list (xs := os.map V.str)) (fun j acc H' => (∃ a' c', H' pw = some (wl a' b c') ∧ WellOk (N + 1 + 5 * i + 2 + j) b c') ∧ Wc.Fr [pw] H6 H' ∧ PySem.Paired (FlC H' T) acc (os.take j)) ⟨⟨a5, c5, hp6, wo5⟩, Wc.Fr.refl _ _, by rw [List.take_zero]; exact .nil⟩ (by rw [List.length_map]; omega)
        (fun D j acc H' H'' hD mo fr ⟨⟨a', c', g1, g2⟩, g3, g4⟩ => ⟨⟨a', c', fr _ _ (by simpa using ne_of_none hp6 hD) g1, g2⟩, fun q o hq hz => fr _ _ (by simpa using ne_of_none hz hD) (g3 q o hq hz), Paired.mapP g4 fun _ _ u => u.mo mo⟩)
        (fun j acc H' _ ⟨_, g3, _⟩ => SqL.of (g3 _ _ (by simpa using nl6) hl6)) ?_ ?_
      · rintro j y acc G1 G2 D R' N' hj hD hdD ⟨⟨a', c', g1, g2⟩, g3, g4⟩ ⟨rfl, hy⟩ hR hN
        rw [List.length_map] at hj
        rw [List.getElem?_map] at hy
        obtain ⟨fn, hfn, rfl⟩ := Option.map_eq_some_iff.mp hy
        walk_at "go"
        refine ⟨rfl, ?_⟩
        have kg := (KH.start1 g1).cons hdD (by simpa using (ne_of_none hp6 hD).symm)
        walk_at "go"
        refine ⟨td, kvs, rfl, .inl (g3 _ _ (by simpa using ntdp) htd6), ?_⟩
        intro lp nlp1
        have k3 := kg.new (o := .lst (kvs.map fun kv => kV kv.1)) nlp1
        have nlp := kg.fresh nlp1
        generalize upd G2 lp _ = G3 at k3 ⊢
        have hlp := k3.find (p := lp) .here
        rw [byn_keys bn] at hlp
        walk_at "go"
        refine ⟨pw, lp, _, a', b, c', N + 1 + 5 * i + 2 + j, rfl, k3.find (by walk_at "lk"), SqL.of hlp, by rw [List.length_map, List.length_map, bk.tl]; omega, by rw [List.length_map, List.length_map]; omega, ne_of_none g1 nlp, g2, by omega, fun y a4 c4 G4 hy4 wo4 f4 h4 => ?_⟩
        obtain ⟨bn4, hbn4, rfl⟩ := List.mem_map.mp hy4
        have k4 := k3.up (by walk_at "ul") f4 h4 (.inl (by simp))
        walk_at "go"
        rename_i t5 G5 n5 k5
        have g15 : Wc.Fr [pw] G2 G5 := k5.fr
        have m15 : Mo G2 G5 := Mo.fr1 g15 g1 rfl
        refine hR _ _ ⟨⟨a4, c4, (by have z := KH.find (p := pw) k5 (by walk_at "lk"); exact z), wo4⟩, g3.trans g15, ?_⟩ (by have z := KH.find (p := D) k5 (by walk_at "lk"); exact z)
        rw [List.take_succ, hfn]
        exact pairedApp (Paired.mapP g4 fun _ _ u => u.mo m15) (.cons ⟨t5, bn4, rfl, (by have z := KH.find (p := t5) k5 (by walk_at "lk"); exact z), hbn4⟩ .nil)
      intro l7 H7 acc nl7 h7p hl7
      obtain ⟨⟨a7, c7, hp7, wo7⟩, f67, pfl⟩ := h7p
      rw [List.length_map, List.take_length] at pfl
      rw [List.length_map] at wo7
      have fi7 : Wc.Fr [pw] Hi H7 := fi6.trans f67
      have mi7 : Mo Hi H7 := Mo.fr1 fi7 hpi rfl
      have accl : acc.length = dm := by rw [Paired.length pfl, osl]
      walk_at "go"
      refine r_callN ?_
      walk_at "go"
      refine ⟨l7, acc, rfl, .inl ⟨SqL.of hl7, ?_⟩⟩
      have k7 := KH.start (H := H7)
      intro ft nft
      have k8 := k7.new (o := .tup acc) nft
      generalize upd H7 ft _ = H8 at k8 ⊢
      have f78 : Wc.Ext H7 H8 := k8.extE
      have fi8 : Wc.Fr [pw] Hi H8 := fi7.trans f78.fr
      have mi8 : Mo Hi H8 := mi7.trans f78.mo
      have B8 := B.frn fi8.n mi8 (by simpa using nkp) (by simpa using ntp) (by simpa using ntdp) (by simpa using nt0p)
      have hft : H8 ft = some (.tup acc) := k8.find .here
      have pfl8 : PySem.Paired (FlC H8 T) acc os := Paired.mapP pfl fun _ _ u => u.mo f78.mo
      clear k8
      obtain ⟨vw, vw1, vw2, vw3⟩ := flc_scan B8.bk pfl8 osm zb osn
      obtain ⟨as, has⟩ := B8.fl cp hcp
      walk_at "go"
      refine ⟨rfl, rfl, ?_⟩
      have hzc : nameV (.str z) = true := (bkN_ok z (bkL_N z zb).1).1
      refine ⟨x, kd, tl, T, i, .str z, none, .str cp.name, none, .ref ft, some acc, rfl, B8.R, by omega, by omega, .str (by have := (bkN_ok z (bkL_N z zb).1).2.1; omega), .str (by have := (bkN_ok _ (bk.nm cp hcp)).2.1; omega), .tupl hft, (fun q => by rw [hzc] at q; cases q), fun z' ez _ => ?_⟩
      obtain rfl : z = z' := by injection ez
      refine ⟨(fun q => by rw [fz] at q; cases q), fun _ => ⟨(fun q => by rw [bk.cls hcp] at q; cases q), fun _ p' ep => ?_⟩⟩
      obtain rfl : cp.name = p' := by injection ep
      refine ⟨fun q => absurd q npi, fun _ c' hc' => ?_⟩
      obtain rfl : cp = c' := Option.some.inj ((bk.find hcp).symm.trans hc')
      refine ⟨as, Paired.mapP has fun _ _ u => FlB.nm u bk.nm, by rw [← Paired.length has]; omega, ?_, fun xs exs _ => ?_⟩
      · rintro (q | ⟨xs, q, q2⟩)
        · cases q
        · cases q
          omega
      obtain rfl : acc = xs := Option.some.inj exs
      refine ⟨vw, vw1, vw2, fun q hq => ?_, fun hsc ts tv H9 hts htv f9 R9 hl9' => ?_⟩
      · rw [vw3 as (fun a ha m => fld_new bk has fz zb (osm a ha) m)] at hq
        cases hq
      obtain rfl : List.replicate (i + 1) (V.ref t0) = ts := by
        rw [B8.tls] at hts
        exact HO.lst.inj (Option.some.inj hts)
      obtain rfl : V.ref t0 = tv := by
        rw [List.getElem?_replicate, if_pos (by omega)] at htv
        exact Option.some.inj htv
      have nkA : ∀ q, q ≠ kd → q ≠ tl → q ∉ [kd, tl] := fun q h1 h2 => by simp [h1, h2]
      have m89 : Mo H8 H9 := Mo.fr f9 (fun q hq => by
        simp at hq
        rcases hq with rfl | rfl
        · obtain ⟨kv, hk⟩ := B8.R.kd
          exact ⟨_, hk, rfl⟩
        · exact ⟨_, B8.tls, rfl⟩)
      have o9 : ∀ q o, q ≠ kd → q ≠ tl → H8 q = some o → H9 q = some o := fun q o h1 h2 h => f9 _ _ (nkA q h1 h2) h
      obtain ⟨kvs8, htd8, bn8⟩ := B8.dct
      obtain rfl : kvs = kvs8 := by
        have e := fi8 _ _ (by simpa using ntdp) hbd
        rw [htd8] at e
        exact (HO.dK.inj (Option.some.inj e)).symm
      have htd9 := o9 _ _ ntdk ntdt htd8
      have hp9 := o9 _ _ nkp.symm ntp.symm (f78 _ _ hp7)
      obtain ⟨kvk, hkdi⟩ := R.kd
      have nlk : l6 ≠ kd := (ne_of_none (fi3 _ _ (by simpa using nkp) hkdi) n6).symm
      have nlt : l6 ≠ tl := (ne_of_none (fi3 _ _ (by simpa using ntp) tls) n6).symm
      have hl9 : H9 l6 = some (.lst (os.map V.str)) := o9 _ _ nlk nlt (f78 _ _ (f67 _ _ (by simpa using nl6) hl6))
      have htp9 := m89 _ _ rfl (mi8 _ _ rfl htp)
      have k9 := KH.start (H := H9)
      walk_at "go"
      refine dget_mk (.inl htd9) hvp ?_
      walk_at "go"
      refine ⟨l6, _, rfl, .inl (SqL.of hl9), ?_⟩
      walk_at "go"
      rename_i tq H10 nq k10
      have e10 := k10.extE
      have htd10 := e10 _ _ htd9
      refine ⟨td, _, rfl, DPut.k (k := .inr z) htd10 (sz_lt (by omega)), ?_⟩
      have mo10 : Mo H10 (upd H10 td (.dK (putK kvs (.inr z) (.ref tq)))) := Mo.upd htd10 rfl
      have fr10 : Wc.Fr [td] H10 (upd H10 td (.dK (putK kvs (.inr z) (.ref tq)))) := Fr.updE (by simp)
      have h11td : upd H10 td (.dK (putK kvs (.inr z) (.ref tq))) td = some (.dK (putK kvs (.inr z) (.ref tq))) := upd_same
      generalize upd H10 td (.dK (putK kvs (.inr z) (.ref tq))) = H11 at mo10 fr10 h11td ⊢
      have m811 : Mo H8 H11 := m89.trans (e10.mo.trans mo10)
      have o11 : ∀ q o, q ≠ td → H9 q = some o → H11 q = some o := fun q o h1 h => fr10 _ _ (by simpa using h1) (e10 _ _ h)
      have R11 : RtW K CK CR H11 x kd tl (T ++ [⟨z, some cp.name, acc, cp.all ++ acc, i + 1⟩]) (i + 1) := (R9.fr (A := []) e10.fr e10.mo (by simp) (by simp)).fr fr10 mo10 (by simpa using ntdk.symm) (by simpa using ntdt.symm)
      have hall : cp.all.length + acc.length ≤ 3 := by omega
      have row : RowB H11 ⟨z, some cp.name, acc, cp.all ++ acc, i + 1⟩ (.ref tq) := ⟨tq, rfl, (mo10 _ _ rfl (k10.find .here)).trans (by
        rw [List.length_map, List.length_append, accl, ← osl]
        show some (HO.tup [V.str cp.name, V.int ((cp.all.length : Int) + (os.length : Int))]) = some (HO.tup [V.str cp.name, V.int ((cp.all.length + os.length : Nat) : Int)])
        rw [show ((cp.all.length + os.length : Nat) : Int) = (cp.all.length : Int) + (os.length : Int) by omega])⟩
      have zin : z ∈ (T ++ [(⟨z, some cp.name, acc, cp.all ++ acc, i + 1⟩ : Cl)]).map (·.name) := by rw [List.map_append]; exact List.mem_append_right _ (List.mem_singleton.mpr rfl)
      have B11 : Book K CK CR H11 x kd tl td t0 (T ++ [⟨z, some cp.name, acc, cp.all ++ acc, i + 1⟩]) (i + 1) := by
        refine ⟨bk.add fz zb (bk.find hcp) (by omega), R11, ⟨_, h11td, (bn8.mono fun _ _ u => u.mo m811).put fz row⟩, (B8.fl.mo m811).add hcp (bs := os) ?_, ?_, ?_, fun c hc => ?_⟩
        · refine paired_mapM pfl8 fun v q hq ⟨t, b0, e1, e2, e3⟩ => ⟨t, b0, e1, m811 _ _ rfl e2, ⟨z, zin, zb, osm q hq⟩, by rw [List.map_append]; exact List.mem_append_left _ e3⟩
        · rw [show i + 1 + 1 = (i + 1) + 1 from rfl, List.replicate_succ']
          exact o11 _ _ ntdt.symm hl9'
        · exact o11 _ _ ntd0.symm (o9 _ _ nt0k nt0t B8.t0_)
        · rcases List.mem_append.mp hc with hc | hc
          · exact bal3 c hc
          · rw [List.mem_singleton.mp hc]
            show (cp.all ++ acc).length ≤ 3
            rw [List.length_append]
            exact hall
      walk_at "go"
      refine ⟨_, _, _, _, _, a7, c7, rfl, B11, ?_, o11 _ _ ntdp.symm hp9, wo7.up (by omega), ?_⟩
      · rw [List.map_append, hT]
        exact zt
      · have g8 : Wc.Fr [pw, kd, tl, td] H13 H8 := fi.trans (fun q o hq h => fi8 q o (fun m => hq (by rw [List.mem_singleton.mp m]; simp)) h)
        have g9 := g8.trans (fun q o hq h => f9 q o (fun m => hq (by simp at m; rcases m with rfl | rfl <;> simp)) h)
        exact (g9.trans e10.fr).trans (fun q o hq h => fr10 q o (fun m => hq (by rw [List.mem_singleton.mp m]; simp)) h)
    · rintro σ Hi ⟨T, v3, v4, v5, v6, a2, c2, rfl, B, hT, hpi, woi, fi⟩
      rw [lx] at B hT woi
      have ki := KH.start (H := Hi)
      walk_at "go"
      rename_i tz Hz nz kz
      have ez := kz.extE
      have f1z : Wc.Fr [pw] H Hz := (Fr.outA (f01.trans f113) fi (fun q hq => by
        simp at hq
        rcases hq with rfl | rfl | rfl | rfl
        · exact .inl (by simp)
        · exact .inr nkd0
        · exact .inr ntl0
        · exact .inr (by
            cases q2 : H q with
            | none => rfl
            | some o =>
              have := f01 _ _ (by simpa using ntdp) q2
              rw [ntd] at this
              cases this))).trans ez.fr
      refine k x kd tl td t0 T dn tz a2 c2 Hz (by omega) (B.frn (A := []) ez.fr.n ez.mo (by simp) (by simp) (by simp) (by simp)) hT (fun q hq => ?_) ?_ (kz.find .here) (ez _ _ hpi) (woi.up (by omega)) f1z
      · simp at hq
        rcases hq with rfl | rfl | rfl | rfl
        · exact nkd0
        · exact ntl0
        · cases q2 : H q with
          | none => rfl
          | some o =>
            have := f01 _ _ (by simpa using ntdp) q2
            rw [ntd] at this
            cases this
        · exact nt00
      · simp [nkp.symm, ntp.symm, ntdp.symm, nt0p.symm, nkt, ntdk.symm, nt0k.symm, ntdt.symm, nt0t.symm, ntd0]
end
end K10

set_option Elab.async false
set_option linter.all false
set_option maxRecDepth 100000
set_option maxHeartbeats 4000000
namespace K10
open PySem PySem.Spec PyProof.Rows L2 Wc
local macro_rules | `(tactic| walk_at "lk") => `(tactic| first | with_reducible exact Look.here | (with_reducible apply Look.there; walk_at "lk"))
local macro_rules | `(tactic| walk_at "ul") => `(tactic| first | with_reducible exact UpL.here | (with_reducible apply UpL.there; walk_at "ul"))
local macro_rules | `(tactic| walk_at "ga") => `(tactic| first | exact GetAt.here | (apply GetAt.there; walk_at "ga"))
local macro_rules | `(tactic| walk_at "sa") => `(tactic| first | exact SetAt.here | (apply SetAt.there; walk_at "sa"))
local macro_rules | `(tactic| walk_at "hp") => `(tactic| first | assumption | (refine' KH.find ?k ?h; (case k => assumption); (case h => walk_at "lk")))
local macro_rules | `(tactic| walk_at "sql") => `(tactic| first | assumption | (refine' SqL.of ?h; (case h => walk_at "hp")) | (refine' Fr.sql (KH.fr ?k) ?n ?h; (case k => assumption); (case h => assumption); (case n => (simp; done))))
local macro_rules | `(tactic| walk_at "sqt") => `(tactic| first | assumption | (refine' SqT.of ?h; (case h => walk_at "hp")))
local macro_rules | `(tactic| walk_at "side") => `(tactic| first | exact (show (0 : Int) < _ by decide) | exact (show (0 : Int) < _ by omega) | exact ⟨by decide, by decide, by decide⟩ | exact ⟨by decide, by decide, by omega⟩ | exact ⟨by decide, by decide⟩ | exact ⟨by omega, by omega⟩ | exact Or.inl ⟨by omega, by omega⟩ | exact Or.inr ⟨by omega, by omega⟩)
local macro_rules | `(tactic| walk_at "siz") => `(tactic| first | (refine sz_of ?_; first | decide | omega | (simp; done) | (simp; omega)) | (refine sz_lt ?_; first | decide | omega | (simp; done) | (simp; omega)))
local macro_rules | `(tactic| walk_at "own") => `(tactic| first | (exact Or.inr (by assumption)) | (refine Or.inl ?_; simp; done))
local macro_rules | `(tactic| walk_at "al") => `(tactic| (refine' AllocO.mk ?k ?_; (case k => assumption); intro _ _ _ _))
local macro_rules | `(tactic| walk_at "up") => `(tactic| (refine' UpdO.mk ?k ?h ?m ?_; (case k => assumption); (case h => walk_at "ul"); (case m => walk_at "own"); intro _ _))
local macro_rules | `(tactic| walk_at "st") => `(tactic| first
  | ((with_reducible refine' r_var ?h ?_); (case h => walk_at "ga"))
  | (with_reducible refine' r_seq ?_) | (with_reducible refine' r_next ?_) | (with_reducible refine' r_asg ?_) | (with_reducible refine' r_drop ?_) | (with_reducible refine' r_ret ?_) | (with_reducible refine' r_retN ?_)
  | (with_reducible refine' r_ifs ?_) | (with_reducible refine' r_cont ?_) | (with_reducible refine' r_break ?_) | (with_reducible refine' r_c ?_) | (with_reducible refine' r_op ?_) | (with_reducible refine' r_un ?_)
  | (with_reducible refine' r_test ?_) | (with_reducible refine' r_tB ?_) | (with_reducible refine' r_not ?_) | (with_reducible refine' r_and ?_) | (with_reducible refine' r_or ?_) | (with_reducible refine' r_notV ?_)
  | (with_reducible refine' r_andV ?_) | (with_reducible refine' r_orV ?_) | (with_reducible refine' r_ifE ?_) | (with_reducible refine' r_bl ?_) | (with_reducible refine' r_nil ?_) | (with_reducible refine' r_cons ?_)
  | (with_reducible refine' r_tup ?_) | (with_reducible refine' r_lst ?_) | (with_reducible refine' r_cb ?_) | (with_reducible refine' r_call ?_) | ((with_reducible refine' r_name ?h ?_); (case h => walk_at "sa")) | (with_reducible refine' r_gnil ?_)
  | (with_reducible refine' r_gcons ?_) | (with_reducible refine' r_gsub ?_) | (with_reducible refine' r_par ?_) | (with_reducible refine' r_par2 ?_) | (with_reducible refine' r_I0 ?_) | (with_reducible refine' r_U ?_)
  | ((with_reducible refine' r_eq ?h ?_); (case h => rfl)) | ((with_reducible refine' r_ne ?h ?_); (case h => rfl))
  | ((with_reducible refine' r_ixL ?h ?a ?_); (case h => walk_at "sql"); (case a => rfl))
  | ((with_reducible refine' r_ixT ?h ?a ?_); (case h => walk_at "sqt"); (case a => rfl))
  | ((with_reducible refine' r_setL ?h ?a ?_); (case h => walk_at "hp"); (case a => rfl))
  | ((with_reducible refine' r_I ?c ?_); (case c => walk_at "side"))
  | (with_reducible refine' r_sl ?_) | (with_reducible refine' r_part ?_) | (with_reducible refine' r_nopart ?_) | (with_reducible refine' r_ii ?_)
  | ((with_reducible refine' r_slL ?h ?_); (case h => walk_at "sql"))
  | (with_reducible refine' r_bm ?_) | (with_reducible refine' r_bm0 ?_) | (with_reducible refine' r_int1 ?_) | (with_reducible refine' r_int1b ?_)
  | ((with_reducible refine' r_aug ?h ?_); (case h => walk_at "ga"))
  | ((with_reducible refine' r_cat ?a ?b ?z ?_); (case a => walk_at "hp"); (case b => walk_at "hp"); (case z => walk_at "siz"))
  | ((with_reducible refine' r_append ?a ?z ?_); (case a => walk_at "hp"); (case z => walk_at "siz"))
  | ((with_reducible refine' And.intro ?z ?_); (case z => first | walk_at "siz" | exact Or.inl ⟨rfl, _, by walk_at "sql"⟩))
  | ((with_reducible refine' r_gtup ?h ?l ?_); (case h => walk_at "sqt"); (case l => rfl))
  | (with_reducible refine' r_forL ?_) | (with_reducible refine' r_forE ?_) | (with_reducible refine' r_forR ?_) | ((with_reducible refine' r_forL2 ?h ?_); (case h => walk_at "sql")) | ((with_reducible refine' r_forE2 ?h ?_); (case h => walk_at "sql"))
  | (with_reducible refine' r_lcR ?_) | ((with_reducible refine' r_iteT ?h ?_); (case h => rfl)) | ((with_reducible refine' r_iteF ?h ?_); (case h => rfl))
  | (with_reducible refine' r_dnew ?_) | (with_reducible refine' r_vei ?_) | (with_reducible refine' r_ost ?_) | (with_reducible refine' r_mkV ?_) | (with_reducible refine' r_mkX ?_) | (with_reducible refine' r_xfld ?_)
  | ((with_reducible refine' MkG.mk ?o ?n ?k ?_); (case o => exact ErrOk.o (by assumption)); (case n => exact ErrOk.no (by assumption)); (case k => assumption); intro _ _ _ _)
  | ((with_reducible refine' AllocX.mk ?k ?_); (case k => assumption); intro _ _ _ _)
  | (with_reducible refine' r_chain ?_) | (with_reducible refine' r_lcS ?_) | (with_reducible refine' r_lcS2 ?_) | (with_reducible refine' r_lcL ?_) | (with_reducible refine' r_lcT ?_) | (with_reducible refine' r_lcI ?_) | (with_reducible refine' r_yes ?_)
  | (with_reducible refine' r_fld ?_) | (with_reducible refine' r_sfld ?_) | (with_reducible refine' r_meth ?_) | (with_reducible refine' r_make ?_) | (with_reducible refine' r_dget ?_) | (with_reducible refine' r_din ?_) | (with_reducible refine' r_dput ?_)
  | ((with_reducible refine' r_disp ?k ?_); (case k => assumption); intro _ _ _ _) | (with_reducible refine' r_pnil ?_) | (with_reducible refine' r_pcons ?_)
  | (walk_at "al") | (walk_at "up"))
local macro_rules | `(tactic| walk_at "go") => `(tactic| repeat walk_at "st")

theorem ix_tupK {X : Cx} (K : PySem.W.Frag) (e : X.K = K := by rfl) : IxR X (rIxT K) := by
  subst e
  exact ix_tup
abbrev nms (T : List Cl) : List Str := T.map (·.name)
abbrev NN_l_signature : List Str := ["_law_well_here", "_law_book", "_law_k"]
abbrev NN_l_leaf : List Str := ["_law_well_here", "_law_book", "_law_wide", "_law_names", "_law_some", "_law_name"]
theorem lcR_J {lo : Int} {n : Nat} {g : TG} {tt : TT} {te : TE} {vs : List Nat} {σ : L2.St} {Q : VK} {H : Hp} (h : LcJ (Itr lo n) g tt te vs σ Q H) : LcR lo n g tt te vs σ Q H := h
/-- the well and the book -/
structure BkAt (H : Hp) (pw bd : Addr) (T : List Cl) (kvs : List (Key × V)) (a b c : Int) (N : Nat) : Prop where
  w_ : H pw = some (wl a b c)
  ok : WellOk N b c
  d : H bd = some (.dK kvs)
  bn : ByN (RowB H) T kvs
  bk : ∃ n, BK T n
  tl : T.length ≤ 6
  lN : N ≤ 100000000
theorem BkAt.ne {H : Hp} {pw bd : Addr} {T : List Cl} {kvs : List (Key × V)} {a b c : Int} {N : Nat} (h : BkAt H pw bd T kvs a b c N) : bd ≠ pw := ne_of h.d h.w_ (by intro z; unfold wl at z; cases z)
theorem BkAt.fr {H H' : Hp} {pw bd : Addr} {T : List Cl} {kvs : List (Key × V)} {a b c a' c' : Int} {N M : Nat} (h : BkAt H pw bd T kvs a b c N) (f : Wc.Fr [pw] H H') (hp : H' pw = some (wl a' b c')) (wo : WellOk M b c') (lM : M ≤ 100000000) : BkAt H' pw bd T kvs a' b c' M :=
  ⟨hp, wo, f _ _ (by simpa using h.ne) h.d, h.bn.mono fun _ _ z => z.mo (Mo.fr1 f h.w_ rfl), h.bk, h.tl, lM⟩
theorem BkAt.pos {H : Hp} {pw bd : Addr} {T : List Cl} {kvs : List (Key × V)} {a b c : Int} {N : Nat} (h : BkAt H pw bd T kvs a b c N) : 0 < T.length := by
  obtain ⟨n, b⟩ := h.bk
  have := b.tl
  omega
/-- leaves -/
inductive LeafOk (T : List Cl) (q : Nat × List Str) : Dt → Prop where
  | int (i : Int) : -1000000000 ≤ i → i ≤ 1000000000 → LeafOk T q (.tup [.str "int", .int i])
  | arg (i : Int) : 0 ≤ i → i < (q.1 : Int) → LeafOk T q (.tup [.str "arg", .int i])
  | name (x : Str) : x ∈ q.2 → LeafOk T q (.tup [.str "name", .str x])
  | new (x : Str) (c : Cl) : x ≠ "int" → findC T x = some c → c.all = [] → LeafOk T q (.tup [.str "new", .str x])
def LfR (K : PySem.W.Frag) (H : Hp) (T : List Cl) (q : Nat × List Str) (v : V) : Prop := ∃ d, LeafOk T q d ∧ DtAt K H v d ∧ pureD d = true
theorem LfR.mo {K : PySem.W.Frag} {H H' : Hp} {T : List Cl} {q : Nat × List Str} {v : V} (h : LfR K H T q v) (m : Mo H H') : LfR K H' T q v := by
  obtain ⟨d, h1, h2, h3⟩ := h
  exact ⟨d, h1, dtMo m _ _ h3 h2, h3⟩
theorem xy_ok {x : Str} (h : x = "x" ∨ x = "y") : nameS x = true ∧ x.length ≤ 8 ∧ PyData.strOk x = true := by
  rcases h with rfl | rfl <;> decide +kernel
section
variable {P : Program} {w : World} {K : PySem.W.Frag} {mg : Str → Option Value} {base : Heap} {f : Addr} {fd : FuncData}
def spShares : Sp := fun vs H Q _ => ∃ pw a b c N m p, vs = [.ref pw, .int (m : Nat), .int (p : Nat)] ∧ H pw = some (wl a b c) ∧ WellOk N b c ∧ N ≤ 100000000 ∧ 1 ≤ p ∧ p ≤ m ∧ m ≤ 100 ∧
  ∀ (l : Addr) (ks : List Nat) (a' c' : Int) (H' : Hp), ks.length = p → ks.sum = m → (∀ k, k ∈ ks → 1 ≤ k) → H l = none → H' l = some (.lst (ks.map fun (k : Nat) => V.int k)) → H' pw = some (wl a' b c') → WellOk (N + p) b c' → Wc.Fr [pw] H H' → Q (.ref l) H'
theorem last_int (ks : List Nat) (k : Nat) : atI ((ks ++ [k]).map fun (k : Nat) => V.int k) (-1) = some (.int (k : Nat)) := by
  rw [List.map_append]
  unfold atI
  have e : ixN ((ks.map fun (k : Nat) => V.int k) ++ [k].map fun (k : Nat) => V.int k).length (-1) = some ks.length := by
    unfold ixN
    rw [if_neg (by decide), if_pos (by simp; omega)]
    simp
    omega
  rw [e]
  show ((ks.map fun (k : Nat) => V.int k) ++ [V.int (k : Nat)])[ks.length]? = _
  rw [List.getElem?_append_right (by simp)]
  simp
theorem ok_shares (F : FnP K "_law_shares" s_l_shares f fd) (T : Bt mg) (D_l_draw : DfOk P w K mg base CX0 1 "_law_draw" ["_law_well_here", "_law_many"] spDraw) : FnOk P w K mg base CX0 2 f fd ["_law_well_here", "_law_many", "_law_wide"] spShares := by
  refine F.ok sc_l_shares (fun vs H Q E h => ?_) (fun cdv A outer s H vs Q E hr h => ?_)
  · obtain ⟨pw, a, b, c, N, m, p, rfl, _⟩ := h
    rfl
  · refine ⟨_, PSs.nox (pss_cons (ps_par (i := 3) (j := 4) (by rfl) sc_l_shares.nd rfl rfl (by decide) rfl rfl (pa_cons (pe_lst pa_nil) (pa_cons (pv 1) pa_nil)) (by rfl))
      (pss_cons (ps_for PassesOwn.never rfl (pi_range1 (by rfl) T.f_range (pa_cons (pv 2) pa_nil)) (pg_name (i := 5) sc_l_shares.nd rfl (by first | exact Or.inl rfl | exact Or.inr rfl)) (pss_cons (ps_expr (pe_bm PySem.F.plainAttrs_list PySem.F.slot_list_append PySem.F.type_list_append mt_append (pv 3) (pa_cons (pe_ifExp (pt_cmpR op_lt (pv 5) (pe_op op_sub (pv 2) pe_int) (nomark _)) (pe_op op_add pe_int (pe_callD D_l_draw hr (pa_cons (pv 0) (pa_cons (pe_op op_sub (pv 4) (pe_op op_sub (pe_op op_sub (pv 2) pe_int) (pv 5))) pa_nil)))) (pv 4)) pa_nil)))
      (pss_one (ps_set (i := 4) sc_l_shares.nd rfl (by first | exact Or.inl rfl | exact Or.inr rfl) (pe_op op_sub (pv 4) (pe_ix ix_list (pv 3) (pe_un un_neg pe_int) (fun _ _ => rfl)))))))
      (pss_one (ps_ret (pv 3))))), ?_⟩
    obtain ⟨pw, a, b, c, N, m, p, rfl, hpw, wo, hN, p1, pm, mm, k⟩ := h
    rw [show L2.start ["_law_well_here", "_law_many", "_law_wide", "_law_shares_here", "_law_left", "_law_k"] [V.ref pw, V.int (m : Nat), V.int (p : Nat)] = ([some (V.ref pw), some (V.int (m : Nat)), some (V.int (p : Nat)), none, none, none] : List (Option V)) from rfl]
    have kh := KH.start1 hpw
    walk_at "go"
    rename_i l H1 nl k1
    have f01 : Wc.Fr [pw] H H1 := k1.fr
    have hp1 := k1.find (p := pw) (o := wl a b c) (by walk_at "lk")
    have hl1 := k1.find (p := l) (o := .lst []) (by walk_at "lk")
    refine ⟨_, rfl, by omega, by omega, ?_⟩
    refine ForR.mk (n := ((p : Nat) : Int).toNat) (fun i σ Hi => ∃ (ks : List Nat) (lf : Nat) (a' c' : Int) (v5 : Option V), σ = [some (.ref pw), some (.int (m : Nat)), some (.int (p : Nat)), some (.ref l), some (.int (lf : Nat)), v5] ∧ ks.length = i ∧ ks.sum + lf = m ∧ (i < p → p - i ≤ lf) ∧ (i = p → lf = 0) ∧ (∀ k, k ∈ ks → 1 ≤ k) ∧
      Hi l = some (.lst (ks.map fun (k : Nat) => V.int k)) ∧ Hi pw = some (wl a' b c') ∧ WellOk (N + i) b c' ∧ Wc.Fr [pw, l] H1 Hi) ⟨[], m, a, c, _, rfl, rfl, (by simp), (fun _ => by omega), (fun e => by omega), (fun k hk => by cases hk), hl1, hp1, wo, Wc.Fr.refl _ _⟩ ?_ ?_
    · rintro i σ Hi hi ⟨ks, lf, a2, c2, v5, rfl, e1, e2, e3, e4, e5, hl, hp, wo2, fi⟩
      have hip : i < p := by omega
      have le := e3 hip
      have npl : l ≠ pw := (ne_of_none hpw nl).symm
      have k2 := ((KH.start1 hp).cons hl (by simpa using npl)).rebaseM [pw, l] (fun q h => by
        simp at h
        rcases h with rfl | rfl
        · exact ⟨_, hp⟩
        · exact ⟨_, hl⟩)
      walk_at "go"
      by_cases hc : (0 + (i : Int)) < (p : Int) - 1
      · rw [decide_eq_true hc]
        walk_at "go"
        refine ⟨pw, _, a2, b, c2, N + i, rfl, by omega, by omega, (by have z := KH.find (p := pw) k2 (by walk_at "lk"); exact z), wo2, by omega, fun d a3 c3 H3 d0 d1 wo3 f3 h3 => ?_⟩
        obtain ⟨dn, rfl⟩ : ∃ dn : Nat, d = dn := ⟨d.toNat, by omega⟩
        have k3 := k2.up (by walk_at "ul") f3 h3 (.inl (by simp))
        walk_at "go"
        have e_app : (ks.map fun (k : Nat) => V.int k) ++ [V.int (1 + (dn : Int))] = (ks ++ [1 + dn]).map fun (k : Nat) => V.int k := by
          rw [List.map_append]
          show _ = _ ++ [V.int ((1 + dn : Nat) : Int)]
          rw [show ((1 + dn : Nat) : Int) = 1 + (dn : Int) by omega]
        walk_at "go"
        rename_i H4 k4
        rw [e_app] at k4
        have la := last_int ks (1 + dn)
        have hl4 : H4 l = some (.lst ((ks ++ [1 + dn]).map fun (k : Nat) => V.int k)) := (by have z := KH.find (p := l) k4 (by walk_at "lk"); exact z)
        refine r_ixL (SqL.of hl4) la ?_
        walk_at "go"
        refine ⟨ks ++ [1 + dn], lf - (1 + dn), a3, c3, some (.int (0 + (i : Int))), ?_, by simp [e1], by rw [List.sum_append]; simp; omega, (fun _ => by omega), (fun _ => by omega), (fun k hk => ?_), hl4, (by have z := KH.find (p := pw) k4 (by walk_at "lk"); exact z), wo3, fi.trans k4.fr⟩
        · rw [show ((lf - (1 + dn) : Nat) : Int) = (lf : Int) - ((1 + dn : Nat) : Int) by omega]
        · rcases List.mem_append.mp hk with hk | hk
          · exact e5 k hk
          · rw [List.mem_singleton.mp hk]
            omega
      · rw [decide_eq_false hc]
        walk_at "go"
        rename_i H4 k4
        have e_app : (ks.map fun (k : Nat) => V.int k) ++ [V.int (lf : Nat)] = (ks ++ [lf]).map fun (k : Nat) => V.int k := by
          rw [List.map_append] <;> rfl
        rw [e_app] at k4
        have la := last_int ks lf
        have hl4 : H4 l = some (.lst ((ks ++ [lf]).map fun (k : Nat) => V.int k)) := (by have z := KH.find (p := l) k4 (by walk_at "lk"); exact z)
        refine r_ixL (SqL.of hl4) la ?_
        walk_at "go"
        refine ⟨ks ++ [lf], 0, a2, c2, some (.int (0 + (i : Int))), ?_, by simp [e1], by rw [List.sum_append]; simp; omega, (fun _ => by omega), (fun _ => rfl), (fun k hk => ?_), hl4, (by have z := KH.find (p := pw) k4 (by walk_at "lk"); exact z), wo2.up (by omega), fi.trans k4.fr⟩
        · rw [show ((0 : Nat) : Int) = (lf : Int) - (lf : Nat) by omega]
        · rcases List.mem_append.mp hk with hk | hk
          · exact e5 k hk
          · rw [List.mem_singleton.mp hk]
            omega
    · rintro σ Hi ⟨ks, lf, a2, c2, v5, rfl, e1, e2, e3, e4, e5, hl, hp, wo2, fi⟩
      have l0 := e4 (by omega)
      walk_at "go"
      refine k l ks a2 c2 Hi (by omega) (by omega) e5 nl hl hp (by have := wo2; rw [show ((p : Nat) : Int).toNat = p by omega] at this; exact this) ?_
      exact Fr.outA f01 fi fun q hq => by
        simp at hq
        rcases hq with rfl | rfl
        · exact .inl (by simp)
        · exact .inr nl
def spSig (K : PySem.W.Frag) : Sp := fun vs H Q _ => ∃ pw bd T kvs a b c N, vs = [.ref pw, .ref bd] ∧ BkAt H pw bd T kvs a b c N ∧ N + 3 ≤ 100000000 ∧
  ∀ (t : Addr) (sg : List Str) (a' c' : Int) (H' : Hp), (sg.length = 1 ∨ sg.length = 2) → (∀ x, x ∈ sg → x ∈ T.map (·.name)) → H' t = some (.tup (sg.map V.str)) → H' pw = some (wl a' b c') → WellOk (N + 3) b c' → Wc.Fr [pw] H H' → Q (.ref t) H'
theorem ok_signature (F : FnP K "_law_signature" s_l_signature f fd) (T : Bt mg) (D_l_draw : DfOk P w K mg base CX0 1 "_law_draw" ["_law_well_here", "_law_many"] spDraw) (D_l_one : DfOk P w K mg base CX0 2 "_law_one" ["_law_well_here", "_law_some"] (spOne K)) :
    FnOk P w K mg base CX0 3 f fd ["_law_well_here", "_law_book"] (spSig K) := by
  refine F.ok sc_l_signature (fun vs H Q E h => ?_) (fun cdv A outer s H vs Q E hr h => ?_)
  · obtain ⟨pw, bd, TT, kvs, a, b, c, N, rfl, _⟩ := h
    rfl
  · refine ⟨_, PSs.nox (pss_one (ps_ret (pe_callTy call_tuple_of (by rfl) T.f_tuple PyProof.Rows.boot_tuple (pa_cons (pe_lc (own := [("_law_k", 2)]) rfl sc_l_signature.nd (pi_range1 (by rfl) T.f_range (pa_cons (pe_op op_add pe_int (pe_callD D_l_draw hr (pa_cons (pv 0) (pa_cons pe_int pa_nil)))) pa_nil)) (blkOk_by (N := NN_l_signature) (sc := defScope s_l_signature) (by decide +kernel)) (fun _ _ _ _ _ => (pg_name (i := 2) sc_l_signature.nd rfl (by first | exact Or.inl rfl | exact Or.inr rfl))) (fun _ _ _ _ _ => pts_nil) (fun _ _ _ _ _ => (pe_callD D_l_one hr (pa_cons (pv 0) (pa_cons (pe_callTy (call_listD rfl) (by rfl) T.f_list PyProof.Rows.boot_list (pa_cons (pv 1) pa_nil)) pa_nil))))) pa_nil)))), ?_⟩
    obtain ⟨pw, bd, TT, kvs, a, b, c, N, rfl, B, hN3, k⟩ := h
    rw [show L2.start ["_law_well_here", "_law_book", "_law_k"] [V.ref pw, V.ref bd] = ([some (V.ref pw), some (V.ref bd), none] : List (Option V)) from rfl]
    have kh := (KH.start1 B.w_).cons B.d (by simpa using B.ne)
    walk_at "go"
    refine ⟨pw, 2, a, b, c, N, rfl, by decide, by decide, (by have z := KH.find (p := pw) kh (by walk_at "lk"); exact z), B.ok, by have := B.lN; omega, fun d a1 c1 H1 d0 d1 wo1 f1 h1 => ?_⟩
    obtain ⟨dn, rfl⟩ : ∃ dn : Nat, d = dn := ⟨d.toNat, by omega⟩
    have lN := B.lN
    have B1 := B.fr f1 h1 (wo1.up (m := N + 1) (by omega)) (by omega)
    walk_at "go"
    refine ⟨_, rfl, by omega, by omega, ?_⟩
    have hn : (1 + (dn : Int)).toNat = 1 + dn := by omega
    rw [hn]
    refine lcR_J ?_
    refine lcP (walk_range (lo := 0) (n := 1 + dn)) (fun j acc H' => (∃ a' c', H' pw = some (wl a' b c') ∧ WellOk (N + 1 + j) b c') ∧ Wc.Fr [pw] H1 H' ∧ ∃ sg : List Str, sg.length = j ∧ acc = sg.map V.str ∧ ∀ x, x ∈ sg → x ∈ nms TT) ⟨⟨a1, c1, h1, wo1⟩, Wc.Fr.refl _ _, [], rfl, rfl, fun x hx => (by cases hx)⟩ (by omega)
      (fun D j acc H' H'' hD mo fr ⟨⟨a', c', g1, g2⟩, g3, g4⟩ => ⟨⟨a', c', fr _ _ (by simpa using ne_of_none h1 hD) g1, g2⟩, fun q o hq hz => fr _ _ (by simpa using ne_of_none hz hD) (g3 q o hq hz), g4⟩) (fun _ _ _ _ _ => trivial) ?_ ?_
    · rintro j y acc G1 G2 D R' N' hj hD hdD ⟨⟨a', c', g1, g2⟩, g3, sg, g4, rfl, g5⟩ ⟨rfl, rfl⟩ hR hN
      walk_at "go"
      refine ⟨rfl, ?_⟩
      have kg := (KH.start1 g1).cons hdD (by simpa using (ne_of_none h1 hD).symm)
      have Bg := B1.fr g3 g1 (g2.up (m := N + 1 + j) (by omega)) (by omega)
      walk_at "go"
      refine ⟨bd, kvs, rfl, .inl Bg.d, ?_⟩
      intro lp nlp1
      have k3 := kg.new (o := .lst (kvs.map fun kv => kV kv.1)) nlp1
      have nlp := kg.fresh nlp1
      generalize upd G2 lp _ = G3 at k3 ⊢
      have hlp := k3.find (p := lp) .here
      rw [byn_keys B.bn] at hlp
      have tp := B.pos
      have tl6 := B.tl
      walk_at "go"
      refine ⟨pw, lp, _, a', b, c', N + 1 + j, rfl, k3.find (by walk_at "lk"), SqL.of hlp, by rw [List.length_map, List.length_map]; omega, by rw [List.length_map, List.length_map]; omega, ne_of_none g1 nlp, g2, by omega, fun y a4 c4 G4 hy4 wo4 f4 h4 => ?_⟩
      obtain ⟨bn4, hbn4, rfl⟩ := List.mem_map.mp hy4
      have k4 := k3.up (by walk_at "ul") f4 h4 (.inl (by simp))
      have g15 : Wc.Fr [pw] G2 G4 := k4.fr
      refine hR _ _ ⟨⟨a4, c4, h4, wo4⟩, g3.trans g15, sg ++ [bn4], by simp [g4], by rw [List.map_append] <;> rfl, fun x hx => ?_⟩ (by have z := KH.find (p := D) k4 (by walk_at "lk"); exact z)
      rcases List.mem_append.mp hx with hx | hx
      · exact g5 x hx
      · rw [List.mem_singleton.mp hx]
        exact hbn4
    intro l7 H7 acc nl7 h7p hl7
    obtain ⟨⟨a7, c7, hp7, wo7⟩, f17, sg, e1, rfl, e2⟩ := h7p
    refine ⟨l7, _, rfl, .inl ⟨SqL.of hl7, ?_⟩⟩
    intro ft nft
    have k8 := (KH.start (H := H7)).new (o := .tup (sg.map V.str)) nft
    generalize upd H7 ft _ = H8 at k8 ⊢
    have e8 := k8.extE
    exact k ft sg a7 c7 H8 (by omega) e2 (k8.find .here) (e8 _ _ hp7) (wo7.up (by omega)) ((f1.trans f17).trans e8.fr)
def spLLeaf (K : PySem.W.Frag) : Sp := fun vs H Q _ => ∃ pw bd T kvs a b c N wd ln ns, vs = [.ref pw, .ref bd, .int (wd : Nat), .ref ln] ∧ BkAt H pw bd T kvs a b c N ∧ N + 5 ≤ 100000000 ∧ 1 ≤ wd ∧ wd ≤ 100 ∧ H ln = some (.lst (ns.map V.str)) ∧ (ns : List Str).length ≤ 100 ∧ (∀ x : Str, x ∈ ns → x = "x" ∨ x = "y") ∧
  ∀ (v : V) (d : Dt) (a' c' : Int) (H' : Hp), LeafOk T (wd, ns) d → DtAt K H' v d → pureD d = true → H' pw = some (wl a' b c') → WellOk (N + 4) b c' → Wc.Fr [pw] H H' → Q v H'
theorem ok_leaf (F : FnP K "_law_leaf" s_l_leaf f fd) (T : Bt mg) (D_l_draw : DfOk P w K mg base CX0 1 "_law_draw" ["_law_well_here", "_law_many"] spDraw) (D_l_one : DfOk P w K mg base CX0 2 "_law_one" ["_law_well_here", "_law_some"] (spOne K)) :
    FnOk P w K mg base CX0 3 f fd ["_law_well_here", "_law_book", "_law_wide", "_law_names"] (spLLeaf K) := by
  refine F.ok sc_l_leaf (fun vs H Q E h => ?_) (fun cdv A outer s H vs Q E hr h => ?_)
  · obtain ⟨pw, bd, TT, kvs, a, b, c, N, wd, ln, ns, rfl, _⟩ := h
    rfl
  · refine ⟨_, PSs.nox (pss_cons (ps_set (i := 4) sc_l_leaf.nd rfl (by first | exact Or.inl rfl | exact Or.inr rfl) (pe_lst (pa_cons (pe_tup (pa_cons pe_str (pa_cons (pe_callD D_l_one hr (pa_cons (pv 0) (pa_cons (pe_lst (pa_cons pe_int (pa_cons pe_int (pa_cons (pe_un un_neg pe_int) (pa_cons (pe_op op_pow pe_int pe_int) (pa_cons (pe_un un_neg (pe_op op_pow pe_int pe_int)) (pa_cons (pe_callD D_l_draw hr (pa_cons (pv 0) (pa_cons pe_int pa_nil))) pa_nil))))))) pa_nil))) pa_nil))) pa_nil)))
      (pss_cons (ps_set (i := 4) sc_l_leaf.nd rfl (by first | exact Or.inl rfl | exact Or.inr rfl) (pe_op op_cat (pe_op op_cat (pv 4) (pe_lst (pa_cons (pe_tup (pa_cons pe_str (pa_cons (pe_callD D_l_draw hr (pa_cons (pv 0) (pa_cons (pv 2) pa_nil))) pa_nil))) pa_nil))) (pe_lc (own := [("_law_name", 5)]) rfl sc_l_leaf.nd (pi_list (pv 3)) (blkOk_by (N := NN_l_leaf) (sc := defScope s_l_leaf) (by decide +kernel)) (fun _ _ _ _ _ => (pg_name (i := 5) sc_l_leaf.nd rfl (by first | exact Or.inl rfl | exact Or.inr rfl))) (fun _ _ _ _ _ => pts_nil) (fun _ _ _ _ _ => (pe_tup (pa_cons pe_str (pa_cons (pv 5) pa_nil)))))))
      (pss_one (ps_ret (pe_callD D_l_one hr (pa_cons (pv 0) (pa_cons (pe_op op_cat (pv 4) (pe_lock (pe_lc (own := [("_law_name", 5)]) rfl sc_l_leaf.nd (pi_keys (pv 1)) (blkOk_by (N := NN_l_leaf) (sc := defScope s_l_leaf) (by decide +kernel)) (fun _ _ _ _ _ => (pg_name (i := 5) sc_l_leaf.nd rfl (by first | exact Or.inl rfl | exact Or.inr rfl))) (fun _ _ _ _ _ => (pts_one (PW.pt (pw_and (pt_cmpR op_ne (pv 5) pe_str (nomark _)) (pw_and1 (pt_cmpR op_eq (pe_ix (ix_tupK K) (pe_dget (un1 hr) (pv 1) (pv 5) (fun _ _ => rfl)) pe_int (fun _ _ => rfl)) pe_int (nomark _))))))) (fun _ _ _ _ _ => (pe_tup (pa_cons pe_str (pa_cons (pv 5) pa_nil))))))) pa_nil))))))), ?_⟩
    obtain ⟨pw, bd, TT, kvs, a, b, c, N, wd, ln, ns, rfl, B, hN, w1, w2, hln, nl, nxy, k⟩ := h
    rw [show L2.start ["_law_well_here", "_law_book", "_law_wide", "_law_names", "_law_some", "_law_name"] [V.ref pw, V.ref bd, V.int (wd : Nat), V.ref ln] = ([some (V.ref pw), some (V.ref bd), some (V.int (wd : Nat)), some (V.ref ln), none, none] : List (Option V)) from rfl]
    have nlp : ln ≠ pw := ne_of hln B.w_ (by
      intro z
      unfold wl at z
      injection z with z
      cases ns with
      | nil => cases z
      | cons q l => injection z with z1 z2; cases z1)
    have kh := ((KH.start1 B.w_).cons B.d (by simpa using B.ne)).cons hln (by simpa using ⟨ne_of hln B.d (by intro z; cases z), nlp⟩)
    have tp := B.pos
    have tl6 := B.tl
    walk_at "go"
    refine ⟨pw, 999, a, b, c, N, rfl, by decide, by decide, (by have z := KH.find (p := pw) kh (by walk_at "lk"); exact z), B.ok, by omega, fun d a1 c1 H1 d0 d1 wo1 f1 h1 => ?_⟩
    have k1 := kh.up (by walk_at "ul") f1 h1 (.inl (by simp))
    walk_at "go"
    rename_i l2 H2 n2 k2
    refine ⟨pw, l2, _, a1, b, c1, N + 1, rfl, (by have z := KH.find (p := pw) k2 (by walk_at "lk"); exact z), SqL.of (by have z := KH.find (p := l2) k2 (by walk_at "lk"); exact z), by simp, by simp, ne_of_none B.w_ n2, wo1, by omega, fun x a3 c3 H3 hx wo3 f3 h3 => ?_⟩
    obtain ⟨i, rfl, i1, i2⟩ : ∃ i, x = .int i ∧ -1000000000 ≤ i ∧ i ≤ 1000000000 := by
      simp at hx
      rcases hx with rfl | rfl | rfl | rfl | rfl | rfl
      · exact ⟨_, rfl, by decide, by decide⟩
      · exact ⟨_, rfl, by decide, by decide⟩
      · exact ⟨_, rfl, by decide, by decide⟩
      · exact ⟨_, rfl, by decide, by decide⟩
      · exact ⟨_, rfl, by decide, by decide⟩
      · exact ⟨_, rfl, by omega, by omega⟩
    have k3 := k2.up (by walk_at "ul") f3 h3 (.inl (by simp))
    walk_at "go"
    rename_i t4 H4 n4 k4 l5 H5 n5 k5
    refine ⟨pw, (wd : Nat), a3, b, c3, N + 1 + 1, rfl, by omega, by omega, (by have z := KH.find (p := pw) k5 (by walk_at "lk"); exact z), wo3, by omega, fun j a6 c6 H6 j0 j1 wo6 f6 h6 => ?_⟩
    have k6 := k5.up (by walk_at "ul") f6 h6 (.inl (by simp))
    walk_at "go"
    rename_i t7 H7 n7 k7 l8 H8 n8 k8 l9 H9 n9 k9
    have r1 : LfR K H9 TT (wd, ns) (.ref t4) := ⟨_, .int i i1 i2, .tup (by have z := KH.find (p := t4) k9 (by walk_at "lk"); exact z) (by simp) (.cons (.str (by decide +kernel)) (.cons (.int _) .nil)), by show (true && (pureD (.str "int") && true)) = true; decide +kernel⟩
    have r2 : LfR K H9 TT (wd, ns) (.ref t7) := ⟨_, .arg j j0 j1, .tup (by have z := KH.find (p := t7) k9 (by walk_at "lk"); exact z) (by simp) (.cons (.str (by decide +kernel)) (.cons (.int _) .nil)), by show (true && (pureD (.str "arg") && true)) = true; decide +kernel⟩
    have hl9 := k9.find (p := l9) .here
    have f19 : Wc.Fr [pw] H H9 := k9.fr
    have hp9 := k9.find (p := pw) (o := wl a6 b c6) (by walk_at "lk")
    have B9 := B.fr f19 hp9 (wo6.up (m := N + 3) (by omega)) (by omega)
    have hln9 := k9.find (p := ln) (o := .lst (ns.map V.str)) (by walk_at "lk")
    refine ⟨ln, rfl, ⟨_, SqL.of hln9⟩, ?_⟩
    refine lcP (walk_list (xs := ns.map V.str)) (fun j acc H' => Wc.Ext H9 H' ∧ acc.length = j ∧ ∀ v, v ∈ acc → LfR K H' TT (wd, ns) v) ⟨Wc.Ext.refl _, rfl, fun v hv => (by cases hv)⟩ (by rw [List.length_map]; omega)
        (fun D j acc H' H'' hD mo fr ⟨g3, g4, g5⟩ => ⟨fun q o hq => fr _ _ (by simpa using ne_of_none hq hD) (g3 q o hq), g4, fun v hv => (g5 v hv).mo mo⟩)
        (fun j acc H' _ ⟨g3, _⟩ => SqL.of (g3 _ _ hln9)) ?_ ?_
    · rintro j y acc G1 G2 D R' N' hj hD hdD ⟨g3, g4, g5⟩ ⟨rfl, hy⟩ hR hN
      rw [List.length_map] at hj
      rw [List.getElem?_map] at hy
      obtain ⟨fn, hfn, rfl⟩ := Option.map_eq_some_iff.mp hy
      walk_at "go"
      refine ⟨rfl, ?_⟩
      have kg := (KH.start1 hdD).rebase
      walk_at "go"
      rename_i tn G5 nn kn
      have eg : Wc.Ext G2 G5 := kn.extE
      refine hR _ _ ⟨g3.trans eg, by simp [g4], fun v hv => ?_⟩ (by have z := KH.find (p := D) kn (by walk_at "lk"); exact z)
      rcases List.mem_append.mp hv with hv | hv
      · exact (g5 v hv).mo eg.mo
      · rw [List.mem_singleton.mp hv]
        have hm := List.mem_of_getElem? hfn
        have ok := xy_ok (nxy fn hm)
        have pf : pureD (.str fn) = true := by
          show (decide (fn.length ≤ 1000) && PyData.strOk fn) = true
          rw [decide_eq_true (by omega), ok.2.2] <;> rfl
        exact ⟨_, .name fn hm, .tup (by have z := KH.find (p := tn) kn (by walk_at "lk"); exact z) (by simp) (.cons (.str (by decide +kernel)) (.cons (.str (by omega)) .nil)), by show (true && (pureD (.str "name") && (pureD (.str fn) && true))) = true; rw [pf]; decide +kernel⟩
    intro l10 H10 acc nl10 ⟨e910, al, ar⟩ hl10
    rw [List.length_map] at al
    have k10 := (k9.ext e910).rebase
    have m910 := e910.mo
    refine r_cat (e910 _ _ hl9) hl10 (sz_of (by simp; omega)) ?_
    clear k9 k8 k7 k6 k5 k4 k3 k2 k1 kh
    walk_at "go"
    rename_i l11 H11 n11 k11
    have e1011 : Wc.Ext H10 H11 := k11.extE
    have all11 : ∀ v, v ∈ ([V.ref t4] ++ [V.ref t7]) ++ acc → LfR K H11 TT (wd, ns) v := fun v hv => by
      rcases List.mem_append.mp hv with hv | hv
      · refine LfR.mo ?_ (m910.trans e1011.mo)
        simp at hv
        rcases hv with rfl | rfl
        · exact r1
        · exact r2
      · exact (ar v hv).mo e1011.mo
    have f11 : Wc.Fr [pw] H H11 := f19.trans ((e910.trans e1011).fr)
    have B11 := B9.fr (e910.trans e1011).fr ((e910.trans e1011) _ _ hp9) (wo6.up (m := N + 3) (by omega)) (by omega)
    have hl11 := k11.find (p := l11) .here
    generalize hall : ([V.ref t4] ++ [V.ref t7]) ++ acc = xs at all11 hl11
    have hxs : xs.length = ns.length + 2 := by
      rw [← hall]
      simp
      omega
    obtain ⟨n, bk⟩ := B.bk
    refine r_lockE B11.d trivial fun od => ?_
    have hlk : upd H11 bd (.frz od (.dK kvs)) bd = some (.frz od (.dK kvs)) := upd_same
    have hout : ∀ {H' : Hp}, Wc.Ext (upd H11 bd (.frz od (.dK kvs))) H' → Wc.Ext H11 (upd H' bd (.dK kvs)) := fun e => lock_out B11.d e
    have mL : Mo H11 (upd H11 bd (.frz od (.dK kvs))) := Mo.upd B11.d rfl
    have ndb : H11 bd = some (.dK kvs) := B11.d
    clear k10 k11
    generalize upd H11 bd (.frz od (.dK kvs)) = HL at hlk hout mL ⊢
    walk_at "go"
    refine r_lcK ?_
    walk_at "go"
    refine ⟨bd, od, rfl, .inl ⟨kvs, hlk, ?_⟩⟩
    have hkl : kvs.length ≤ 6 := by rw [B.bn.length]; exact tl6
    refine lcP walk_keys (fun j acc H' => Wc.Ext HL H' ∧ acc.length ≤ j ∧ ∀ v, v ∈ acc → LfR K H' TT (wd, ns) v) ⟨Wc.Ext.refl _, Nat.zero_le _, fun v hv => (by cases hv)⟩ (by omega)
        (fun D j acc H' H'' hD mo fr ⟨g3, g4, g5⟩ => ⟨fun q o hq => fr _ _ (by simpa using ne_of_none hq hD) (g3 q o hq), g4, fun v hv => (g5 v hv).mo mo⟩)
        (fun j acc H' _ ⟨g3, _⟩ => g3 _ _ hlk) ?_ ?_
    · rintro j y acc2 G1 G2 D R' N' hj hD hdD ⟨g3, g4, g5⟩ ⟨rfl, kk, vv, hkv, rfl⟩ hR hN
      obtain ⟨cc2, hc2, hn2, tr, rfl, htr⟩ := Wc.paired_get B11.bn hkv
      dsimp only at hn2
      subst hn2
      have hcm := List.mem_of_getElem? hc2
      have gv := byn_at B11.bn bk.nd hkv
      have htr2 := g3.mo _ _ rfl (mL _ _ rfl htr)
      walk_at "go"
      refine ⟨rfl, ?_⟩
      have kg := (KH.start1 hdD).rebase
      walk_at "go"
      by_cases hs : cc2.name = "int"
      · rw [show decide (kV (Sum.inr cc2.name) = V.str "int") = true from decide_eq_true (by rw [hs] <;> rfl)]
        walk_at "go"
        exact hN _ ⟨g3, by omega, g5⟩ hdD
      · rw [show decide (kV (Sum.inr cc2.name) = V.str "int") = false from decide_eq_false (fun e => hs (by injection e))]
        walk_at "go"
        refine dget_mk (.inr ⟨od, g3 _ _ hlk⟩) gv ?_
        walk_at "go"
        by_cases h0 : cc2.all.length = 0
        · rw [show decide (V.int (cc2.all.length : Nat) = V.int 0) = true from decide_eq_true (by rw [h0] <;> rfl)]
          walk_at "go"
          rename_i tn G5 nn kn
          have eg : Wc.Ext G2 G5 := kn.extE
          refine hR _ _ ⟨g3.trans eg, by rw [List.length_append]; simp; omega, fun v hv => ?_⟩ (by have z := KH.find (p := D) kn (by walk_at "lk"); exact z)
          rcases List.mem_append.mp hv with hv | hv
          · exact (g5 v hv).mo eg.mo
          · rw [List.mem_singleton.mp hv]
            have ok := bkN_ok _ (bk.nm cc2 hcm)
            have pf : pureD (.str cc2.name) = true := by
              show (decide (cc2.name.length ≤ 1000) && PyData.strOk cc2.name) = true
              rw [decide_eq_true (by omega), ok.2.2] <;> rfl
            exact ⟨_, .new cc2.name cc2 hs (bk.find hcm) (List.eq_nil_of_length_eq_zero h0), .tup (by have z := KH.find (p := tn) kn (by walk_at "lk"); exact z) (by simp) (.cons (.str (by decide +kernel)) (.cons (.str (by omega)) .nil)), by show (true && (pureD (.str "new") && (pureD (.str cc2.name) && true))) = true; rw [pf]; decide +kernel⟩
        · rw [show decide (V.int (cc2.all.length : Nat) = V.int 0) = false from decide_eq_false (fun e => h0 (by injection e with e; omega))]
          walk_at "go"
          exact hN _ ⟨g3, by omega, g5⟩ hdD
    intro p12 Hb acc2 hp12 ⟨eb, al2, ar2⟩ hlb
    refine ⟨eb _ _ hlk, ?_⟩
    have e3 := hout eb
    have npb : p12 ≠ bd := fun e => by
      rw [e, eb _ _ hlk] at hlb
      cases hlb
    have hl12 : upd Hb bd (.dK kvs) p12 = some (.lst acc2) := by
      rw [upd_ne npb]
      exact hlb
    have mb : Mo Hb (upd Hb bd (.dK kvs)) := Mo.upd (eb _ _ hlk) rfl
    generalize upd Hb bd (.dK kvs) = Hc at e3 hl12 mb ⊢
    have kc := KH.start (H := Hc)
    refine r_cat (e3 _ _ hl11) hl12 (sz_of (by omega)) ?_
    walk_at "go"
    rename_i l13 H13 n13 k13
    have e13 := k13.extE
    have hp13 := e13 _ _ (e3 _ _ B11.w_)
    have hl13 := k13.find (p := l13) .here
    refine ⟨pw, l13, _, a6, b, c6, N + 1 + 1 + 1, rfl, hp13, SqL.of hl13, by rw [List.length_append]; omega, by rw [List.length_append]; omega, ne_of_none (e3 _ _ B11.w_) n13, wo6, by omega, fun v a14 c14 H14 hv wo14 f14 h14 => ?_⟩
    have m13 : Mo H13 H14 := Mo.fr1 f14 hp13 rfl
    obtain ⟨d, d1, d2, d3⟩ : LfR K H14 TT (wd, ns) v := by
      rcases List.mem_append.mp hv with hv | hv
      · exact (all11 v hv).mo ((e3.mo.trans e13.mo).trans m13)
      · exact (ar2 v hv).mo ((mb.trans e13.mo).trans m13)
    exact k v d a14 c14 H14 d1 d2 d3 h14 (wo14.up (by omega)) ((f11.trans (e3.trans e13).fr).trans f14)
end
end K10


set_option Elab.async false
set_option linter.all false
set_option maxRecDepth 100000
set_option maxHeartbeats 4000000
namespace K10
open PySem PySem.Spec PyProof.Rows L2 Wc
local macro_rules | `(tactic| walk_at "lk") => `(tactic| first | with_reducible exact Look.here | (with_reducible apply Look.there; walk_at "lk"))
local macro_rules | `(tactic| walk_at "ul") => `(tactic| first | with_reducible exact UpL.here | (with_reducible apply UpL.there; walk_at "ul"))
local macro_rules | `(tactic| walk_at "ga") => `(tactic| first | exact GetAt.here | (apply GetAt.there; walk_at "ga"))
local macro_rules | `(tactic| walk_at "sa") => `(tactic| first | exact SetAt.here | (apply SetAt.there; walk_at "sa"))
local macro_rules | `(tactic| walk_at "hp") => `(tactic| first | assumption | (refine' KH.find ?k ?h; (case k => assumption); (case h => walk_at "lk")))
local macro_rules | `(tactic| walk_at "sql") => `(tactic| first | assumption | (refine' SqL.of ?h; (case h => walk_at "hp")) | (refine' Fr.sql (KH.fr ?k) ?n ?h; (case k => assumption); (case h => assumption); (case n => (simp; done))))
local macro_rules | `(tactic| walk_at "sqt") => `(tactic| first | assumption | (refine' SqT.of ?h; (case h => walk_at "hp")))
local macro_rules | `(tactic| walk_at "side") => `(tactic| first | exact (show (0 : Int) < _ by decide) | exact (show (0 : Int) < _ by omega) | exact ⟨by decide, by decide, by decide⟩ | exact ⟨by decide, by decide, by omega⟩ | exact ⟨by decide, by decide⟩ | exact ⟨by omega, by omega⟩ | exact Or.inl ⟨by omega, by omega⟩ | exact Or.inr ⟨by omega, by omega⟩)
local macro_rules | `(tactic| walk_at "siz") => `(tactic| first | (refine sz_of ?_; first | decide | omega | (simp; done) | (simp; omega)) | (refine sz_lt ?_; first | decide | omega | (simp; done) | (simp; omega)))
local macro_rules | `(tactic| walk_at "own") => `(tactic| first | (exact Or.inr (by assumption)) | (refine Or.inl ?_; simp; done))
local macro_rules | `(tactic| walk_at "al") => `(tactic| (refine' AllocO.mk ?k ?_; (case k => assumption); intro _ _ _ _))
local macro_rules | `(tactic| walk_at "up") => `(tactic| (refine' UpdO.mk ?k ?h ?m ?_; (case k => assumption); (case h => walk_at "ul"); (case m => walk_at "own"); intro _ _))
local macro_rules | `(tactic| walk_at "st") => `(tactic| first
  | ((with_reducible refine' r_var ?h ?_); (case h => walk_at "ga"))
  | (with_reducible refine' r_seq ?_) | (with_reducible refine' r_next ?_) | (with_reducible refine' r_asg ?_) | (with_reducible refine' r_drop ?_) | (with_reducible refine' r_ret ?_) | (with_reducible refine' r_retN ?_)
  | (with_reducible refine' r_ifs ?_) | (with_reducible refine' r_cont ?_) | (with_reducible refine' r_break ?_) | (with_reducible refine' r_c ?_) | (with_reducible refine' r_op ?_) | (with_reducible refine' r_un ?_)
  | (with_reducible refine' r_test ?_) | (with_reducible refine' r_tB ?_) | (with_reducible refine' r_not ?_) | (with_reducible refine' r_and ?_) | (with_reducible refine' r_or ?_) | (with_reducible refine' r_notV ?_)
  | (with_reducible refine' r_andV ?_) | (with_reducible refine' r_orV ?_) | (with_reducible refine' r_ifE ?_) | (with_reducible refine' r_bl ?_) | (with_reducible refine' r_nil ?_) | (with_reducible refine' r_cons ?_)
  | (with_reducible refine' r_tup ?_) | (with_reducible refine' r_lst ?_) | (with_reducible refine' r_cb ?_) | (with_reducible refine' r_call ?_) | ((with_reducible refine' r_name ?h ?_); (case h => walk_at "sa")) | (with_reducible refine' r_gnil ?_)
  | (with_reducible refine' r_gcons ?_) | (with_reducible refine' r_gsub ?_) | (with_reducible refine' r_par ?_) | (with_reducible refine' r_par2 ?_) | (with_reducible refine' r_I0 ?_) | (with_reducible refine' r_U ?_)
  | ((with_reducible refine' r_eq ?h ?_); (case h => rfl)) | ((with_reducible refine' r_ne ?h ?_); (case h => rfl))
  | ((with_reducible refine' r_ixL ?h ?a ?_); (case h => walk_at "sql"); (case a => rfl))
  | ((with_reducible refine' r_ixT ?h ?a ?_); (case h => walk_at "sqt"); (case a => rfl))
  | ((with_reducible refine' r_setL ?h ?a ?_); (case h => walk_at "hp"); (case a => rfl))
  | ((with_reducible refine' r_I ?c ?_); (case c => walk_at "side"))
  | (with_reducible refine' r_sl ?_) | (with_reducible refine' r_part ?_) | (with_reducible refine' r_nopart ?_) | (with_reducible refine' r_ii ?_)
  | ((with_reducible refine' r_slL ?h ?_); (case h => walk_at "sql"))
  | (with_reducible refine' r_bm ?_) | (with_reducible refine' r_bm0 ?_) | (with_reducible refine' r_int1 ?_) | (with_reducible refine' r_int1b ?_)
  | ((with_reducible refine' r_aug ?h ?_); (case h => walk_at "ga"))
  | ((with_reducible refine' r_cat ?a ?b ?z ?_); (case a => walk_at "hp"); (case b => walk_at "hp"); (case z => walk_at "siz"))
  | ((with_reducible refine' r_append ?a ?z ?_); (case a => walk_at "hp"); (case z => walk_at "siz"))
  | ((with_reducible refine' And.intro ?z ?_); (case z => first | walk_at "siz" | exact Or.inl ⟨rfl, _, by walk_at "sql"⟩))
  | ((with_reducible refine' r_gtup ?h ?l ?_); (case h => walk_at "sqt"); (case l => rfl))
  | (with_reducible refine' r_forL ?_) | (with_reducible refine' r_forE ?_) | (with_reducible refine' r_forR ?_) | ((with_reducible refine' r_forL2 ?h ?_); (case h => walk_at "sql")) | ((with_reducible refine' r_forE2 ?h ?_); (case h => walk_at "sql"))
  | (with_reducible refine' r_lcR ?_) | ((with_reducible refine' r_iteT ?h ?_); (case h => rfl)) | ((with_reducible refine' r_iteF ?h ?_); (case h => rfl))
  | (with_reducible refine' r_dnew ?_) | (with_reducible refine' r_vei ?_) | (with_reducible refine' r_ost ?_) | (with_reducible refine' r_mkV ?_) | (with_reducible refine' r_mkX ?_) | (with_reducible refine' r_xfld ?_)
  | ((with_reducible refine' MkG.mk ?o ?n ?k ?_); (case o => exact ErrOk.o (by assumption)); (case n => exact ErrOk.no (by assumption)); (case k => assumption); intro _ _ _ _)
  | ((with_reducible refine' AllocX.mk ?k ?_); (case k => assumption); intro _ _ _ _)
  | (with_reducible refine' r_chain ?_) | (with_reducible refine' r_lcS ?_) | (with_reducible refine' r_lcS2 ?_) | (with_reducible refine' r_lcL ?_) | (with_reducible refine' r_lcT ?_) | (with_reducible refine' r_lcI ?_) | (with_reducible refine' r_yes ?_)
  | (with_reducible refine' r_fld ?_) | (with_reducible refine' r_sfld ?_) | (with_reducible refine' r_meth ?_) | (with_reducible refine' r_make ?_) | (with_reducible refine' r_dget ?_) | (with_reducible refine' r_din ?_) | (with_reducible refine' r_dput ?_)
  | ((with_reducible refine' r_disp ?k ?_); (case k => assumption); intro _ _ _ _) | (with_reducible refine' r_pnil ?_) | (with_reducible refine' r_pcons ?_)
  | (walk_at "al") | (walk_at "up"))
local macro_rules | `(tactic| walk_at "go") => `(tactic| repeat walk_at "st")

abbrev NN_l_head : List Str := ["_law_well_here", "_law_book", "_law_most", "_law_heads", "_law_name"]
def ItR (K : PySem.W.Frag) (H : Hp) : V → Option Dt → Prop
  | v, none => v = .non
  | v, some d => DtAt K H v d ∧ pureD d = true
theorem ItR.mo {K : PySem.W.Frag} {H H' : Hp} {v : V} {o : Option Dt} (h : ItR K H v o) (m : Mo H H') : ItR K H' v o := by
  cases o with
  | none => exact h
  | some d => exact ⟨dtMo m _ _ h.2 h.1, h.2⟩
theorem ItR.no {K : PySem.W.Frag} {H : Hp} : ItR K H .non none := rfl
theorem ItR.st {K : PySem.W.Frag} {H : Hp} {x : Str} (h : x.length ≤ 1000) (o : PyData.strOk x = true) : ItR K H (.str x) (some (.str x)) := ⟨.str h, by
  show (decide (x.length ≤ 1000) && PyData.strOk x) = true
  rw [decide_eq_true h, o] <;> rfl⟩
/-- a row: a part without the parts in it, and where they stand -/
def HdR (K : PySem.W.Frag) (H : Hp) (T : List Cl) (most : Nat) (v : V) : Prop := ∃ hd : Hd, hd.ok T most ∧ ∃ r h s vs, v = .ref r ∧ H r = some (.tup [.ref h, .ref s]) ∧ H h = some (.tup vs) ∧ PySem.Paired (ItR K H) vs hd.items ∧ H s = some (.tup (hd.spots.map fun (n : Nat) => V.int n))
theorem HdR.mo {K : PySem.W.Frag} {H H' : Hp} {T : List Cl} {most : Nat} {v : V} (h : HdR K H T most v) (m : Mo H H') : HdR K H' T most v := by
  obtain ⟨hd, h1, r, h, s, vs, h2, h3, h4, h5, h6⟩ := h
  exact ⟨hd, h1, r, h, s, vs, h2, m _ _ rfl h3, m _ _ rfl h4, Paired.mapP h5 fun _ _ z => z.mo m, m _ _ rfl h6⟩
theorem sg_at {K : PySem.W.Frag} {H : Hp} {t : Addr} {sg : List Str} {T : List Cl} {n : Nat} (bk : BK T n) (h : H t = some (.tup (sg.map V.str))) (hm : ∀ x, x ∈ sg → x ∈ nms T) (hl : sg.length = 1 ∨ sg.length = 2) : DtAt K H (.ref t) (Hd.sgT sg) ∧ pureD (Hd.sgT sg) = true := by
  have ok : ∀ x, x ∈ sg → x.length ≤ 1000 ∧ PyData.strOk x = true := fun x hx => by
    obtain ⟨c, hc, rfl⟩ := List.mem_map.mp (hm x hx)
    have := bkN_ok _ (bk.nm c hc)
    exact ⟨by omega, this.2.2⟩
  have go : ∀ l : List Str, (∀ x, x ∈ l → x.length ≤ 1000 ∧ PyData.strOk x = true) → DtAll K H (l.map V.str) (l.map Dt.str) ∧ pureDs (l.map Dt.str) = true := fun l => by
    induction l with
    | nil => exact fun _ => ⟨.nil, rfl⟩
    | cons a l ih =>
      intro h
      obtain ⟨i1, i2⟩ := ih fun x hx => h x (List.mem_cons_of_mem _ hx)
      obtain ⟨a1, a2⟩ := h a List.mem_cons_self
      refine ⟨.cons (.str a1) i1, ?_⟩
      show ((decide (a.length ≤ 1000) && PyData.strOk a) && pureDs (l.map Dt.str)) = true
      rw [decide_eq_true a1, a2, i2] <;> rfl
  obtain ⟨g1, g2⟩ := go sg ok
  refine ⟨.tup h (by rw [List.length_map]; omega) g1, ?_⟩
  show (decide ((sg.map Dt.str).length ≤ 1000) && pureDs (sg.map Dt.str)) = true
  rw [decide_eq_true (by rw [List.length_map]; omega), g2] <;> rfl
theorem lock_outF {A : List Addr} {H H' : Hp} {d : Addr} {od : Obj} {u : HO} (hd : H d = some u) (e : Wc.Fr A (upd H d (.frz od u)) H') : Wc.Fr A H (upd H' d u) := fun q o hA ha => by
  by_cases hq : q = d
  · rw [hq] at ha ⊢
    rw [upd_same, ← ha, hd]
  · rw [upd_ne hq]
    exact e _ _ hA (by rw [upd_ne hq]; exact ha)
theorem rep_flat (v : V) : ∀ k : Nat, (List.replicate k [v]).flatten = List.replicate k v
  | 0 => rfl
  | k + 1 => by
    rw [List.replicate_succ, List.flatten_cons, rep_flat v k] <;> rfl
theorem nones {K : PySem.W.Frag} {H : Hp} : ∀ k : Nat, PySem.Paired (ItR K H) (List.replicate k V.non) (List.replicate k none)
  | 0 => .nil
  | k + 1 => .cons ItR.no (nones k)
theorem free_fr {H H' : Hp} {pw l : Addr} (f : Wc.Fr [pw] H H') (ne : l ≠ pw) (n : H' l = none) : H l = none := by
  cases q : H l with
  | none => rfl
  | some o =>
    have := f _ _ (by simpa using ne) q
    rw [n] at this
    cases this
section
variable {P : Program} {w : World} {K : PySem.W.Frag} {mg : Str → Option Value} {base : Heap} {f : Addr} {fd : FuncData}
def spLHead (K : PySem.W.Frag) : Sp := fun vs H Q _ => ∃ pw bd T kvs a b c N most, vs = [.ref pw, .ref bd, .int (most : Nat)] ∧ BkAt H pw bd T kvs a b c N ∧ N + 20 ≤ 100000000 ∧ 1 ≤ most ∧ most ≤ 100 ∧
  ∀ (v : V) (a' c' : Int) (H' : Hp), HdR K H' T most v → H' pw = some (wl a' b c') → WellOk (N + 20) b c' → Wc.Fr [pw] H H' → Q v H'
/-- the heads so far -/
def HMid (K : PySem.W.Frag) (H0 : Hp) (pw bd : Addr) (T : List Cl) (b : Int) (most N n : Nat) (σ : L2.St) (H : Hp) : Prop := ∃ l xs a c, σ = [some (.ref pw), some (.ref bd), some (.int (most : Nat)), some (.ref l), none] ∧ H l = some (.lst xs) ∧ H0 l = none ∧ xs.length ≤ n ∧ 0 < xs.length ∧ (∀ v, v ∈ xs → HdR K H T most v) ∧ H pw = some (wl a b c) ∧ WellOk N b c ∧ Wc.Fr [pw] H0 H
theorem ok_head (F : FnP K "_law_head" s_l_head f fd) (T : Bt mg) (D_l_one : DfOk P w K mg base CX0 2 "_law_one" ["_law_well_here", "_law_some"] (spOne K)) (D_l_signature : DfOk P w K mg base CX0 3 "_law_signature" ["_law_well_here", "_law_book"] (spSig K)) :
    FnOk P w K mg base CX0 4 f fd ["_law_well_here", "_law_book", "_law_most"] (spLHead K) := by
  refine F.ok sc_l_head (fun vs H Q E h => ?_) (fun cdv A outer s H vs Q E hr h => ?_)
  · obtain ⟨pw, bd, TT, kvs, a, b, c, N, most, rfl, _⟩ := h
    rfl
  · refine ⟨_, PSs.nox (pss_cons (ps_set (i := 3) sc_l_head.nd rfl (by first | exact Or.inl rfl | exact Or.inr rfl) (pe_lst (pa_cons (pe_tup (pa_cons (pe_tup (pa_cons pe_str (pa_cons pe_non (pa_cons (pe_callD D_l_one hr (pa_cons (pv 0) (pa_cons (pe_callTy (call_listD rfl) (by rfl) T.f_list PyProof.Rows.boot_list (pa_cons (pv 1) pa_nil)) pa_nil))) pa_nil)))) (pa_cons (pe_tup (pa_cons pe_int pa_nil)) pa_nil))) (pa_cons (pe_tup (pa_cons (pe_tup (pa_cons pe_str (pa_cons pe_non (pa_cons (pe_callD D_l_one hr (pa_cons (pv 0) (pa_cons (pe_lst (pa_cons pe_str (pa_cons pe_str pa_nil))) pa_nil))) pa_nil)))) (pa_cons (pe_tup (pa_cons pe_int pa_nil)) pa_nil))) pa_nil))))
      (pss_cons (ps_set (i := 3) sc_l_head.nd rfl (by first | exact Or.inl rfl | exact Or.inr rfl) (pe_op op_cat (pv 3) (pe_lst (pa_cons (pe_tup (pa_cons (pe_tup (pa_cons (pe_callD D_l_one hr (pa_cons (pv 0) (pa_cons (pe_lst (pa_cons pe_str (pa_cons pe_str pa_nil))) pa_nil))) (pa_cons (pe_callD D_l_one hr (pa_cons (pv 0) (pa_cons (pe_lst (pa_cons pe_str (pa_cons pe_str pa_nil))) pa_nil))) (pa_cons pe_non pa_nil)))) (pa_cons (pe_tup (pa_cons pe_int pa_nil)) pa_nil))) pa_nil))))
      (pss_cons (ps_set (i := 3) sc_l_head.nd rfl (by first | exact Or.inl rfl | exact Or.inr rfl) (pe_op op_cat (pv 3) (pe_lst (pa_cons (pe_tup (pa_cons (pe_tup (pa_cons pe_str (pa_cons (pe_callD D_l_one hr (pa_cons (pv 0) (pa_cons (pe_lst (pa_cons pe_str (pa_cons pe_str pa_nil))) pa_nil))) (pa_cons (pe_callD D_l_signature hr (pa_cons (pv 0) (pa_cons (pv 1) pa_nil))) (pa_cons pe_non pa_nil))))) (pa_cons (pe_tup (pa_cons pe_int pa_nil)) pa_nil))) pa_nil))))
      (pss_cons (ps_if (pt_cmpR op_gt (pv 2) pe_int (nomark _)) (pss_cons (ps_set (i := 3) sc_l_head.nd rfl (by first | exact Or.inl rfl | exact Or.inr rfl) (pe_op op_cat (pv 3) (pe_lst (pa_cons (pe_tup (pa_cons (pe_tup (pa_cons pe_str (pa_cons (pe_callD D_l_one hr (pa_cons (pv 0) (pa_cons (pe_lst (pa_cons pe_str (pa_cons pe_str pa_nil))) pa_nil))) (pa_cons pe_non (pa_cons pe_non pa_nil))))) (pa_cons (pe_tup (pa_cons pe_int (pa_cons pe_int pa_nil))) pa_nil))) (pa_cons (pe_tup (pa_cons (pe_tup (pa_cons pe_str (pa_cons pe_non (pa_cons pe_non pa_nil)))) (pa_cons (pe_tup (pa_cons pe_int (pa_cons pe_int pa_nil))) pa_nil))) pa_nil)))))
      (pss_one (ps_set (i := 3) sc_l_head.nd rfl (by first | exact Or.inl rfl | exact Or.inr rfl) (pe_op op_cat (pv 3) (pe_lst (pa_cons (pe_tup (pa_cons (pe_tup (pa_cons pe_str (pa_cons pe_non (pa_cons pe_non pa_nil)))) (pa_cons (pe_tup (pa_cons pe_int (pa_cons pe_int pa_nil))) pa_nil))) (pa_cons (pe_tup (pa_cons (pe_tup (pa_cons pe_str (pa_cons pe_str (pa_cons pe_non (pa_cons pe_non pa_nil))))) (pa_cons (pe_tup (pa_cons pe_int (pa_cons pe_int pa_nil))) pa_nil))) pa_nil))))))) pss_nil)
      (pss_cons (ps_if (pt_cmpR op_gt (pv 2) pe_int (nomark _)) (pss_one (ps_set (i := 3) sc_l_head.nd rfl (by first | exact Or.inl rfl | exact Or.inr rfl) (pe_op op_cat (pv 3) (pe_op op_rep (pe_lst (pa_cons (pe_tup (pa_cons (pe_tup (pa_cons pe_str (pa_cons pe_non (pa_cons pe_non (pa_cons pe_non pa_nil))))) (pa_cons (pe_tup (pa_cons pe_int (pa_cons pe_int (pa_cons pe_int pa_nil)))) pa_nil))) pa_nil)) pe_int)))) pss_nil)
      (pss_cons (ps_lock (ps_for PassesOwn.never rfl (pi_keys (pv 1)) (pg_name (i := 4) sc_l_head.nd rfl (by first | exact Or.inl rfl | exact Or.inr rfl)) (pss_one (ps_if (pt_chain op_lt op_le pe_int (pe_ix ix_tup (pe_dget (un1 hr) (pv 1) (pv 4) (fun _ _ => rfl)) pe_int (fun _ _ => rfl)) (pv 2)) (pss_one (ps_expr (pe_bm PySem.F.plainAttrs_list PySem.F.slot_list_append PySem.F.type_list_append mt_append (pv 3) (pa_cons (pe_tup (pa_cons (pe_op op_catA (pe_tup (pa_cons pe_str (pa_cons (pv 4) pa_nil))) (pe_op op_repA (pe_tup (pa_cons pe_non pa_nil)) (pe_ix ix_tup (pe_dget (un1 hr) (pv 1) (pv 4) (fun _ _ => rfl)) pe_int (fun _ _ => rfl)))) (pa_cons (pe_tupRg rfl (by rfl) T.f_tuple (prg_2 (by rfl) T.f_range pe_int (pe_op op_add pe_int (pe_ix ix_tup (pe_dget (un1 hr) (pv 1) (pv 4) (fun _ _ => rfl)) pe_int (fun _ _ => rfl))))) pa_nil))) pa_nil)))) pss_nil))))
      (pss_one (ps_ret (pe_callD D_l_one hr (pa_cons (pv 0) (pa_cons (pv 3) pa_nil))))))))))), ?_⟩
    obtain ⟨pw, bd, TT, kvs, a, b, c, N, most, rfl, B, hN, m1, m2, k⟩ := h
    rw [show L2.start ["_law_well_here", "_law_book", "_law_most", "_law_heads", "_law_name"] [V.ref pw, V.ref bd, V.int (most : Nat)] = ([some (V.ref pw), some (V.ref bd), some (V.int (most : Nat)), none, none] : List (Option V)) from rfl]
    obtain ⟨n, bk⟩ := B.bk
    have tp := B.pos
    have tl6 := B.tl
    have kh := (KH.start1 B.w_).cons B.d (by simpa using B.ne)
    walk_at "go"
    refine ⟨bd, kvs, rfl, .inl B.d, ?_⟩
    intro lp nlp1
    have k1 := kh.new (o := .lst (kvs.map fun kv => kV kv.1)) nlp1
    generalize upd H lp _ = H1 at k1 ⊢
    have hlp := k1.find (p := lp) .here
    rw [byn_keys B.bn] at hlp
    walk_at "go"
    refine ⟨pw, lp, _, a, b, c, N, rfl, (by have z := KH.find (p := pw) k1 (by walk_at "lk"); exact z), SqL.of hlp, by rw [List.length_map, List.length_map]; omega, by rw [List.length_map, List.length_map]; omega, ne_of_none B.w_ nlp1, B.ok, by omega, fun y a2 c2 H2 hy wo2 f2 h2 => ?_⟩
    obtain ⟨cn, hcn, rfl⟩ := List.mem_map.mp hy
    have k2 := k1.up (by walk_at "ul") f2 h2 (.inl (by simp))
    clear kh k1
    walk_at "go"
    rename_i t3 H3 n3 k3 t4 H4 n4 k4 t5 H5 n5 k5 l6 H6 n6 k6
    refine ⟨pw, l6, _, a2, b, c2, N + 1, rfl, (by have z := KH.find (p := pw) k6 (by walk_at "lk"); exact z), SqL.of (by have z := KH.find (p := l6) k6 (by walk_at "lk"); exact z), by simp, by simp, ne_of_none B.w_ n6, wo2, by omega, fun y a7 c7 H7 hy7 wo7 f7 h7 => ?_⟩
    obtain ⟨fa, rfl, hfa⟩ : ∃ q : Str, y = .str q ∧ (q = "ax" ∨ q = "f") := by
      simp at hy7
      rcases hy7 with rfl | rfl
      · exact ⟨_, rfl, .inl rfl⟩
      · exact ⟨_, rfl, .inr rfl⟩
    have k7 := k6.up (by walk_at "ul") f7 h7 (.inl (by simp))
    walk_at "go"
    rename_i t8 H8 n8 k8 t9 H9 n9 k9 t10 H10 n10 k10 l11 H11 n11 k11 l12 H12 n12 k12
    refine ⟨pw, l12, _, a7, b, c7, N + 1 + 1, rfl, (by have z := KH.find (p := pw) k12 (by walk_at "lk"); exact z), SqL.of (by have z := KH.find (p := l12) k12 (by walk_at "lk"); exact z), by simp, by simp, ne_of_none B.w_ n12, wo7, by omega, fun y a13 c13 H13 hy13 wo13 f13 h13 => ?_⟩
    obtain ⟨fw, rfl, hfw⟩ : ∃ q : Str, y = .str q ∧ (q = "call" ∨ q = "newest") := by
      simp at hy13
      rcases hy13 with rfl | rfl
      · exact ⟨_, rfl, .inl rfl⟩
      · exact ⟨_, rfl, .inr rfl⟩
    have k13 := k12.up (by walk_at "ul") f13 h13 (.inl (by simp))
    walk_at "go"
    rename_i l14 H14 n14 k14
    refine ⟨pw, l14, _, a13, b, c13, N + 1 + 1 + 1, rfl, (by have z := KH.find (p := pw) k14 (by walk_at "lk"); exact z), SqL.of (by have z := KH.find (p := l14) k14 (by walk_at "lk"); exact z), by simp, by simp, ne_of_none B.w_ n14, wo13, by omega, fun y a15 c15 H15 hy15 wo15 f15 h15 => ?_⟩
    obtain ⟨ff, rfl, hff⟩ : ∃ q : Str, y = .str q ∧ (q = "f" ∨ q = "g") := by
      simp at hy15
      rcases hy15 with rfl | rfl
      · exact ⟨_, rfl, .inl rfl⟩
      · exact ⟨_, rfl, .inr rfl⟩
    have k15 := k14.up (by walk_at "ul") f15 h15 (.inl (by simp))
    clear k2 k3 k4 k5 k6 k7 k8 k9 k10 k11 k12 k13 k14
    walk_at "go"
    rename_i t16 H16 n16 k16 t17 H17 n17 k17 t18 H18 n18 k18 l19 H19 n19 k19 l20 H20 n20 k20 l21 H21 n21 k21
    refine ⟨pw, l21, _, a15, b, c15, N + 1 + 1 + 1 + 1, rfl, (by have z := KH.find (p := pw) k21 (by walk_at "lk"); exact z), SqL.of (by have z := KH.find (p := l21) k21 (by walk_at "lk"); exact z), by simp, by simp, ne_of_none B.w_ n21, wo15, by omega, fun y a22 c22 H22 hy22 wo22 f22 h22 => ?_⟩
    obtain ⟨df, rfl, hdf⟩ : ∃ q : Str, y = .str q ∧ (q = "f" ∨ q = "h") := by
      simp at hy22
      rcases hy22 with rfl | rfl
      · exact ⟨_, rfl, .inl rfl⟩
      · exact ⟨_, rfl, .inr rfl⟩
    have k22 := k21.up (by walk_at "ul") f22 h22 (.inl (by simp))
    walk_at "go"
    refine ⟨pw, bd, TT, kvs, a22, b, c22, N + 5, rfl, B.fr k22.fr h22 wo22 (by omega), by omega, fun sgt sg a23 c23 H23 sg1 sg2 hsg h23 wo23 f23 => ?_⟩
    have k23 := k22.up (by walk_at "ul") f23 h23 (.inl (by simp))
    clear k16 k17 k18 k19 k20 k21 k22
    have f023 : Wc.Fr [pw] H H23 := k23.fr
    have k23 := k23.rebase
    walk_at "go"
    rename_i t24 H24 n24 k24 t25 H25 n25 k25 t26 H26 n26 k26 l27 H27 n27 k27 l28 H28 n28 k28
    have ocn := bkN_ok cn (by
      obtain ⟨cc, h1, rfl⟩ := List.mem_map.mp hcn
      exact bk.nm cc h1)
    have sga := sg_at (K := K) bk (k28.extE _ _ hsg) sg2 sg1
    have r1 : HdR K H28 TT most (.ref t5) := ⟨.is_ cn, hcn, t5, t3, t4, _, rfl, (by have z := KH.find (p := t5) k28 (by walk_at "lk"); exact z), (by have z := KH.find (p := t3) k28 (by walk_at "lk"); exact z), (.cons (ItR.st (by decide +kernel) (by decide +kernel)) (.cons ItR.no (.cons (ItR.st (by omega) ocn.2.2) .nil))), (by have z := KH.find (p := t4) k28 (by walk_at "lk"); exact z)⟩
    have r2 : HdR K H28 TT most (.ref t10) := ⟨.fld fa, hfa, t10, t8, t9, _, rfl, (by have z := KH.find (p := t10) k28 (by walk_at "lk"); exact z), (by have z := KH.find (p := t8) k28 (by walk_at "lk"); exact z), (.cons (ItR.st (by decide +kernel) (by decide +kernel)) (.cons ItR.no (.cons (by rcases hfa with rfl | rfl <;> exact ItR.st (by decide +kernel) (by decide +kernel)) .nil))), (by have z := KH.find (p := t9) k28 (by walk_at "lk"); exact z)⟩
    have r3 : HdR K H28 TT most (.ref t18) := ⟨.call1 fw ff, ⟨hfw, hff⟩, t18, t16, t17, _, rfl, (by have z := KH.find (p := t18) k28 (by walk_at "lk"); exact z), (by have z := KH.find (p := t16) k28 (by walk_at "lk"); exact z), (.cons (by rcases hfw with rfl | rfl <;> exact ItR.st (by decide +kernel) (by decide +kernel)) (.cons (by rcases hff with rfl | rfl <;> exact ItR.st (by decide +kernel) (by decide +kernel)) (.cons ItR.no .nil))), (by have z := KH.find (p := t17) k28 (by walk_at "lk"); exact z)⟩
    have r4 : HdR K H28 TT most (.ref t26) := ⟨.dfn df sg, ⟨hdf, sg1, sg2⟩, t26, t24, t25, _, rfl, (by have z := KH.find (p := t26) k28 (by walk_at "lk"); exact z), (by have z := KH.find (p := t24) k28 (by walk_at "lk"); exact z), (.cons (ItR.st (by decide +kernel) (by decide +kernel)) (.cons (by rcases hdf with rfl | rfl <;> exact ItR.st (by decide +kernel) (by decide +kernel)) (.cons sga (.cons ItR.no .nil)))), (by have z := KH.find (p := t25) k28 (by walk_at "lk"); exact z)⟩
    have hp28 := k28.find (p := pw) (o := wl a23 b c23) (by walk_at "lk")
    have hl28 := k28.find (p := l28) .here
    have f28 : Wc.Fr [pw] H H28 := f023.trans k28.extE.fr
    have n28 := free_fr f023 (ne_of_none h23 n28).symm n28
    have k28 := k28.rebase1 hp28
    have all28 : ∀ v, v ∈ ((([V.ref t5, V.ref t10] : List V) ++ [V.ref t18]) ++ [V.ref t26]) → HdR K H28 TT most v := fun v hv => by
      simp at hv
      rcases hv with rfl | rfl | rfl | rfl
      · exact r1
      · exact r2
      · exact r3
      · exact r4
    clear k23 k24 k25 k26 k27
    refine mid (HMid K H pw bd TT b most (N + 9) 8) (fun σ Hm hm => ?_) (fun Nx hN2 => ?_)
    rotate_left
    · by_cases hc : (1 : Int) < most
      · rw [decide_eq_true hc]
        walk_at "go"
        rename_i l29 H29 n29 k29
        refine ⟨pw, l29, _, a23, b, c23, N + 5 + 3, rfl, (by have z := KH.find (p := pw) k29 (by walk_at "lk"); exact z), SqL.of (by have z := KH.find (p := l29) k29 (by walk_at "lk"); exact z), by simp, by simp, ne_of_none hp28 n29, wo23, by omega, fun y a30 c30 H30 hy30 wo30 f30 h30 => ?_⟩
        obtain ⟨lx, rfl, hlx⟩ : ∃ q : Str, y = .str q ∧ (q = "x" ∨ q = "y") := by
          simp at hy30
          rcases hy30 with rfl | rfl
          · exact ⟨_, rfl, .inl rfl⟩
          · exact ⟨_, rfl, .inr rfl⟩
        have k30 := k29.up (by walk_at "ul") f30 h30 (.inl (by simp))
        walk_at "go"
        rename_i t31 H31 n31 k31 t32 H32 n32 k32 t33 H33 n33 k33 t34 H34 n34 k34 t35 H35 n35 k35 t36 H36 n36 k36 l37 H37 n37 k37 l38 H38 n38 k38 t39 H39 n39 k39 t40 H40 n40 k40 t41 H41 n41 k41 t42 H42 n42 k42 t43 H43 n43 k43 t44 H44 n44 k44 l45 H45 n45 k45 l46 H46 n46 k46
        have f46 : Wc.Fr [pw] H28 H46 := k46.fr
        have m46 : Mo H28 H46 := Mo.fr1 f46 hp28 rfl
        have hm2 : 2 ≤ most := by omega
        have r5 : HdR K H46 TT most (.ref t33) := ⟨.let_ lx, ⟨hlx, hm2⟩, t33, t31, t32, _, rfl, (by have z := KH.find (p := t33) k46 (by walk_at "lk"); exact z), (by have z := KH.find (p := t31) k46 (by walk_at "lk"); exact z), (.cons (ItR.st (by decide +kernel) (by decide +kernel)) (.cons (by rcases hlx with rfl | rfl <;> exact ItR.st (by decide +kernel) (by decide +kernel)) (.cons ItR.no (.cons ItR.no .nil)))), (by have z := KH.find (p := t32) k46 (by walk_at "lk"); exact z)⟩
        have r6 : HdR K H46 TT most (.ref t36) := ⟨.add, hm2, t36, t34, t35, _, rfl, (by have z := KH.find (p := t36) k46 (by walk_at "lk"); exact z), (by have z := KH.find (p := t34) k46 (by walk_at "lk"); exact z), (.cons (ItR.st (by decide +kernel) (by decide +kernel)) (.cons ItR.no (.cons ItR.no .nil))), (by have z := KH.find (p := t35) k46 (by walk_at "lk"); exact z)⟩
        have r7 : HdR K H46 TT most (.ref t41) := ⟨.less, hm2, t41, t39, t40, _, rfl, (by have z := KH.find (p := t41) k46 (by walk_at "lk"); exact z), (by have z := KH.find (p := t39) k46 (by walk_at "lk"); exact z), (.cons (ItR.st (by decide +kernel) (by decide +kernel)) (.cons ItR.no (.cons ItR.no .nil))), (by have z := KH.find (p := t40) k46 (by walk_at "lk"); exact z)⟩
        have r8 : HdR K H46 TT most (.ref t44) := ⟨.call2, hm2, t44, t42, t43, _, rfl, (by have z := KH.find (p := t44) k46 (by walk_at "lk"); exact z), (by have z := KH.find (p := t42) k46 (by walk_at "lk"); exact z), (.cons (ItR.st (by decide +kernel) (by decide +kernel)) (.cons (ItR.st (by decide +kernel) (by decide +kernel)) (.cons ItR.no (.cons ItR.no .nil)))), (by have z := KH.find (p := t43) k46 (by walk_at "lk"); exact z)⟩
        refine hN2 _ _ ⟨l46, _, a30, c30, rfl, (by have z := KH.find (p := l46) k46 (by walk_at "lk"); exact z), free_fr f28 (ne_of_none hp28 n46).symm n46, by simp, by simp, fun v hv => ?_, (by have z := KH.find (p := pw) k46 (by walk_at "lk"); exact z), wo30.up (by omega), f28.trans f46⟩
        simp only [List.mem_append, List.mem_cons, List.not_mem_nil, or_false] at hv
        rcases hv with (hv | hv) | hv
        · refine (all28 v ?_).mo m46
          simp only [List.mem_append, List.mem_cons, List.not_mem_nil, or_false]
          exact hv
        · rcases hv with rfl | rfl
          · exact r5
          · exact r6
        · rcases hv with rfl | rfl
          · exact r7
          · exact r8
      · rw [decide_eq_false hc]
        walk_at "go"
        exact hN2 _ _ ⟨l28, _, a23, c23, rfl, hl28, n28, by simp, by simp, all28, hp28, wo23.up (by omega), f28⟩
    · obtain ⟨l, xs, a40, c40, rfl, hl, nl, lx, lx0, all, hp, wo, fm⟩ := hm
      have ki := ((KH.start1 hp).cons hl (by simpa using fun e => by rw [e, B.w_] at nl; cases nl))
      refine r_next ?_
      walk_at "st"
      walk_at "go"
      refine mid (HMid K H pw bd TT b most (N + 9) 10) (fun σ Hn hm => ?_) (fun Nx hN2 => ?_)
      rotate_left
      · by_cases hc : (2 : Int) < most
        · rw [decide_eq_true hc]
          walk_at "go"
          rename_i t51 H51 n51 k51 t52 H52 n52 k52 t53 H53 n53 k53 l54 H54 n54 k54
          refine ⟨l54, 2, _, rfl, rfl, (by have z := KH.find (p := l54) k54 (by walk_at "lk"); exact z), by decide, by decide, sz_of (by simp), ?_⟩
          intro l55 n55
          have k55 := k54.new (o := .lst (List.replicate (2 : Int).toNat [V.ref t53]).flatten) n55
          generalize upd H54 l55 _ = H55 at k55 ⊢
          walk_at "go"
          rename_i l56 H56 n56 k56
          have f56 := k56.fr
          have r9 : HdR K H56 TT most (.ref t53) := ⟨.if_, (show 3 ≤ most by omega), t53, t51, t52, _, rfl, (by have z := KH.find (p := t53) k56 (by walk_at "lk"); exact z), (by have z := KH.find (p := t51) k56 (by walk_at "lk"); exact z), (.cons (ItR.st (by decide +kernel) (by decide +kernel)) (.cons ItR.no (.cons ItR.no (.cons ItR.no .nil)))), (by have z := KH.find (p := t52) k56 (by walk_at "lk"); exact z)⟩
          refine hN2 _ _ ⟨l56, _, a40, c40, rfl, (by have z := KH.find (p := l56) k56 (by walk_at "lk"); exact z), free_fr fm (ne_of_none hp n56).symm n56, by rw [List.length_append]; show xs.length + 2 ≤ 10; omega, by rw [List.length_append]; omega, fun v hv => ?_, (by have z := KH.find (p := pw) k56 (by walk_at "lk"); exact z), wo, fm.trans f56⟩
          rcases List.mem_append.mp hv with hv | hv
          · exact (all v hv).mo (Mo.fr1 f56 hp rfl)
          · obtain rfl : v = .ref t53 := by simpa using hv
            exact r9
        · rw [decide_eq_false hc]
          walk_at "go"
          exact hN2 _ _ ⟨l, xs, a40, c40, rfl, hl, nl, by omega, lx0, all, hp, wo, fm⟩
      · obtain ⟨l, xs, a40, c40, rfl, hl, nl, lx, lx0, all, hp, wo, fm⟩ := hm
        have B' := B.fr fm hp wo (by omega)
        have nlp : l ≠ pw := fun e => by
          rw [e, B.w_] at nl
          cases nl
        have nlb : l ≠ bd := fun e => by
          rw [e, B.d] at nl
          cases nl
        have fmH : Wc.Fr [pw] H Hn := fm
        refine r_next ?_
        walk_at "st"
        refine r_lock B'.d trivial fun od => ?_
        have hlk : upd Hn bd (.frz od (.dK kvs)) bd = some (.frz od (.dK kvs)) := upd_same
        have moL : Mo Hn (upd Hn bd (.frz od (.dK kvs))) := Mo.upd B'.d rfl
        have hll : upd Hn bd (.frz od (.dK kvs)) l = some (.lst xs) := by
          rw [upd_ne nlb]
          exact hl
        have hout : ∀ {A : List Addr} {H' : Hp}, Wc.Fr A (upd Hn bd (.frz od (.dK kvs))) H' → Wc.Fr A Hn (upd H' bd (.dK kvs)) := fun e => lock_outF B'.d e
        generalize upd Hn bd (.frz od (.dK kvs)) = HL at hlk moL hout hll ⊢
        have hkl : kvs.length ≤ 6 := by rw [B.bn.length]; exact tl6
        refine r_forK ?_
        walk_at "go"
        refine ⟨bd, od, rfl, .inl ⟨kvs, hlk, ?_⟩⟩
        refine ForJ.mk walk_keys (fun i σ Hx => ∃ ys v4, σ = [some (.ref pw), some (.ref bd), some (.int (most : Nat)), some (.ref l), v4] ∧ Hx l = some (.lst ys) ∧ ys.length ≤ 10 + i ∧ 0 < ys.length ∧ (∀ v, v ∈ ys → HdR K Hx TT most v) ∧ Wc.Fr [l] HL Hx) ⟨xs, none, rfl, hll, lx, lx0, fun v hv => (all v hv).mo moL, Wc.Fr.refl _ _⟩
          (fun i σ Hx _ ⟨_, _, _, _, _, _, _, z⟩ => z _ _ (by simpa using nlb.symm) hlk) ?_ ?_
        · rintro j y σ Hx0 Hx hj ⟨ys, v4, rfl, hlx, ylx, y0, ay, fx⟩ ⟨rfl, kk, vv, hkv, rfl⟩
          obtain ⟨cc2, hc2, hn2, tr, rfl, htr⟩ := Wc.paired_get B'.bn hkv
          dsimp only at hn2
          subst hn2
          have hcm := List.mem_of_getElem? hc2
          have gv := byn_at B'.bn bk.nd hkv
          have hbx : Hx bd = some (.frz od (.dK kvs)) := fx _ _ (by simpa using nlb.symm) hlk
          have mx : Mo HL Hx := Mo.fr1 fx hll rfl
          have htr2 := mx _ _ rfl (moL _ _ rfl htr)
          have kx := ((KH.start1 hlx).cons hbx (by simpa using nlb.symm)).cons htr2 (by simpa using ⟨ne_of htr2 hbx (by intro z; cases z), ne_of htr2 hlx (by intro z; cases z)⟩)
          walk_at "go"
          refine dget_mk (.inr ⟨od, hbx⟩) gv ?_
          walk_at "go"
          by_cases hz : (0 : Int) < (cc2.all.length : Nat)
          · rw [decide_eq_true hz]
            walk_at "go"
            by_cases hm : ((cc2.all.length : Nat) : Int) ≤ most
            · rw [decide_eq_true hm]
              walk_at "go"
              rename_i t61 H61 n61 k61 t62 H62 n62 k62
              refine dget_mk (.inr ⟨od, (by have z := KH.find (p := bd) k62 (by walk_at "lk"); exact z)⟩) gv ?_
              walk_at "go"
              refine r_repA (k62.find .here) (by simp) (by omega) (by omega) (by simp) fun sa H63 e63 hsa => ?_
              have hsa : H63 sa = some (.tup (List.replicate cc2.all.length .non)) := hsa.trans (by rw [rep_flat]; rfl)
              have k63 := k62.ext e63
              refine r_catG (by have z := KH.find (p := t61) k63 (by walk_at "lk"); exact z) hsa (sz_of (by rw [List.length_replicate]; simp; omega)) fun th H64 e64 hth => ?_
              have k64 := k63.ext e64
              walk_at "go"
              refine r_tupRg (r_rg2 ?_)
              have fx64 : Wc.Fr [l] Hx H64 := k64.fr
              have hl64 := k64.find (p := l) (o := .lst ys) (by walk_at "lk")
              have nth : th ≠ l := ne_of hth hl64 (by intro z; cases z)
              have k65 := k64.rebase1 hl64
              clear kx k61 k62 k63 k64
              walk_at "go"
              refine dget_mk (.inr ⟨od, (by have z := KH.find (p := bd) k65 (by walk_at "lk"); exact z)⟩) gv ?_
              walk_at "go"
              refine ⟨2, _, rfl, rfl, RgOk.of_le (by decide) (by omega) (by decide) (by omega), ?_⟩
              intro q66 n66
              have k66 := k65.new (o := .tup (rgV 2 (2 + (cc2.all.length : Nat)))) n66
              generalize upd H64 q66 _ = H66 at k66 ⊢
              walk_at "go"
              rename_i t67 H67 n67 k67 H68 k68
              have f68 : Wc.Fr [l] H64 H68 := k68.fr
              have hth68 := f68 _ _ (by simpa using nth) hth
              have hq68 : H68 q66 = some (.tup ((Hd.new cc2.name cc2.all.length).spots.map fun (n : Nat) => V.int n)) := by
                have z0 : H68 q66 = some (.tup (rgV 2 (2 + (cc2.all.length : Nat)))) := (by have z := KH.find (p := q66) k68 (by walk_at "lk"); exact z)
                refine z0.trans ?_
                show some (HO.tup (rgV 2 (2 + (cc2.all.length : Nat)))) = some (HO.tup (((List.range cc2.all.length).map (· + 2)).map fun (n : Nat) => V.int n))
                rw [show (2 : Int) + (cc2.all.length : Nat) = ((cc2.all.length + 2 : Nat) : Int) by omega, rg_two] <;> rfl
              have ok2 := bkN_ok _ (bk.nm cc2 hcm)
              have prs : PySem.Paired (ItR K H68) ([V.str "new", V.str cc2.name] ++ List.replicate cc2.all.length V.non) (Hd.new cc2.name cc2.all.length).items :=
                .cons (ItR.st (by decide +kernel) (by decide +kernel)) (.cons (ItR.st (by omega) ok2.2.2) (nones _))
              have hni : cc2.name ≠ "int" := fun e => by
                obtain ⟨ci, h1, h2⟩ := bk.int
                have := bk.find hcm
                rw [e, h1] at this
                rw [← Option.some.inj this, h2] at hz
                exact absurd hz (by decide)
              have rw_ : HdR K H68 TT most (.ref t67) := ⟨.new cc2.name cc2.all.length, ⟨hni, by omega, by omega, cc2, bk.find hcm, rfl⟩, t67, th, q66, _, rfl, (by have z := KH.find (p := t67) k68 (by walk_at "lk"); exact z), hth68, prs, hq68⟩
              refine ⟨_, _, rfl, (by have z := KH.find (p := l) k68 (by walk_at "lk"); exact z), by rw [List.length_append]; simp; omega, by simp, fun v hv => ?_, fx.trans (fx64.trans f68)⟩
              rcases List.mem_append.mp hv with hv | hv
              · exact (ay v hv).mo ((Mo.fr1 fx64 hlx rfl).trans (Mo.fr1 f68 hl64 rfl))
              · rw [List.mem_singleton.mp hv]
                exact rw_
            · rw [decide_eq_false hm]
              walk_at "go"
              exact ⟨ys, _, rfl, hlx, by omega, y0, ay, fx⟩
          · rw [decide_eq_false hz]
            walk_at "go"
            exact ⟨ys, _, rfl, hlx, by omega, y0, ay, fx⟩
        · rintro σ Hx ⟨ys, v4, rfl, hlx, ylx, y0, ay, fx⟩
          refine ⟨fx _ _ (by simpa using nlb.symm) hlk, ?_⟩
          have fz := hout fx
          have hlz : upd Hx bd (.dK kvs) l = some (.lst ys) := by
            rw [upd_ne nlb]
            exact hlx
          have hbx : Hx bd = some (.frz od (.dK kvs)) := fx _ _ (by simpa using nlb.symm) hlk
          have mz : Mo Hx (upd Hx bd (.dK kvs)) := Mo.upd hbx rfl
          generalize upd Hx bd (.dK kvs) = Hz at fz hlz mz ⊢
          have hpz := fz _ _ (by simpa using nlp.symm) hp
          walk_at "go"
          refine ⟨pw, l, ys, a40, b, c40, N + 9, rfl, hpz, SqL.of hlz, y0, by omega, nlp.symm, wo, by omega, fun v a70 c70 H70 hv wo70 f70 h70 => ?_⟩
          have m70 : Mo Hz H70 := Mo.fr1 f70 hpz rfl
          refine k v a70 c70 H70 ((ay v hv).mo (mz.trans m70)) h70 (wo70.up (by omega)) ?_
          have g : Wc.Fr [pw] H Hz := Fr.outA fmH fz fun q hq => by
            rw [List.mem_singleton.mp hq]
            exact .inr nl
          exact g.trans f70
end
end K10


set_option Elab.async false
set_option linter.all false
set_option maxRecDepth 100000
set_option maxHeartbeats 4000000
namespace K10
open PySem PySem.Spec PyProof.Rows L2 Wc
local macro_rules | `(tactic| walk_at "lk") => `(tactic| first | with_reducible exact Look.here | (with_reducible apply Look.there; walk_at "lk"))
local macro_rules | `(tactic| walk_at "ul") => `(tactic| first | with_reducible exact UpL.here | (with_reducible apply UpL.there; walk_at "ul"))
local macro_rules | `(tactic| walk_at "ga") => `(tactic| first | exact GetAt.here | (apply GetAt.there; walk_at "ga"))
local macro_rules | `(tactic| walk_at "sa") => `(tactic| first | exact SetAt.here | (apply SetAt.there; walk_at "sa"))
local macro_rules | `(tactic| walk_at "hp") => `(tactic| first | assumption | (refine' KH.find ?k ?h; (case k => assumption); (case h => walk_at "lk")))
local macro_rules | `(tactic| walk_at "sql") => `(tactic| first | assumption | (refine' SqL.of ?h; (case h => walk_at "hp")) | (refine' Fr.sql (KH.fr ?k) ?n ?h; (case k => assumption); (case h => assumption); (case n => (simp; done))))
local macro_rules | `(tactic| walk_at "sqt") => `(tactic| first | assumption | (refine' SqT.of ?h; (case h => walk_at "hp")))
local macro_rules | `(tactic| walk_at "side") => `(tactic| first | exact (show (0 : Int) < _ by decide) | exact (show (0 : Int) < _ by omega) | exact ⟨by decide, by decide, by decide⟩ | exact ⟨by decide, by decide, by omega⟩ | exact ⟨by decide, by decide⟩ | exact ⟨by omega, by omega⟩ | exact Or.inl ⟨by omega, by omega⟩ | exact Or.inr ⟨by omega, by omega⟩)
local macro_rules | `(tactic| walk_at "siz") => `(tactic| first | (refine sz_of ?_; first | decide | omega | (simp; done) | (simp; omega)) | (refine sz_lt ?_; first | decide | omega | (simp; done) | (simp; omega)))
local macro_rules | `(tactic| walk_at "own") => `(tactic| first | (exact Or.inr (by assumption)) | (refine Or.inl ?_; simp; done))
local macro_rules | `(tactic| walk_at "al") => `(tactic| (refine' AllocO.mk ?k ?_; (case k => assumption); intro _ _ _ _))
local macro_rules | `(tactic| walk_at "up") => `(tactic| (refine' UpdO.mk ?k ?h ?m ?_; (case k => assumption); (case h => walk_at "ul"); (case m => walk_at "own"); intro _ _))
local macro_rules | `(tactic| walk_at "st") => `(tactic| first
  | ((with_reducible refine' r_var ?h ?_); (case h => walk_at "ga"))
  | (with_reducible refine' r_seq ?_) | (with_reducible refine' r_next ?_) | (with_reducible refine' r_asg ?_) | (with_reducible refine' r_drop ?_) | (with_reducible refine' r_ret ?_) | (with_reducible refine' r_retN ?_)
  | (with_reducible refine' r_ifs ?_) | (with_reducible refine' r_cont ?_) | (with_reducible refine' r_break ?_) | (with_reducible refine' r_c ?_) | (with_reducible refine' r_op ?_) | (with_reducible refine' r_un ?_)
  | (with_reducible refine' r_test ?_) | (with_reducible refine' r_tB ?_) | (with_reducible refine' r_not ?_) | (with_reducible refine' r_and ?_) | (with_reducible refine' r_or ?_) | (with_reducible refine' r_notV ?_)
  | (with_reducible refine' r_andV ?_) | (with_reducible refine' r_orV ?_) | (with_reducible refine' r_ifE ?_) | (with_reducible refine' r_bl ?_) | (with_reducible refine' r_nil ?_) | (with_reducible refine' r_cons ?_)
  | (with_reducible refine' r_tup ?_) | (with_reducible refine' r_lst ?_) | (with_reducible refine' r_cb ?_) | (with_reducible refine' r_call ?_) | ((with_reducible refine' r_name ?h ?_); (case h => walk_at "sa")) | (with_reducible refine' r_gnil ?_)
  | (with_reducible refine' r_gcons ?_) | (with_reducible refine' r_gsub ?_) | (with_reducible refine' r_par ?_) | (with_reducible refine' r_par2 ?_) | (with_reducible refine' r_I0 ?_) | (with_reducible refine' r_U ?_)
  | ((with_reducible refine' r_eq ?h ?_); (case h => rfl)) | ((with_reducible refine' r_ne ?h ?_); (case h => rfl))
  | ((with_reducible refine' r_ixL ?h ?a ?_); (case h => walk_at "sql"); (case a => rfl))
  | ((with_reducible refine' r_ixT ?h ?a ?_); (case h => walk_at "sqt"); (case a => rfl))
  | ((with_reducible refine' r_setL ?h ?a ?_); (case h => walk_at "hp"); (case a => rfl))
  | ((with_reducible refine' r_I ?c ?_); (case c => walk_at "side"))
  | (with_reducible refine' r_sl ?_) | (with_reducible refine' r_part ?_) | (with_reducible refine' r_nopart ?_) | (with_reducible refine' r_ii ?_)
  | ((with_reducible refine' r_slL ?h ?_); (case h => walk_at "sql"))
  | (with_reducible refine' r_bm ?_) | (with_reducible refine' r_bm0 ?_) | (with_reducible refine' r_int1 ?_) | (with_reducible refine' r_int1b ?_)
  | ((with_reducible refine' r_aug ?h ?_); (case h => walk_at "ga"))
  | ((with_reducible refine' r_cat ?a ?b ?z ?_); (case a => walk_at "hp"); (case b => walk_at "hp"); (case z => walk_at "siz"))
  | ((with_reducible refine' r_append ?a ?z ?_); (case a => walk_at "hp"); (case z => walk_at "siz"))
  | ((with_reducible refine' And.intro ?z ?_); (case z => first | walk_at "siz" | exact Or.inl ⟨rfl, _, by walk_at "sql"⟩))
  | ((with_reducible refine' r_gtup ?h ?l ?_); (case h => walk_at "sqt"); (case l => rfl))
  | (with_reducible refine' r_forL ?_) | (with_reducible refine' r_forE ?_) | (with_reducible refine' r_forR ?_) | ((with_reducible refine' r_forL2 ?h ?_); (case h => walk_at "sql")) | ((with_reducible refine' r_forE2 ?h ?_); (case h => walk_at "sql"))
  | (with_reducible refine' r_lcR ?_) | ((with_reducible refine' r_iteT ?h ?_); (case h => rfl)) | ((with_reducible refine' r_iteF ?h ?_); (case h => rfl))
  | (with_reducible refine' r_dnew ?_) | (with_reducible refine' r_vei ?_) | (with_reducible refine' r_ost ?_) | (with_reducible refine' r_mkV ?_) | (with_reducible refine' r_mkX ?_) | (with_reducible refine' r_xfld ?_)
  | ((with_reducible refine' MkG.mk ?o ?n ?k ?_); (case o => exact ErrOk.o (by assumption)); (case n => exact ErrOk.no (by assumption)); (case k => assumption); intro _ _ _ _)
  | ((with_reducible refine' AllocX.mk ?k ?_); (case k => assumption); intro _ _ _ _)
  | (with_reducible refine' r_chain ?_) | (with_reducible refine' r_lcS ?_) | (with_reducible refine' r_lcS2 ?_) | (with_reducible refine' r_lcL ?_) | (with_reducible refine' r_lcT ?_) | (with_reducible refine' r_lcI ?_) | (with_reducible refine' r_yes ?_)
  | (with_reducible refine' r_fld ?_) | (with_reducible refine' r_sfld ?_) | (with_reducible refine' r_meth ?_) | (with_reducible refine' r_make ?_) | (with_reducible refine' r_dget ?_) | (with_reducible refine' r_din ?_) | (with_reducible refine' r_dput ?_)
  | ((with_reducible refine' r_disp ?k ?_); (case k => assumption); intro _ _ _ _) | (with_reducible refine' r_pnil ?_) | (with_reducible refine' r_pcons ?_)
  | (walk_at "al") | (walk_at "up"))
local macro_rules | `(tactic| walk_at "go") => `(tactic| repeat walk_at "st")

theorem stopIf {c : TT} {t u v : TS} {D : Ends} {σ σ' : L2.St} {H : Hp} (e : σ = σ') (h : tSeq (tIfS c t u) v D σ' H) : tSeq (tIfS c t u) v D σ H := by
  rw [e]
  exact h
theorem r_mix {ta : TA} {g : TG} {tb : TS} {D : Ends} {σ : L2.St} {H : Hp} {K : PySem.W.Frag} (h : ta σ H fun vs H1 => ∃ p q us ws, vs = [V.ref p, .ref q] ∧ SqT K H1 p us ∧ SqL K H1 q ws ∧ ForJ (Itm K p q) g tb D σ H1) : tFor (iMix K ta) g tb D σ H := h
theorem bad_arg {i : Int} {q : Nat × List Str} : badD (.tup [.str "arg", .int i]) q = !decide (i < (q.1 : Int)) := by
  show (if ("arg" : Str) = "name" then !q.2.contains (strD (.int i)) else if ("arg" : Str) = "arg" then !decide (i < (q.1 : Int)) else false) = _
  rw [if_neg (by decide +kernel), if_pos rfl]
theorem bad_name {x : Str} {q : Nat × List Str} : badD (.tup [.str "name", .str x]) q = !q.2.contains x := by
  show (if ("name" : Str) = "name" then !q.2.contains x else if ("name" : Str) = "arg" then false else false) = _
  rw [if_pos rfl]
theorem bad_new {x : Str} {q : Nat × List Str} : badD (.tup [.str "new", .str x]) q = false := by
  show (if ("new" : Str) = "name" then !q.2.contains x else if ("new" : Str) = "arg" then false else false) = _
  rw [if_neg (by decide +kernel), if_neg (by decide +kernel)]
theorem LeafOk.facts {T : List Cl} {n : Nat} (w : BK T n) {q : Nat × List Str} {d : Dt} (hq : ∀ x : Str, x ∈ q.2 → x = "x" ∨ x = "y") (h : LeafOk T q d) : Fm T 1 d ∧ Okc q d ∧ dep d ≤ 1 := by
  obtain ⟨i1, i2, i3⟩ := in_int
  cases h with
  | int i h1 h2 => exact ⟨fm_leaf (kids_leaf2 i1) fun p c ns => by rw [Wc.v_int, decide_eq_true h1, decide_eq_true h2] <;> rfl, okc_leaf (kids_leaf2 i1) rfl, Nat.le_refl _⟩
  | arg i h1 h2 =>
    refine ⟨fm_leaf (kids_leaf2 i2) fun p c ns => ?_, okc_leaf (kids_leaf2 i2) ?_, Nat.le_refl _⟩
    · rw [Wc.v_arg, decide_eq_true h1, bad_arg, Bool.true_and, Bool.not_not]
      exact decide_eq_decide.mpr (by omega)
    · rw [bad_arg, decide_eq_true h2] <;> rfl
  | name x hx =>
    have ok := xy_ok (hq x hx)
    refine ⟨fm_leaf (kids_leaf2 i3) fun p c ns => ?_, okc_leaf (kids_leaf2 i3) ?_, Nat.le_refl _⟩
    · rw [Wc.v_name, ok.1, bad_name, Bool.true_and, Bool.not_not]
    · rw [bad_name, List.contains_iff_mem.mpr hx] <;> rfl
  | new x c h1 h2 h3 =>
    have hm := find_mem h2
    have kn : kids (.tup [.str "new", .str x]) = [] := rfl
    refine ⟨fm_leaf kn fun p cn ns => ?_, okc_leaf kn bad_new, Nat.le_refl _⟩
    have e : Wc.fieldsOf T (.str x) = 0 := by
      show (match findC T x with | some c => c.all.length | none => 0) = _
      rw [h2]
      show c.all.length = 0
      rw [h3] <;> rfl
    rw [Wc.v_new, e, w.clsT (List.mem_map.mpr ⟨c, hm.1, hm.2⟩), decide_eq_false h1, bad_new] <;> rfl
theorem spots_le {T : List Cl} {most : Nat} {hd : Hd} (o : hd.ok T most) (h1 : 1 ≤ most) : 1 ≤ hd.spots.length ∧ hd.spots.length ≤ most := by
  cases hd with
  | is_ c => exact ⟨Nat.le_refl _, h1⟩
  | fld a => exact ⟨Nat.le_refl _, h1⟩
  | call1 w f => exact ⟨Nat.le_refl _, h1⟩
  | dfn f sg => exact ⟨Nat.le_refl _, h1⟩
  | let_ x => exact ⟨show 1 ≤ 2 by decide, o.2⟩
  | add => exact ⟨show 1 ≤ 2 by decide, o⟩
  | less => exact ⟨show 1 ≤ 2 by decide, o⟩
  | call2 => exact ⟨show 1 ≤ 2 by decide, o⟩
  | if_ => exact ⟨show 1 ≤ 3 by decide, o⟩
  | new x k =>
    rw [spots_new]
    exact ⟨o.2.1, o.2.2.1⟩
theorem ixN_at {n j : Nat} (hj : j < n) : ixN n (j : Int) = some j := by
  unfold ixN
  rw [if_pos (by omega)]
  simp [hj]
theorem take_sum {ks : List Nat} {j k : Nat} (h : ks[j]? = some k) : (ks.take (j + 1)).sum = (ks.take j).sum + k := by
  rw [List.take_succ, h, List.sum_append]
  simp
theorem take_le {ks : List Nat} {j k : Nat} (h : ks[j]? = some k) : (ks.take j).sum + k ≤ ks.sum := by
  have e : ks.sum = (ks.take (j + 1)).sum + (ks.drop (j + 1)).sum := by rw [← List.sum_append, List.take_append_drop]
  rw [e, take_sum h]
  omega
theorem paired_set {α β : Type} {R : α → β → Prop} {xs : List α} {ys : List β} {i : Nat} {x : α} {y : β} (h : PySem.Paired R xs ys) (r : R x y) : PySem.Paired R (xs.set i x) (ys.set i y) := by
  induction h generalizing i with
  | nil => exact .nil
  | cons a t ih =>
    cases i with
    | zero => exact .cons r t
    | succ i => exact .cons a ih
theorem fill_len : ∀ (ds : List Dt) (ss : List Nat) (l : List (Option Dt)), (fill l ss ds).length = l.length
  | [], ss, l => by rw [fill_nil]
  | d :: ds, [], l => rfl
  | d :: ds, s :: ss, l => by
    show (fill (l.set s (some d)) ss ds).length = _
    rw [fill_len ds ss, List.length_set]
theorem its_all {K : PySem.W.Frag} {H : Hp} : ∀ {ps : List V} {l : List Dt}, PySem.Paired (ItR K H) ps (l.map some) → DtAll K H ps l ∧ pureDs l = true
  | [], [], _ => ⟨.nil, rfl⟩
  | _ :: _, [], h => by cases h
  | [], _ :: _, h => by cases h
  | p :: ps, d :: l, h => by
    cases h with
    | cons a t =>
      obtain ⟨i1, i2⟩ := its_all (l := l) t
      refine ⟨.cons a.1 i1, ?_⟩
      show (pureD d && pureDs l) = true
      rw [a.2, i2] <;> rfl
theorem items_le {T : List Cl} {most : Nat} {hd : Hd} (o : hd.ok T most) : hd.items.length ≤ most + 4 := by
  cases hd with
  | new x k =>
    show (List.replicate k none).length + 1 + 1 ≤ most + 4
    rw [List.length_replicate]
    have := o.2.2.1
    omega
  | is_ c => exact Nat.le_trans (show 3 ≤ 4 by decide) (Nat.le_add_left _ _)
  | fld c => exact Nat.le_trans (show 3 ≤ 4 by decide) (Nat.le_add_left _ _)
  | call1 c d => exact Nat.le_trans (show 3 ≤ 4 by decide) (Nat.le_add_left _ _)
  | dfn c d => exact Nat.le_add_left 4 _
  | let_ c => exact Nat.le_add_left 4 _
  | add => exact Nat.le_trans (show 3 ≤ 4 by decide) (Nat.le_add_left _ _)
  | less => exact Nat.le_trans (show 3 ≤ 4 by decide) (Nat.le_add_left _ _)
  | call2 => exact Nat.le_add_left 4 _
  | if_ => exact Nat.le_add_left 4 _
theorem spots_lt {T : List Cl} {most : Nat} {hd : Hd} (o : hd.ok T most) {s : Nat} (h : s ∈ hd.spots) : s < hd.items.length := by
  cases hd with
  | new x k =>
    obtain ⟨i, hi, rfl⟩ := List.mem_map.mp (show s ∈ (List.range k).map (· + 2) from h)
    rw [List.mem_range] at hi
    show i + 2 < (List.replicate k none).length + 1 + 1
    rw [List.length_replicate]
    omega
  | is_ c =>
    obtain rfl : s = 1 := by simpa [Hd.spots] using h
    exact (by decide : 1 < 3)
  | fld c =>
    obtain rfl : s = 1 := by simpa [Hd.spots] using h
    exact (by decide : 1 < 3)
  | call1 c d =>
    obtain rfl : s = 2 := by simpa [Hd.spots] using h
    exact (by decide : 2 < 3)
  | dfn c d =>
    obtain rfl : s = 3 := by simpa [Hd.spots] using h
    exact (by decide : 3 < 4)
  | let_ c =>
    have h : s = 2 ∨ s = 3 := by simpa [Hd.spots] using h
    show s < 4
    omega
  | add =>
    have h : s = 1 ∨ s = 2 := by simpa [Hd.spots] using h
    show s < 3
    omega
  | less =>
    have h : s = 1 ∨ s = 2 := by simpa [Hd.spots] using h
    show s < 3
    omega
  | call2 =>
    have h : s = 2 ∨ s = 3 := by simpa [Hd.spots] using h
    show s < 4
    omega
  | if_ =>
    have h : s = 1 ∨ s = 2 ∨ s = 3 := by simpa [Hd.spots] using h
    show s < 4
    omega
theorem ctx_ok {T : List Cl} {most : Nat} {hd : Hd} (o : hd.ok T most) {s wd inner : Nat} {ns bs : List Str} (h : hd.ctx s (wd, ns) = (inner, bs)) (w1 : 1 ≤ wd) (w2 : wd ≤ 100) (hx : ∀ x : Str, x ∈ ns → x = "x" ∨ x = "y") :
    (1 ≤ inner ∧ inner ≤ 100) ∧ bs.length ≤ ns.length + 1 ∧ ∀ x : Str, x ∈ bs → x = "x" ∨ x = "y" := by
  have same : (wd, ns) = (inner, bs) → (1 ≤ inner ∧ inner ≤ 100) ∧ bs.length ≤ ns.length + 1 ∧ ∀ x : Str, x ∈ bs → x = "x" ∨ x = "y" := fun e => by
    injection e with e1 e2
    subst e1 e2
    exact ⟨⟨w1, w2⟩, Nat.le_succ _, hx⟩
  cases hd with
  | let_ x =>
    have h : (if s = 3 then (wd, ns ++ [x]) else (wd, ns)) = (inner, bs) := h
    by_cases h3 : s = 3
    · rw [if_pos h3] at h
      injection h with e1 e2
      subst e1 e2
      refine ⟨⟨w1, w2⟩, by rw [List.length_append] <;> exact Nat.le_refl _, fun z hz => ?_⟩
      rcases List.mem_append.mp hz with hz | hz
      · exact hx z hz
      · rw [List.mem_singleton.mp hz]
        exact o.1
    · rw [if_neg h3] at h
      exact same h
  | dfn c sg =>
    have h : (sg.length, ([] : List Str)) = (inner, bs) := h
    injection h with e1 e2
    subst e1 e2
    have := o.2.1
    exact ⟨by omega, Nat.zero_le _, fun x hx => by cases hx⟩
  | new x k => exact same h
  | is_ c => exact same h
  | fld c => exact same h
  | call1 c d => exact same h
  | add => exact same h
  | less => exact same h
  | call2 => exact same h
  | if_ => exact same h
theorem BkAt.frA {H H' : Hp} {A : List Addr} {pw bd : Addr} {T : List Cl} {kvs : List (Key × V)} {a b c a' c' : Int} {N M : Nat} (h : BkAt H pw bd T kvs a b c N) (f : Wc.Fr A H H') (m : Mo H H') (n : bd ∉ A) (hp : H' pw = some (wl a' b c')) (wo : WellOk M b c') (lM : M ≤ 100000000) : BkAt H' pw bd T kvs a' b c' M :=
  ⟨hp, wo, f _ _ n h.d, h.bn.mono fun _ _ z => z.mo m, h.bk, h.tl, lM⟩
structure Bt3 (mg : Str → Option Value) : Prop where
  f_zip : mg "zip" = none
/-- the word of a head -/
def letN (hd : Hd) (s : Nat) (ns : List Str) : List Str := match hd with
  | .let_ x => if s = 3 then ns ++ [x] else ns
  | _ => ns
inductive HdW : Hd → Str → Prop where
  | lt (x : Str) : HdW (.let_ x) "let"
  | df (f : Str) (sg : List Str) : HdW (.dfn f sg) "define"
  | no (hd : Hd) (w : Str) : w ≠ "let" → w ≠ "define" → (∀ s ns, letN hd s ns = ns) → (∀ s q, hd.ctx s q = q) → HdW hd w
theorem hd_word {T : List Cl} {most : Nat} {hd : Hd} (o : hd.ok T most) : ∃ w rest, hd.items = some (.str w) :: rest ∧ HdW hd w := by
  cases hd with
  | is_ c => exact ⟨_, _, rfl, .no _ _ (by decide +kernel) (by decide +kernel) (fun _ _ => rfl) fun _ _ => rfl⟩
  | fld a => exact ⟨_, _, rfl, .no _ _ (by decide +kernel) (by decide +kernel) (fun _ _ => rfl) fun _ _ => rfl⟩
  | call1 w f => exact ⟨_, _, rfl, .no _ _ (by rcases o.1 with rfl | rfl <;> decide +kernel) (by rcases o.1 with rfl | rfl <;> decide +kernel) (fun _ _ => rfl) fun _ _ => rfl⟩
  | dfn f sg => exact ⟨_, _, rfl, .df f sg⟩
  | let_ x => exact ⟨_, _, rfl, .lt x⟩
  | add => exact ⟨_, _, rfl, .no _ _ (by decide +kernel) (by decide +kernel) (fun _ _ => rfl) fun _ _ => rfl⟩
  | less => exact ⟨_, _, rfl, .no _ _ (by decide +kernel) (by decide +kernel) (fun _ _ => rfl) fun _ _ => rfl⟩
  | call2 => exact ⟨_, _, rfl, .no _ _ (by decide +kernel) (by decide +kernel) (fun _ _ => rfl) fun _ _ => rfl⟩
  | if_ => exact ⟨_, _, rfl, .no _ _ (by decide +kernel) (by decide +kernel) (fun _ _ => rfl) fun _ _ => rfl⟩
  | new x k => exact ⟨_, _, rfl, .no _ _ (by decide +kernel) (by decide +kernel) (fun _ _ => rfl) fun _ _ => rfl⟩
section
variable {P : Program} {w : World} {K : PySem.W.Frag} {mg : Str → Option Value} {base : Heap} {f : Addr} {fd : FuncData}
def spLBody (K : PySem.W.Frag) (M : Nat) : Sp := fun vs H Q _ => ∃ pw bd T kvs a b c N m wd ln ns, vs = [.ref pw, .ref bd, .int (m : Nat), .int (wd : Nat), .ref ln] ∧ BkAt H pw bd T kvs a b c N ∧ N + 100 * m ≤ 100000000 ∧ 1 ≤ m ∧ m ≤ M ∧ M ≤ 25 ∧ 1 ≤ wd ∧ wd ≤ 100 ∧ H ln = some (.lst (ns.map V.str)) ∧ (ns : List Str).length + m ≤ 100 ∧ (∀ x : Str, x ∈ ns → x = "x" ∨ x = "y") ∧
  ∀ (v : V) (d : Dt) (a' c' : Int) (H' : Hp), Fm T m d → Okc (wd, ns) d → dep d ≤ m → DtAt K H' v d → pureD d = true → H' pw = some (wl a' b c') → WellOk (N + 50 * m) b c' → Wc.Fr [pw] H H' → Q v H'
theorem ok_body {M : Nat} (F : FnP K "_law_body" s_l_body f fd) (T : Bt mg) (T3 : Bt3 mg) (D_l_leaf : DfOk P w K mg base CX0 3 "_law_leaf" ["_law_well_here", "_law_book", "_law_wide", "_law_names"] (spLLeaf K)) (D_l_head : DfOk P w K mg base CX0 4 "_law_head" ["_law_well_here", "_law_book", "_law_most"] (spLHead K)) (D_l_shares : DfOk P w K mg base CX0 2 "_law_shares" ["_law_well_here", "_law_many", "_law_wide"] spShares)
    (D_l_body : DfOk P w K mg base CX0 (4 + M) "_law_body" ["_law_well_here", "_law_book", "_law_many", "_law_wide", "_law_names"] (spLBody K M)) : FnOk P w K mg base CX0 (4 + (M + 1)) f fd ["_law_well_here", "_law_book", "_law_many", "_law_wide", "_law_names"] (spLBody K (M + 1)) := by
  refine F.ok sc_l_body (fun vs H Q E h => ?_) (fun cdv A outer s H vs Q E hr h => ?_)
  · obtain ⟨pw, bd, TT, kvs, a, b, c, N, m, wd, ln, ns, rfl, _⟩ := h
    rfl
  · have hr : Room (4 + M) _ := hr
    have hr4 := hr.mono (show 4 ≤ 4 + M by omega)
    refine ⟨_, PSs.nox (pss_cons (ps_if (pt_cmpR op_eq (pv 2) pe_int (nomark _)) (pss_one (ps_ret (pe_callD D_l_leaf hr4 (pa_cons (pv 0) (pa_cons (pv 1) (pa_cons (pv 3) (pa_cons (pv 4) pa_nil))))))) pss_nil)
      (pss_cons (ps_asg (pe_callD D_l_head hr4 (pa_cons (pv 0) (pa_cons (pv 1) (pa_cons (pe_op op_sub (pv 2) pe_int) pa_nil)))) (pg_tup rfl (pgs_cons (pg_name (i := 5) sc_l_body.nd rfl (by first | exact Or.inl rfl | exact Or.inr rfl)) (pgs_cons (pg_name (i := 6) sc_l_body.nd rfl (by first | exact Or.inl rfl | exact Or.inr rfl)) pgs_nil))))
      (pss_cons (ps_set (i := 7) sc_l_body.nd rfl (by first | exact Or.inl rfl | exact Or.inr rfl) (pe_callTy call_list_of (by rfl) T.f_list PyProof.Rows.boot_list (pa_cons (pv 5) pa_nil)))
      (pss_cons (ps_for PassesOwn.never rfl (pi_mixed (by rfl) T3.f_zip (pa_cons (pv 6) (pa_cons (pe_callD D_l_shares hr4 (pa_cons (pv 0) (pa_cons (pe_op op_sub (pv 2) pe_int) (pa_cons (pe_callB call_len_seq (by rfl) T.f_len PySem.boot_len (pa_cons (pv 6) pa_nil)) pa_nil)))) pa_nil))) (pg_tup rfl (pgs_cons (pg_name (i := 8) sc_l_body.nd rfl (by first | exact Or.inl rfl | exact Or.inr rfl)) (pgs_cons (pg_name (i := 9) sc_l_body.nd rfl (by first | exact Or.inl rfl | exact Or.inr rfl)) pgs_nil))) (pss_cons (ps_par (i := 10) (j := 11) (by rfl) sc_l_body.nd rfl rfl (by decide) rfl rfl (pa_cons (pv 3) (pa_cons (pv 4) pa_nil)) (by rfl))
      (pss_cons (ps_if (PW.pt (pw_and (pt_cmpR op_eq (pe_ix ix_tup (pv 5) pe_int (fun _ _ => rfl)) pe_str (nomark _)) (pw_and1 (pt_cmpR op_eq (pv 8) pe_int (nomark _))))) (pss_one (ps_set (i := 11) sc_l_body.nd rfl (by first | exact Or.inl rfl | exact Or.inr rfl) (pe_op op_cat (pv 4) (pe_lst (pa_cons (pe_ix ix_tup (pv 5) pe_int (fun _ _ => rfl)) pa_nil))))) pss_nil)
      (pss_cons (ps_if (pt_cmpR op_eq (pe_ix ix_tup (pv 5) pe_int (fun _ _ => rfl)) pe_str (nomark _)) (pss_one (ps_par (i := 10) (j := 11) (by rfl) sc_l_body.nd rfl rfl (by decide) rfl rfl (pa_cons (pe_callB call_len_seq (by rfl) T.f_len PySem.boot_len (pa_cons (pe_ix ix_tup (pv 5) pe_int (fun _ _ => rfl)) pa_nil)) (pa_cons (pe_lst pa_nil) pa_nil)) (by rfl))) pss_nil)
      (pss_one (ps_asg (pe_callD (hk := Nat.le_refl _) D_l_body hr (pa_cons (pv 0) (pa_cons (pv 1) (pa_cons (pv 9) (pa_cons (pv 10) (pa_cons (pv 11) pa_nil)))))) (pg_sub (pv 7) (pv 8) set_list)))))))
      (pss_one (ps_ret (pe_callTy call_tuple_of (by rfl) T.f_tuple PyProof.Rows.boot_tuple (pa_cons (pv 7) pa_nil)))))))), ?_⟩
    obtain ⟨pw, bd, TT, kvs, a, b, c, N, m, wd, ln, ns, rfl, B, hN, m1, mM, hM, w1, w2, hln, nl, nxy, k⟩ := h
    rw [show L2.start ["_law_well_here", "_law_book", "_law_many", "_law_wide", "_law_names", "_law_head_here", "_law_spots_here", "_law_part", "_law_spot", "_law_share", "_law_inner", "_law_bound"] [V.ref pw, V.ref bd, V.int (m : Nat), V.int (wd : Nat), V.ref ln] = ([some (V.ref pw), some (V.ref bd), some (V.int (m : Nat)), some (V.int (wd : Nat)), some (V.ref ln), none, none, none, none, none, none, none] : List (Option V)) from rfl]
    obtain ⟨n, bk⟩ := B.bk
    have kh := KH.start (H := H)
    walk_at "go"
    by_cases hm : m = 1
    · subst hm
      rw [show decide (V.int ((1 : Nat) : Int) = V.int 1) = true from decide_eq_true rfl]
      walk_at "go"
      refine ⟨pw, bd, TT, kvs, a, b, c, N, wd, ln, ns, rfl, B, by omega, w1, w2, hln, by omega, nxy, fun v d a' c' H' h1 h2 h3 h4 h5 h6 => ?_⟩
      obtain ⟨f1, f2, f3⟩ := h1.facts bk nxy
      exact k v d a' c' H' f1 f2 f3 h2 h3 h4 (h5.up (by omega)) h6
    · rw [show decide (V.int (m : Int) = V.int 1) = false from decide_eq_false (fun e => hm (by injection e with e; omega))]
      walk_at "go"
      refine ⟨pw, bd, TT, kvs, a, b, c, N, m - 1, (by rw [show ((m - 1 : Nat) : Int) = (m : Int) - 1 by omega] <;> rfl), B, by omega, by omega, by omega, fun v a1 c1 H1 hv h1 wo1 f1 => ?_⟩
      obtain ⟨hd, ok, r, h, s, vs, rfl, hr1, hh1, pvs, hs1⟩ := hv
      obtain ⟨sp1, sp2⟩ := spots_le ok (by omega)
      obtain ⟨ww, rest, hi, hw⟩ := hd_word ok
      obtain ⟨vs', rfl⟩ : ∃ vs', vs = V.str ww :: vs' := by
        have q := pvs
        rw [hi] at q
        cases q with
        | cons a t =>
          cases a.1 with
          | str _ => exact ⟨_, rfl⟩
      have B1 := B.fr f1 h1 wo1 (by omega)
      have nln : ln ≠ pw := ne_of hln B.w_ (by
        intro z
        unfold wl at z
        injection z with z
        cases ns with
        | nil => cases z
        | cons q l => injection z with z1 z2; cases z1)
      have hln1 := f1 _ _ (by simpa using nln) hln
      have nhp : h ≠ pw := ne_of hh1 h1 (by intro z; unfold wl at z; cases z)
      have nsp : s ≠ pw := ne_of hs1 h1 (by intro z; unfold wl at z; cases z)
      have k1 := (KH.start1 h1).cons hh1 (by simpa using nhp)
      refine r_gtup (SqT.of hr1) rfl ?_
      walk_at "go"
      refine ⟨h, _, rfl, .inr (SqT.of hh1), ?_⟩
      intro lp nlp0
      have k2 := k1.new (o := .lst (V.str ww :: vs')) nlp0
      have nlp := k1.fresh nlp0
      generalize upd H1 lp _ = H2 at k2 ⊢
      have f12 : Wc.Fr [pw] H1 H2 := k2.fr
      have hs2 := f12 _ _ (by simpa using nsp) hs1
      have hlp2 := k2.find (p := lp) .here
      walk_at "go"
      refine r_mix ?_
      walk_at "go"
      refine ⟨s, _, rfl, .inr (SqT.of hs2), ?_⟩
      walk_at "go"
      refine ⟨pw, a1, b, c1, N + 20, m - 1, hd.spots.length, (by rw [List.length_map, show ((m - 1 : Nat) : Int) = (m : Int) - 1 by omega] <;> rfl), (by have z := KH.find (p := pw) k2 (by walk_at "lk"); exact z), wo1, by omega, sp1, sp2, by omega, fun sl ks a3 c3 H3 kl ksum kpos nsl hsl h3 wo3 f23 => ?_⟩
      have npl : lp ≠ pw := (ne_of_none h1 nlp0).symm
      have nhl : h ≠ lp := ne_of_none hh1 nlp0
      have nsl2 : s ≠ lp := ne_of_none hs1 nlp0
      have nll : ln ≠ lp := ne_of_none hln1 nlp0
      have nbl : bd ≠ lp := ne_of_none B1.d nlp0
      have h2p := k2.find (p := pw) (o := wl a1 b c1) (by walk_at "lk")
      have nslp : sl ≠ pw := (ne_of_none h2p nsl).symm
      have nsll : sl ≠ lp := (ne_of_none hlp2 nsl).symm
      have f13 : Wc.Fr [pw] H1 H3 := f12.trans f23
      have m13 : Mo H1 H3 := Mo.fr1 f13 h1 rfl
      have B3 := B1.fr f13 h3 wo3 (by omega)
      have hlp3 : H3 lp = some (.lst (V.str ww :: vs')) := f23 _ _ (by simpa using npl) hlp2
      have hs3 := f23 _ _ (by simpa using nsp) hs2
      have hh3 : H3 h = some (.tup (V.str ww :: vs')) := f13 _ _ (by simpa using nhp) hh1
      have hln3 := f13 _ _ (by simpa using nln) hln1
      have pvs3 : PySem.Paired (ItR K H3) (V.str ww :: vs') hd.items := Paired.mapP pvs fun _ _ z => z.mo m13
      clear k1 k2 kh
      refine ⟨s, sl, _, _, rfl, SqT.of hs3, SqL.of hsl, ?_⟩
      refine ForJ.mk (walk_mixed (us := hd.spots.map fun (n : Nat) => V.int n) (vs := ks.map fun (k : Nat) => V.int k) (by rw [List.length_map, List.length_map, kl])) (fun i σ Hi => ∃ (ds : List Dt) (ps : List V) (v8 v9 v10 v11 : Option V) (a' c' : Int), σ = [some (.ref pw), some (.ref bd), some (.int (m : Nat)), some (.int (wd : Nat)), some (.ref ln), some (.ref h), some (.ref s), some (.ref lp), v8, v9, v10, v11] ∧
        ds.length = i ∧ Hi lp = some (.lst ps) ∧ PySem.Paired (ItR K Hi) ps (fill hd.items hd.spots ds) ∧ PySem.Paired (fun d k => Fm TT k d) ds (ks.take i) ∧ (∀ (j s : Nat) (d : Dt), hd.spots[j]? = some s → ds[j]? = some d → Okc (hd.ctx s (wd, ns)) d) ∧ (∀ d, d ∈ ds → dep d ≤ m - 1) ∧
        Hi pw = some (wl a' b c') ∧ WellOk (N + 20 + hd.spots.length + 50 * (ks.take i).sum) b c' ∧ Wc.Fr [pw, lp] H3 Hi)
        ⟨[], V.str ww :: vs', none, none, none, none, a3, c3, rfl, rfl, hlp3, by rw [fill_nil]; exact pvs3, .nil, (fun j s d _ h => by cases h), (fun d h => by cases h), h3, by simpa using wo3, Wc.Fr.refl _ _⟩
        (fun i σ Hi _ ⟨_, _, _, _, _, _, _, _, _, _, _, _, _, _, _, _, _, z⟩ => ⟨SqT.of (z _ _ (by simp [nsp, nsl2]) hs3), SqL.of (z _ _ (by simp [nslp, nsll]) hsl)⟩) ?_ ?_
      · rintro j y σ Hi Hj hj ⟨ds, ps, v8, v9, v10, v11, a4, c4, rfl, e1, e2, e3, e4, e5, e6, e7, e8, e9⟩ ⟨cz, u, v, rfl, hcz, rfl, hu, hv⟩
        rw [List.length_map] at hj
        rw [List.getElem?_map] at hu hv
        obtain ⟨sj, hsj, rfl⟩ := Option.map_eq_some_iff.mp hu
        obtain ⟨kj, hkj, rfl⟩ := Option.map_eq_some_iff.mp hv
        have hhi := e9 _ _ (by simp [nhp, nhl]) hh3
        have hlni := e9 _ _ (by simp [nln, nll]) hln3
        have m3i : Mo H3 Hi := Mo.fr e9 fun q hq => by
          simp at hq
          rcases hq with rfl | rfl
          · exact ⟨_, h3, rfl⟩
          · exact ⟨_, hlp3, rfl⟩
        have k4 := (((KH.start1 e7).cons hhi (by simpa using nhp)).cons hlni (by simpa using ⟨ne_of hlni hhi (by intro z; cases z), nln⟩)).rebase
        have k5 := k4.new (o := .tup [V.int sj, V.int kj]) hcz
        have ncl : cz ≠ lp := (ne_of_none e2 hcz).symm
        generalize upd Hi cz _ = Hj at k5 ⊢
        have eij : Wc.Ext Hi Hj := k5.extE
        refine r_gtup (SqT.of (by have z := KH.find (p := cz) k5 (by walk_at "lk"); exact z)) rfl ?_
        clear k4
        iterate 13 (try walk_at "st")
        (with_reducible refine' stopIf (σ' := [some (.ref pw), some (.ref bd), some (.int (m : Nat)), some (.int (wd : Nat)), some (.ref ln), some (.ref h), some (.ref s), some (.ref lp), some (.int (sj : Nat)), some (.int (kj : Nat)), some (.int (wd : Nat)), some (.ref ln)]) ?e ?_)
        case e => rfl
        with_reducible refine' r_seq ?_
        refine midT (fun σ H' => ∃ lb, σ = [some (.ref pw), some (.ref bd), some (.int (m : Nat)), some (.int (wd : Nat)), some (.ref ln), some (.ref h), some (.ref s), some (.ref lp), some (.int (sj : Nat)), some (.int (kj : Nat)), some (.int (wd : Nat)), some (.ref lb)] ∧ H' lb = some (.lst ((letN hd sj ns).map V.str)) ∧ Wc.Ext Hj H') (fun σ Hk hmid => ?_) (fun Nx hN2 => ?_)
        rotate_left
        · have k5 := k5.rebase
          walk_at "go"
          refine r_ixT (SqT.of (by have z := KH.find (p := h) k5 (by walk_at "lk"); exact z)) (atI_nat (xs := V.str ww :: vs') (j := 0) rfl) ?_
          walk_at "go"
          have hlnj := (by have z := KH.find (p := ln) k5 (by walk_at "lk"); exact z)
          cases hw with
          | lt x =>
            have pv2 : PySem.Paired (ItR K H1) (V.str "let" :: vs') [some (.str "let"), some (.str x), none, none] := pvs
            cases pv2 with
            | cons _ t =>
              cases t with
              | cons a t =>
                cases a.1 with
                | str _ =>
                  rw [show decide (V.str "let" = V.str "let") = true from decide_eq_true rfl]
                  walk_at "go"
                  by_cases h3 : sj = 3
                  · rw [show decide (V.int (sj : Nat) = V.int 3) = true from decide_eq_true (by rw [h3] <;> rfl)]
                    walk_at "go"
                    refine r_ixT (SqT.of (by have z := KH.find (p := h) k5 (by walk_at "lk"); exact z)) (atI_nat (j := 1) rfl) ?_
                    walk_at "go"
                    rename_i l6 H6 n6 k6 l7 H7 n7 k7
                    refine hN2 _ _ ⟨l7, rfl, ?_, ?_⟩
                    · have z : H7 l7 = some (.lst (ns.map V.str ++ [V.str x])) := (by have z := KH.find (p := l7) k7 (by walk_at "lk"); exact z)
                      rw [z]
                      show _ = some (HO.lst ((if sj = 3 then ns ++ [x] else ns).map V.str))
                      rw [if_pos h3, List.map_append] <;> rfl
                    · exact k7.extE
                  · rw [show decide (V.int (sj : Nat) = V.int 3) = false from decide_eq_false (fun e => h3 (by injection e with e; omega))]
                    walk_at "go"
                    refine hN2 _ _ ⟨ln, rfl, ?_, Wc.Ext.refl _⟩
                    show _ = some (HO.lst ((if sj = 3 then ns ++ [x] else ns).map V.str))
                    rw [if_neg h3]
                    exact hlnj
          | df ff sg =>
            rw [show decide (V.str "define" = V.str "let") = false from by decide +kernel]
            walk_at "go"
            exact hN2 _ _ ⟨ln, rfl, hlnj, Wc.Ext.refl _⟩
          | no _ _ x1 x2 x3 x4 =>
            rw [show decide (V.str ww = V.str "let") = false from decide_eq_false (fun e => x1 (by injection e))]
            walk_at "go"
            exact hN2 _ _ ⟨ln, rfl, by rw [x3]; exact hlnj, Wc.Ext.refl _⟩
        · obtain ⟨lb, rfl, hlb, ejk⟩ := hmid
          with_reducible refine' r_seq ?_
          refine midT (fun σ H' => ∃ (inner : Nat) (lb : Addr) (bs : List Str), σ = [some (.ref pw), some (.ref bd), some (.int (m : Nat)), some (.int (wd : Nat)), some (.ref ln), some (.ref h), some (.ref s), some (.ref lp), some (.int (sj : Nat)), some (.int (kj : Nat)), some (.int (inner : Nat)), some (.ref lb)] ∧ hd.ctx sj (wd, ns) = (inner, bs) ∧ H' lb = some (.lst (bs.map V.str)) ∧ Wc.Ext Hj H') (fun σ Hl hmid => ?_) (fun Nx hN2 => ?_)
          rotate_left
          · have k6 := (k5.ext ejk).rebase
            walk_at "go"
            refine r_ixT (SqT.of (by have z := KH.find (p := h) k6 (by walk_at "lk"); exact z)) (atI_nat (xs := V.str ww :: vs') (j := 0) rfl) ?_
            walk_at "go"
            cases hw with
            | lt x =>
              rw [show decide (V.str "let" = V.str "define") = false from by decide +kernel]
              walk_at "go"
              refine hN2 _ _ ⟨wd, lb, _, rfl, ?_, hlb, ejk⟩
              show (if sj = 3 then (wd, ns ++ [x]) else (wd, ns)) = (wd, if sj = 3 then ns ++ [x] else ns)
              by_cases h3 : sj = 3
              · rw [if_pos h3, if_pos h3]
              · rw [if_neg h3, if_neg h3]
            | df ff sg =>
              have pv2 : PySem.Paired (ItR K H1) (V.str "define" :: vs') [some (.str "define"), some (.str ff), some (Hd.sgT sg), none] := pvs
              cases pv2 with
              | cons _ t =>
                cases t with
                | cons _ t =>
                  cases t with
                  | cons a t =>
                    cases a.1 with
                    | @tup _ us _ hus hul dus =>
                      have elen : us.length = sg.length := by
                        rw [dus.length, List.length_map]
                      rw [show decide (V.str "define" = V.str "define") = true from decide_eq_true rfl]
                      walk_at "go"
                      refine r_ixT (SqT.of (by have z := KH.find (p := h) k6 (by walk_at "lk"); exact z)) (atI_nat (j := 2) rfl) ?_
                      walk_at "go"
                      refine ⟨_, us, rfl, .inr (SqT.of ((m13.trans (m3i.trans (eij.trans ejk).mo)) _ _ rfl hus)), ?_⟩
                      walk_at "go"
                      rename_i l7 H7 n7 k7
                      refine hN2 _ _ ⟨us.length, l7, [], rfl, ?_, (by have z := KH.find (p := l7) k7 (by walk_at "lk"); exact z), ejk.trans k7.extE⟩
                      rw [elen] <;> rfl
            | no _ _ x1 x2 x3 x4 =>
              rw [show decide (V.str ww = V.str "define") = false from decide_eq_false (fun e => x2 (by injection e))]
              walk_at "go"
              exact hN2 _ _ ⟨wd, lb, _, rfl, by rw [x4, x3], hlb, ejk⟩
          · obtain ⟨inner, lb2, bs, rfl, hbs, hlb2, ejl⟩ := hmid
            walk_at "go"
            have eil : Wc.Ext Hi Hl := eij.trans ejl
            have hpl := eil _ _ e7
            have hll := eil _ _ e2
            have m3l : Mo H3 Hl := m3i.trans eil.mo
            have hkm : kj ∈ ks := List.mem_of_getElem? hkj
            have hsum := take_le hkj
            have hk1 := kpos kj hkm
            have Bl : BkAt Hl pw bd TT kvs a4 b c4 (N + 20 + hd.spots.length + 50 * (ks.take j).sum) := B3.frA (e9.trans eil.fr) m3l (by simp [B.ne, nbl]) hpl e8 (by omega)
            obtain ⟨c1, c2, c3⟩ := ctx_ok ok hbs w1 w2 nxy
            refine ⟨pw, bd, TT, kvs, a4, b, c4, _, kj, inner, lb2, bs, rfl, Bl, by omega, hk1, by omega, by omega, c1.1, c1.2, hlb2, by omega, c3, fun v d a5 c5 H5 g1 g2 g3 g4 g5 g6 g7 g8 => ?_⟩
            have npl' : lp ≠ pw := npl
            have hl5 : H5 lp = some (.lst ps) := g8 _ _ (by simpa using npl) hll
            have k8 := KH.start1 hl5
            have slt := spots_lt ok (List.mem_of_getElem? hsj)
            have psl : ps.length = hd.items.length := by rw [Paired.length e3, fill_len]
            walk_at "go"
            refine r_setL hl5 (ixN_at (by omega)) ?_
            walk_at "go"
            rename_i H6 k6
            have f56 : Wc.Fr [lp] H5 H6 := k6.fr
            have m56 : Mo H5 H6 := Mo.fr1 f56 hl5 rfl
            have ml5 : Mo Hl H5 := Mo.fr1 g8 hpl rfl
            have mi6 : Mo Hi H6 := (eil.mo.trans ml5).trans m56
            refine ⟨ds ++ [d], ps.set sj v, _, _, _, _, a5, c5, rfl, by rw [List.length_append, e1] <;> rfl, (by have z := KH.find (p := lp) k6 (by walk_at "lk"); exact z), ?_, ?_, ?_, ?_, f56 _ _ (by simpa using npl.symm) g6, ?_, ?_⟩
            · rw [fill_snoc ds _ _ d sj (by rw [e1]; exact hsj)]
              exact paired_set (Paired.mapP e3 fun _ _ z => z.mo mi6) ⟨dtMo m56 _ _ g5 g4, g5⟩
            · rw [List.take_succ, hkj]
              exact pairedApp e4 (.cons g1 .nil)
            · intro j2 s2 d2 q1 q2
              by_cases hj2 : j2 < ds.length
              · rw [List.getElem?_append_left hj2] at q2
                exact e5 j2 s2 d2 q1 q2
              · rw [List.getElem?_append_right (by omega)] at q2
                have hz : j2 - ds.length = 0 := by
                  by_cases h0 : j2 - ds.length = 0
                  · exact h0
                  · rw [List.getElem?_eq_none (by simp; omega)] at q2
                    cases q2
                rw [hz] at q2
                obtain rfl : d = d2 := by simpa using q2
                obtain rfl : j2 = j := by omega
                obtain rfl : sj = s2 := Option.some.inj (hsj.symm.trans q1)
                rw [hbs]
                exact g2
            · intro d2 hd2
              rcases List.mem_append.mp hd2 with hd2 | hd2
              · exact e6 d2 hd2
              · rw [List.mem_singleton.mp hd2]
                omega
            · rw [take_sum hkj]
              exact g7.up (by omega)
            · exact (e9.trans eil.fr).trans ((g8.mono (by simp)).trans (f56.mono (by simp)))
      · rintro σ Hi ⟨ds, ps, v8, v9, v10, v11, a4, c4, rfl, e1, e2, e3, e4, e5, e6, e7, e8, e9⟩
        rw [List.length_map] at e1 e4 e8
        rw [List.take_of_length_le (by omega)] at e4 e8
        obtain ⟨l, hnode, hfill⟩ := node_items (hd := hd) (ds := ds) e1
        rw [hfill] at e3
        have hlen : ps.length = hd.items.length := by rw [Paired.length e3, ← hfill, fill_len]
        have ile := items_le ok
        have k9 := KH.start (H := Hi)
        walk_at "go"
        refine ⟨lp, ps, rfl, .inl ⟨SqL.of e2, ?_⟩⟩
        intro ft nft
        have k10 := k9.new (o := .tup ps) nft
        generalize upd Hi ft _ = H9 at k10 ⊢
        have e9' := k10.extE
        obtain ⟨q1, q2⟩ := its_all e3
        have fin : Wc.Fr [pw] H Hi := Fr.outA (f1.trans f13) e9 fun q hq => by
          simp at hq
          rcases hq with rfl | rfl
          · exact .inl (by simp)
          · exact .inr (free_fr f1 npl nlp0)
        have pl : pureD (.tup l) = true := by
          show (decide (l.length ≤ 1000) && pureDs l) = true
          have := Paired.length e3
          rw [List.length_map] at this
          rw [decide_eq_true (by omega), q2] <;> rfl
        have fm := node_fm bk ok e1 e4
        refine k (.ref ft) (hd.node ds) a4 c4 H9 ?_ (node_okc bk ok e1 e5) ?_ ?_ ?_ (e9' _ _ e7) (e8.up (by omega)) (fin.trans e9'.fr)
        · rw [ksum, show 1 + (m - 1) = m by omega] at fm
          exact fm
        · have := node_dep (hd := hd) (ds := ds) (k := m - 1) (by omega) e6
          omega
        · rw [hnode]
          exact .tup (k10.find .here) (by have := Paired.length e3; rw [List.length_map] at this; omega) (dtMoA e9'.mo _ _ q2 q1)
        · rw [hnode]
          exact pl
end
end K10


set_option Elab.async false
set_option linter.all false
set_option maxRecDepth 100000
set_option maxHeartbeats 4000000
namespace K10
open PySem PySem.Spec PyProof.Rows L2 Wc
local macro_rules | `(tactic| walk_at "lk") => `(tactic| first | with_reducible exact Look.here | (with_reducible apply Look.there; walk_at "lk"))
local macro_rules | `(tactic| walk_at "ul") => `(tactic| first | with_reducible exact UpL.here | (with_reducible apply UpL.there; walk_at "ul"))
local macro_rules | `(tactic| walk_at "ga") => `(tactic| first | exact GetAt.here | (apply GetAt.there; walk_at "ga"))
local macro_rules | `(tactic| walk_at "sa") => `(tactic| first | exact SetAt.here | (apply SetAt.there; walk_at "sa"))
local macro_rules | `(tactic| walk_at "hp") => `(tactic| first | assumption | (refine' KH.find ?k ?h; (case k => assumption); (case h => walk_at "lk")))
local macro_rules | `(tactic| walk_at "sql") => `(tactic| first | assumption | (refine' SqL.of ?h; (case h => walk_at "hp")) | (refine' Fr.sql (KH.fr ?k) ?n ?h; (case k => assumption); (case h => assumption); (case n => (simp; done))))
local macro_rules | `(tactic| walk_at "sqt") => `(tactic| first | assumption | (refine' SqT.of ?h; (case h => walk_at "hp")))
local macro_rules | `(tactic| walk_at "side") => `(tactic| first | exact (show (0 : Int) < _ by decide) | exact (show (0 : Int) < _ by omega) | exact ⟨by decide, by decide, by decide⟩ | exact ⟨by decide, by decide, by omega⟩ | exact ⟨by decide, by decide⟩ | exact ⟨by omega, by omega⟩ | exact Or.inl ⟨by omega, by omega⟩ | exact Or.inr ⟨by omega, by omega⟩)
local macro_rules | `(tactic| walk_at "siz") => `(tactic| first | (refine sz_of ?_; first | decide | omega | (simp; done) | (simp; omega)) | (refine sz_lt ?_; first | decide | omega | (simp; done) | (simp; omega)))
local macro_rules | `(tactic| walk_at "own") => `(tactic| first | (exact Or.inr (by assumption)) | (refine Or.inl ?_; simp; done))
local macro_rules | `(tactic| walk_at "al") => `(tactic| (refine' AllocO.mk ?k ?_; (case k => assumption); intro _ _ _ _))
local macro_rules | `(tactic| walk_at "up") => `(tactic| (refine' UpdO.mk ?k ?h ?m ?_; (case k => assumption); (case h => walk_at "ul"); (case m => walk_at "own"); intro _ _))
local macro_rules | `(tactic| walk_at "st") => `(tactic| first
  | ((with_reducible refine' r_var ?h ?_); (case h => walk_at "ga"))
  | (with_reducible refine' r_seq ?_) | (with_reducible refine' r_next ?_) | (with_reducible refine' r_asg ?_) | (with_reducible refine' r_drop ?_) | (with_reducible refine' r_ret ?_) | (with_reducible refine' r_retN ?_)
  | (with_reducible refine' r_ifs ?_) | (with_reducible refine' r_cont ?_) | (with_reducible refine' r_break ?_) | (with_reducible refine' r_c ?_) | (with_reducible refine' r_op ?_) | (with_reducible refine' r_un ?_)
  | (with_reducible refine' r_test ?_) | (with_reducible refine' r_tB ?_) | (with_reducible refine' r_not ?_) | (with_reducible refine' r_and ?_) | (with_reducible refine' r_or ?_) | (with_reducible refine' r_notV ?_)
  | (with_reducible refine' r_andV ?_) | (with_reducible refine' r_orV ?_) | (with_reducible refine' r_ifE ?_) | (with_reducible refine' r_bl ?_) | (with_reducible refine' r_nil ?_) | (with_reducible refine' r_cons ?_)
  | (with_reducible refine' r_tup ?_) | (with_reducible refine' r_lst ?_) | (with_reducible refine' r_cb ?_) | (with_reducible refine' r_call ?_) | ((with_reducible refine' r_name ?h ?_); (case h => walk_at "sa")) | (with_reducible refine' r_gnil ?_)
  | (with_reducible refine' r_gcons ?_) | (with_reducible refine' r_gsub ?_) | (with_reducible refine' r_par ?_) | (with_reducible refine' r_par2 ?_) | (with_reducible refine' r_I0 ?_) | (with_reducible refine' r_U ?_)
  | ((with_reducible refine' r_eq ?h ?_); (case h => rfl)) | ((with_reducible refine' r_ne ?h ?_); (case h => rfl))
  | ((with_reducible refine' r_ixL ?h ?a ?_); (case h => walk_at "sql"); (case a => rfl))
  | ((with_reducible refine' r_ixT ?h ?a ?_); (case h => walk_at "sqt"); (case a => rfl))
  | ((with_reducible refine' r_setL ?h ?a ?_); (case h => walk_at "hp"); (case a => rfl))
  | ((with_reducible refine' r_I ?c ?_); (case c => walk_at "side"))
  | (with_reducible refine' r_sl ?_) | (with_reducible refine' r_part ?_) | (with_reducible refine' r_nopart ?_) | (with_reducible refine' r_ii ?_)
  | ((with_reducible refine' r_slL ?h ?_); (case h => walk_at "sql"))
  | (with_reducible refine' r_bm ?_) | (with_reducible refine' r_bm0 ?_) | (with_reducible refine' r_int1 ?_) | (with_reducible refine' r_int1b ?_)
  | ((with_reducible refine' r_aug ?h ?_); (case h => walk_at "ga"))
  | ((with_reducible refine' r_cat ?a ?b ?z ?_); (case a => walk_at "hp"); (case b => walk_at "hp"); (case z => walk_at "siz"))
  | ((with_reducible refine' r_append ?a ?z ?_); (case a => walk_at "hp"); (case z => walk_at "siz"))
  | ((with_reducible refine' And.intro ?z ?_); (case z => first | walk_at "siz" | exact Or.inl ⟨rfl, _, by walk_at "sql"⟩))
  | ((with_reducible refine' r_gtup ?h ?l ?_); (case h => walk_at "sqt"); (case l => rfl))
  | (with_reducible refine' r_forL ?_) | (with_reducible refine' r_forE ?_) | (with_reducible refine' r_forR ?_) | ((with_reducible refine' r_forL2 ?h ?_); (case h => walk_at "sql")) | ((with_reducible refine' r_forE2 ?h ?_); (case h => walk_at "sql"))
  | (with_reducible refine' r_lcR ?_) | ((with_reducible refine' r_iteT ?h ?_); (case h => rfl)) | ((with_reducible refine' r_iteF ?h ?_); (case h => rfl))
  | (with_reducible refine' r_dnew ?_) | (with_reducible refine' r_vei ?_) | (with_reducible refine' r_ost ?_) | (with_reducible refine' r_mkV ?_) | (with_reducible refine' r_mkX ?_) | (with_reducible refine' r_xfld ?_)
  | ((with_reducible refine' MkG.mk ?o ?n ?k ?_); (case o => exact ErrOk.o (by assumption)); (case n => exact ErrOk.no (by assumption)); (case k => assumption); intro _ _ _ _)
  | ((with_reducible refine' AllocX.mk ?k ?_); (case k => assumption); intro _ _ _ _)
  | (with_reducible refine' r_chain ?_) | (with_reducible refine' r_lcS ?_) | (with_reducible refine' r_lcS2 ?_) | (with_reducible refine' r_lcL ?_) | (with_reducible refine' r_lcT ?_) | (with_reducible refine' r_lcI ?_) | (with_reducible refine' r_yes ?_)
  | (with_reducible refine' r_fld ?_) | (with_reducible refine' r_sfld ?_) | (with_reducible refine' r_meth ?_) | (with_reducible refine' r_make ?_) | (with_reducible refine' r_dget ?_) | (with_reducible refine' r_din ?_) | (with_reducible refine' r_dput ?_)
  | ((with_reducible refine' r_disp ?k ?_); (case k => assumption); intro _ _ _ _) | (with_reducible refine' r_pnil ?_) | (with_reducible refine' r_pcons ?_)
  | (walk_at "al") | (walk_at "up"))
local macro_rules | `(tactic| walk_at "go") => `(tactic| repeat walk_at "st")

def WRow (H0 H : Hp) (kv : Key × V) (e : Str × List Nat) : Prop := kv.1 = .inr e.1 ∧ ∃ l, kv.2 = .ref l ∧ H0 l = none ∧ H l = some (.lst (e.2.map fun (n : Nat) => V.int n))
theorem val_assoc {H0 H : Hp} {kvs : List (Key × V)} {W : List (Str × List Nat)} (h : PySem.Paired (WRow H0 H) kvs W) (z : Str) : (∃ q l, assocV W z = some q ∧ valV kvs (.inr z) = some (.ref l) ∧ H0 l = none ∧ H l = some (.lst (q.map fun (n : Nat) => V.int n))) ∨ (assocV W z = none ∧ valV kvs (.inr z) = none) := by
  induction h with
  | nil => exact .inr ⟨rfl, rfl⟩
  | @cons kv e kvs W a _ ih =>
    obtain ⟨a1, l, a2, a0, a3⟩ := a
    obtain ⟨k, v⟩ := kv
    dsimp only at a1 a2
    subst a1 a2
    by_cases hz : e.1 = z
    · refine .inl ⟨e.2, l, ?_, ?_, a0, a3⟩
      · unfold assocV
        rw [List.find?_cons, decide_eq_true hz] <;> rfl
      · unfold valV
        rw [List.find?_cons, decide_eq_true (by rw [hz])] <;> rfl
    · have h1 : assocV (e :: W) z = assocV W z := by
        unfold assocV
        rw [List.find?_cons, decide_eq_false hz]
      have h2 : valV ((.inr e.1, V.ref l) :: kvs) (.inr z : Key) = valV kvs (.inr z) := by
        unfold valV
        rw [List.find?_cons, decide_eq_false (fun e2 => hz (Sum.inr.inj e2))]
      rw [h1, h2]
      exact ih
theorem inV_three (z : Str) : inV (.str z) [.str "call", .str "newest", .str "new"] = decide (isCallW z = true ∨ z = "new") := by
  have e := inV_strs' z ["call", "newest", "new"]
  show inV (.str z) ((["call", "newest", "new"] : List Str).map V.str) = _
  rw [e]
  unfold isCallW
  simp [Bool.or_assoc, List.contains_cons, or_assoc]
/-- a path within a body -/
def InP : Dt → List Nat → Prop
  | _, [] => True
  | d, i :: p => (∃ l, d = .tup l ∧ i < l.length) ∧ InP (kidAt d i) p
theorem InP.pre {p q : List Nat} : ∀ {d : Dt}, InP d (p ++ q) → InP d p := by
  induction p with
  | nil => exact fun _ => trivial
  | cons i p ih => exact fun h => ⟨h.1, ih h.2⟩
theorem InP.post {p q : List Nat} : ∀ {d : Dt}, InP d (p ++ q) → InP (atP d p) q := by
  induction p with
  | nil => exact fun h => h
  | cons i p ih => exact fun h => ih h.2
theorem InP.app {p q : List Nat} : ∀ {d : Dt}, InP d p → InP (atP d p) q → InP d (p ++ q) := by
  induction p with
  | nil => exact fun _ h => h
  | cons i p ih => exact fun h g => ⟨h.1, ih h.2 g⟩
theorem atP_app {p q : List Nat} : ∀ {d : Dt}, atP d (p ++ q) = atP (atP d p) q := by
  induction p with
  | nil => exact rfl
  | cons i p ih => exact ih
section
variable {P : Program} {w : World} {K : PySem.W.Frag} {mg : Str → Option Value} {base : Heap} {f : Addr} {fd : FuncData}
theorem r_lstRg {te : L2.St → Hp → (Int → Int → Hp → Prop) → Prop} {σ : L2.St} {H : Hp} {Q : VK} (h : te σ H fun a b H1 => RgOk a b ∧ ∀ q, H1 q = none → Q (.ref q) (upd H1 q (.lst (rgV a b)))) : tLstRg te σ H Q := h
theorem r_dget2 {td ty tx : TE} {σ : L2.St} {H : Hp} {Q : VK} (h : td σ H fun x H1 => ∃ a, x = .ref a ∧ IsD H1 a ∧ ty σ H1 fun y H2 => tx σ H2 fun z H3 => ∃ o, DGet H3 a y o ∧ Q (o.getD z) H3) : tDGet2 td ty tx σ H Q := h
def spLSpots (K : PySem.W.Frag) : Sp := fun vs H Q _ => ∃ v w0 l, vs = [v] ∧ DtAt K H v (.tup (.str w0 :: l)) ∧ ∀ (lp : Addr) (H' : Hp), Wc.Ext H H' → H lp = none → H' lp = some (.lst ((withinI w0 (l.length + 1)).map fun (n : Nat) => V.int n)) → Q (.ref lp) H'
theorem ok_spots (F : FnP K "_law_spots" s_l_spots f fd) (T : Bt mg) : FnOk P w K mg base CX0 1 f fd ["_law_part"] (spLSpots K) := by
  refine F.ok sc_l_spots (fun vs H Q E h => ?_) (fun cdv A outer s H vs Q E hr h => ?_)
  · obtain ⟨v, w0, l, rfl, _⟩ := h
    rfl
  · refine ⟨_, PSs.nox (pss_cons (ps_set (i := 1) sc_l_spots.nd rfl (by first | exact Or.inl rfl | exact Or.inr rfl) (pe_disp (pps_cons pe_str (pe_lst (pa_cons pe_int (pa_cons pe_int pa_nil))) (pps_cons pe_str (pe_lst (pa_cons pe_int pa_nil)) (pps_cons pe_str (pe_lst (pa_cons pe_int (pa_cons pe_int pa_nil))) (pps_cons pe_str (pe_lst (pa_cons pe_int (pa_cons pe_int pa_nil))) (pps_cons pe_str (pe_lst (pa_cons pe_int pa_nil)) (pps_cons pe_str (pe_lst (pa_cons pe_int (pa_cons pe_int (pa_cons pe_int pa_nil)))) (pps_cons pe_str (pe_lst (pa_cons pe_int pa_nil)) pps_nil))))))) rfl rfl (fun z => nomatch z) (by decide)))
      (pss_cons (ps_if (pt_cmpR op_in_seq (pe_ix ix_tup (pv 0) pe_int (fun _ _ => rfl)) (pe_tup (pa_cons pe_str (pa_cons pe_str (pa_cons pe_str pa_nil)))) (by rfl)) (pss_one (ps_ret (pe_listRg rfl (by rfl) T.f_list (prg_2 (by rfl) T.f_range pe_int (pe_callB call_len_seq (by rfl) T.f_len PySem.boot_len (pa_cons (pv 0) pa_nil)))))) pss_nil)
      (pss_one (ps_ret (pe_dget2 (un1 hr) (pv 1) (pe_ix ix_tup (pv 0) pe_int (fun _ _ => rfl)) (pe_lst pa_nil) ⟨rfl, rfl, rfl, rfl⟩))))), ?_⟩
    obtain ⟨v, w0, l, rfl, dv, k⟩ := h
    cases dv with
    | @tup a vs _ ha hal tt =>
      cases tt with
      | @cons v0 _ vs _ h0 t =>
        cases h0 with
        | str hw =>
          have hlen := t.length
          rw [show L2.start ["_law_part", "_law_some"] [V.ref a] = ([some (V.ref a), none] : List (Option V)) from rfl]
          have kh := (KH.start (H := H)).cons ha (by simp)
          walk_at "go"
          rename_i td H1 ntd k1 q1 H2 n2 k2 q2 H3 n3 k3 q3 H4 n4 k4 q4 H5 n5 k5 q5 H6 n6 k6 q6 H7 n7 k7 q7 H8 n8 k8
          refine' r_dispE [(.inr "let", .ref q1), (.inr "field", .ref q2), (.inr "add", .ref q3), (.inr "less", .ref q4), (.inr "is", .ref q5), (.inr "if", .ref q6), (.inr "define", .ref q7)] ?qh ?qe ?ql ?_
          case qh => exact k8.find (by walk_at "lk")
          case qe => rfl
          case ql => simp
          have k9 := KH.up k8 (o' := .dK [(.inr "let", .ref q1), (.inr "field", .ref q2), (.inr "add", .ref q3), (.inr "less", .ref q4), (.inr "is", .ref q5), (.inr "if", .ref q6), (.inr "define", .ref q7)]) (by walk_at "ul") (Fr.updE (by simp)) upd_same (.inr ntd)
          rw [show mergeK [] ([(.inr "let", .ref q1), (.inr "field", .ref q2), (.inr "add", .ref q3), (.inr "less", .ref q4), (.inr "is", .ref q5), (.inr "if", .ref q6), (.inr "define", .ref q7)] : List (Key × V)) = ([(.inr "let", .ref q1), (.inr "field", .ref q2), (.inr "add", .ref q3), (.inr "less", .ref q4), (.inr "is", .ref q5), (.inr "if", .ref q6), (.inr "define", .ref q7)] : List (Key × V)) from rfl]
          generalize upd H8 td _ = H9 at k9 ⊢
          clear k1 k2 k3 k4 k5 k6 k7 k8
          walk_at "go"
          refine r_ixT (SqT.of (by have z := KH.find (p := a) k9 (by walk_at "lk"); exact z)) (atI_nat (xs := V.str w0 :: vs) (j := 0) rfl) ?_
          walk_at "go"
          rename_i tc H10 n10 k10
          refine r_in (x := .str w0) (xs := [.str "call", .str "newest", .str "new"]) (.inr (SqT.of (by have z := KH.find (p := tc) k10 (by walk_at "lk"); exact z))) rfl rfl ?_
          rw [inV_three]
          have e10 := k10.extE
          by_cases hc : isCallW w0 = true ∨ w0 = "new"
          · rw [decide_eq_true hc]
            walk_at "go"
            refine r_lstRg (r_rg2 ?_)
            walk_at "go"
            refine ⟨a, _, rfl, .inr (SqT.of (by have z := KH.find (p := a) k10 (by walk_at "lk"); exact z)), ?_⟩
            refine ⟨2, _, rfl, rfl, RgOk.of_le (by decide) (by rw [List.length_cons] at *; omega) (by decide) (by omega), ?_⟩
            intro q nq
            have k11 := k10.new (o := .lst (rgV 2 ((V.str w0 :: vs).length : Nat))) nq
            refine k q _ k11.extE (e10.free nq) ?_
            rw [upd_same, rg_two, List.length_cons, hlen]
            unfold withinI
            rw [if_pos hc]
          · rw [decide_eq_false hc]
            walk_at "go"
            refine r_dget2 ?_
            walk_at "go"
            refine ⟨td, rfl, .inl ⟨_, .inl (by have z := KH.find (p := td) k10 (by walk_at "lk"); exact z)⟩, ?_⟩
            walk_at "go"
            refine r_ixT (SqT.of (by have z := KH.find (p := a) k10 (by walk_at "lk"); exact z)) (atI_nat (xs := V.str w0 :: vs) (j := 0) rfl) ?_
            walk_at "go"
            rename_i le H11 n11 k11
            have rows : PySem.Paired (WRow H H11) ([(.inr "let", .ref q1), (.inr "field", .ref q2), (.inr "add", .ref q3), (.inr "less", .ref q4), (.inr "is", .ref q5), (.inr "if", .ref q6), (.inr "define", .ref q7)] : List (Key × V)) WITH :=
              .cons ⟨rfl, q1, rfl, n2, (by have z := KH.find (p := q1) k11 (by walk_at "lk"); exact z)⟩ (.cons ⟨rfl, q2, rfl, n3, (by have z := KH.find (p := q2) k11 (by walk_at "lk"); exact z)⟩ (.cons ⟨rfl, q3, rfl, n4, (by have z := KH.find (p := q3) k11 (by walk_at "lk"); exact z)⟩ (.cons ⟨rfl, q4, rfl, n5, (by have z := KH.find (p := q4) k11 (by walk_at "lk"); exact z)⟩ (.cons ⟨rfl, q5, rfl, n6, (by have z := KH.find (p := q5) k11 (by walk_at "lk"); exact z)⟩ (.cons ⟨rfl, q6, rfl, n7, (by have z := KH.find (p := q6) k11 (by walk_at "lk"); exact z)⟩ (.cons ⟨rfl, q7, rfl, n8, (by have z := KH.find (p := q7) k11 (by walk_at "lk"); exact z)⟩ .nil))))))
            refine ⟨_, .inl ⟨_, .inr w0, .inl (by have z := KH.find (p := td) k11 (by walk_at "lk"); exact z), rfl, rfl⟩, ?_⟩
            have we : withinI w0 (l.length + 1) = (assocV WITH w0).getD [] := by
              unfold withinI
              rw [if_neg hc]
            rw [we] at k
            rcases val_assoc rows w0 with ⟨q, lq, x1, x2, x0, x3⟩ | ⟨x1, x2⟩
            · rw [x2]
              rw [x1] at k
              exact k lq H11 k11.extE x0 x3
            · rw [x2]
              rw [x1] at k
              exact k le H11 k11.extE n11 (by have z := KH.find (p := le) k11 (by walk_at "lk"); exact z)
def spLAt (K : PySem.W.Frag) : Sp := fun vs H Q _ => ∃ v d pa p, vs = [v, .ref pa] ∧ DtAt K H v d ∧ pureD d = true ∧ H pa = some (.tup (p.map fun (n : Nat) => V.int n)) ∧ InP d p ∧ ∀ (u : V) (H' : Hp), Wc.Ext H H' → DtAt K H' u (atP d p) → pureD (atP d p) = true → Q u H'
theorem dt_kid {K : PySem.W.Frag} {H : Hp} {v : V} {d : Dt} {i : Nat} (h : DtAt K H v d) (q : pureD d = true) {l : List Dt} (hl : d = .tup l) (hi : i < l.length) : ∃ a us u, v = .ref a ∧ H a = some (.tup us) ∧ us[i]? = some u ∧ DtAt K H u (kidAt d i) ∧ pureD (kidAt d i) = true := by
  subst hl
  cases h with
  | @tup a us _ ha hal tt =>
    have hp := (He.ba (show (decide (l.length ≤ 1000) && pureDs l) = true from q)).2
    have go : ∀ (l : List Dt) (us : List V) (i : Nat), DtAll K H us l → pureDs l = true → i < l.length → ∃ u, us[i]? = some u ∧ DtAt K H u (l.getD i .oth) ∧ pureD (l.getD i .oth) = true := fun l => by
      induction l with
      | nil => exact fun us i _ _ h => by cases h
      | cons d l ih =>
        intro us i h hp hi
        obtain ⟨p1, p2⟩ := He.ba (show (pureD d && pureDs l) = true from hp)
        cases h with
        | @cons u _ us _ h t =>
          cases i with
          | zero => exact ⟨u, rfl, h, p1⟩
          | succ i => exact ih us i t p2 (by simpa using hi)
    obtain ⟨u, h1, h2, h3⟩ := go l us i tt hp hi
    exact ⟨a, us, u, rfl, ha, h1, h2, h3⟩
theorem ok_at (F : FnP K "_law_at" s_l_at f fd) (T : Bt mg) : FnOk P w K mg base CX0 1 f fd ["_law_text", "_law_path"] (spLAt K) := by
  refine F.ok sc_l_at (fun vs H Q E h => ?_) (fun cdv A outer s H vs Q E hr h => ?_)
  · obtain ⟨v, d, pa, p, rfl, _⟩ := h
    rfl
  · refine ⟨_, PSs.nox (pss_cons (ps_for PassesOwn.never rfl (pi_tup (pv 1)) (pg_name (i := 2) sc_l_at.nd rfl (by first | exact Or.inl rfl | exact Or.inr rfl)) (pss_one (ps_set (i := 0) sc_l_at.nd rfl (by first | exact Or.inl rfl | exact Or.inr rfl) (pe_ix ix_tup (pv 0) (pv 2) (fun _ _ => rfl)))))
      (pss_one (ps_ret (pv 0)))), ?_⟩
    obtain ⟨v, d, pa, p, rfl, dv, pd, hpa, inp, k⟩ := h
    rw [show L2.start ["_law_text", "_law_path", "_law_spot"] [v, V.ref pa] = ([some (v), some (V.ref pa), none] : List (Option V)) from rfl]
    have kh := KH.start (H := H)
    walk_at "go"
    refine r_forT ?_
    walk_at "go"
    refine ⟨pa, rfl, ⟨_, SqT.of hpa⟩, ?_⟩
    refine ForT.mk (xs := p.map fun (n : Nat) => V.int n) (fun i σ Hi => Hi = H ∧ ∃ u v2, σ = [some u, some (.ref pa), v2] ∧ DtAt K H u (atP d (p.take i)) ∧ pureD (atP d (p.take i)) = true) ⟨rfl, v, none, rfl, dv, pd⟩ (fun i σ Hi _ z => by rw [z.1]; exact SqT.of hpa) ?_ ?_
    · rintro i x σ Hi hx ⟨rfl, u, v2, rfl, du, pu⟩
      rw [List.getElem?_map] at hx
      obtain ⟨n, hn, rfl⟩ := Option.map_eq_some_iff.mp hx
      have e : p = p.take i ++ (n :: p.drop (i + 1)) := by
        obtain ⟨hi, e⟩ := List.getElem?_eq_some_iff.mp hn
        rw [← e, ← List.drop_eq_getElem_cons hi, List.take_append_drop]
      have q : InP (atP d (p.take i)) (n :: p.drop (i + 1)) := by
        rw [e] at inp
        exact inp.post
      obtain ⟨⟨l, hl, hnl⟩, _⟩ := q
      obtain ⟨a, us, u2, rfl, ha, hu, du2, pu2⟩ := dt_kid du pu hl hnl
      walk_at "go"
      refine r_ixT (SqT.of ha) (atI_nat hu) ?_
      walk_at "go"
      have e2 : atP d (p.take (i + 1)) = kidAt (atP d (p.take i)) n := by
        rw [List.take_succ, hn]
        exact atP_app
      refine ⟨rfl, u2, _, rfl, ?_, ?_⟩
      · rw [e2]
        exact du2
      · rw [e2]
        exact pu2
    · rintro σ Hi ⟨rfl, u, v2, rfl, du, pu⟩
      rw [List.length_map, List.take_length] at du pu
      walk_at "go"
      exact k u Hi (Wc.Ext.refl _) du pu
end
end K10


set_option Elab.async false
set_option linter.all false
set_option maxRecDepth 100000
set_option maxHeartbeats 4000000
namespace K10
open PySem PySem.Spec PyProof.Rows L2 Wc
local macro_rules | `(tactic| walk_at "lk") => `(tactic| first | with_reducible exact Look.here | (with_reducible apply Look.there; walk_at "lk"))
local macro_rules | `(tactic| walk_at "ul") => `(tactic| first | with_reducible exact UpL.here | (with_reducible apply UpL.there; walk_at "ul"))
local macro_rules | `(tactic| walk_at "ga") => `(tactic| first | exact GetAt.here | (apply GetAt.there; walk_at "ga"))
local macro_rules | `(tactic| walk_at "sa") => `(tactic| first | exact SetAt.here | (apply SetAt.there; walk_at "sa"))
local macro_rules | `(tactic| walk_at "hp") => `(tactic| first | assumption | (refine' KH.find ?k ?h; (case k => assumption); (case h => walk_at "lk")))
local macro_rules | `(tactic| walk_at "sql") => `(tactic| first | assumption | (refine' SqL.of ?h; (case h => walk_at "hp")) | (refine' Fr.sql (KH.fr ?k) ?n ?h; (case k => assumption); (case h => assumption); (case n => (simp; done))))
local macro_rules | `(tactic| walk_at "sqt") => `(tactic| first | assumption | (refine' SqT.of ?h; (case h => walk_at "hp")))
local macro_rules | `(tactic| walk_at "side") => `(tactic| first | exact (show (0 : Int) < _ by decide) | exact (show (0 : Int) < _ by omega) | exact ⟨by decide, by decide, by decide⟩ | exact ⟨by decide, by decide, by omega⟩ | exact ⟨by decide, by decide⟩ | exact ⟨by omega, by omega⟩ | exact Or.inl ⟨by omega, by omega⟩ | exact Or.inr ⟨by omega, by omega⟩)
local macro_rules | `(tactic| walk_at "siz") => `(tactic| first | (refine sz_of ?_; first | decide | omega | (simp; done) | (simp; omega)) | (refine sz_lt ?_; first | decide | omega | (simp; done) | (simp; omega)))
local macro_rules | `(tactic| walk_at "own") => `(tactic| first | (exact Or.inr (by assumption)) | (refine Or.inl ?_; simp; done))
local macro_rules | `(tactic| walk_at "al") => `(tactic| (refine' AllocO.mk ?k ?_; (case k => assumption); intro _ _ _ _))
local macro_rules | `(tactic| walk_at "up") => `(tactic| (refine' UpdO.mk ?k ?h ?m ?_; (case k => assumption); (case h => walk_at "ul"); (case m => walk_at "own"); intro _ _))
local macro_rules | `(tactic| walk_at "st") => `(tactic| first
  | ((with_reducible refine' r_var ?h ?_); (case h => walk_at "ga"))
  | (with_reducible refine' r_seq ?_) | (with_reducible refine' r_next ?_) | (with_reducible refine' r_asg ?_) | (with_reducible refine' r_drop ?_) | (with_reducible refine' r_ret ?_) | (with_reducible refine' r_retN ?_)
  | (with_reducible refine' r_ifs ?_) | (with_reducible refine' r_cont ?_) | (with_reducible refine' r_break ?_) | (with_reducible refine' r_c ?_) | (with_reducible refine' r_op ?_) | (with_reducible refine' r_un ?_)
  | (with_reducible refine' r_test ?_) | (with_reducible refine' r_tB ?_) | (with_reducible refine' r_not ?_) | (with_reducible refine' r_and ?_) | (with_reducible refine' r_or ?_) | (with_reducible refine' r_notV ?_)
  | (with_reducible refine' r_andV ?_) | (with_reducible refine' r_orV ?_) | (with_reducible refine' r_ifE ?_) | (with_reducible refine' r_bl ?_) | (with_reducible refine' r_nil ?_) | (with_reducible refine' r_cons ?_)
  | (with_reducible refine' r_tup ?_) | (with_reducible refine' r_lst ?_) | (with_reducible refine' r_cb ?_) | (with_reducible refine' r_call ?_) | ((with_reducible refine' r_name ?h ?_); (case h => walk_at "sa")) | (with_reducible refine' r_gnil ?_)
  | (with_reducible refine' r_gcons ?_) | (with_reducible refine' r_gsub ?_) | (with_reducible refine' r_par ?_) | (with_reducible refine' r_par2 ?_) | (with_reducible refine' r_I0 ?_) | (with_reducible refine' r_U ?_)
  | ((with_reducible refine' r_eq ?h ?_); (case h => rfl)) | ((with_reducible refine' r_ne ?h ?_); (case h => rfl))
  | ((with_reducible refine' r_ixL ?h ?a ?_); (case h => walk_at "sql"); (case a => rfl))
  | ((with_reducible refine' r_ixT ?h ?a ?_); (case h => walk_at "sqt"); (case a => rfl))
  | ((with_reducible refine' r_setL ?h ?a ?_); (case h => walk_at "hp"); (case a => rfl))
  | ((with_reducible refine' r_I ?c ?_); (case c => walk_at "side"))
  | (with_reducible refine' r_sl ?_) | (with_reducible refine' r_part ?_) | (with_reducible refine' r_nopart ?_) | (with_reducible refine' r_ii ?_)
  | ((with_reducible refine' r_slL ?h ?_); (case h => walk_at "sql"))
  | (with_reducible refine' r_bm ?_) | (with_reducible refine' r_bm0 ?_) | (with_reducible refine' r_int1 ?_) | (with_reducible refine' r_int1b ?_)
  | ((with_reducible refine' r_aug ?h ?_); (case h => walk_at "ga"))
  | ((with_reducible refine' r_cat ?a ?b ?z ?_); (case a => walk_at "hp"); (case b => walk_at "hp"); (case z => walk_at "siz"))
  | ((with_reducible refine' r_append ?a ?z ?_); (case a => walk_at "hp"); (case z => walk_at "siz"))
  | ((with_reducible refine' And.intro ?z ?_); (case z => first | walk_at "siz" | exact Or.inl ⟨rfl, _, by walk_at "sql"⟩))
  | ((with_reducible refine' r_gtup ?h ?l ?_); (case h => walk_at "sqt"); (case l => rfl))
  | (with_reducible refine' r_forL ?_) | (with_reducible refine' r_forE ?_) | (with_reducible refine' r_forR ?_) | ((with_reducible refine' r_forL2 ?h ?_); (case h => walk_at "sql")) | ((with_reducible refine' r_forE2 ?h ?_); (case h => walk_at "sql"))
  | (with_reducible refine' r_lcR ?_) | ((with_reducible refine' r_iteT ?h ?_); (case h => rfl)) | ((with_reducible refine' r_iteF ?h ?_); (case h => rfl))
  | (with_reducible refine' r_dnew ?_) | (with_reducible refine' r_vei ?_) | (with_reducible refine' r_ost ?_) | (with_reducible refine' r_mkV ?_) | (with_reducible refine' r_mkX ?_) | (with_reducible refine' r_xfld ?_)
  | ((with_reducible refine' MkG.mk ?o ?n ?k ?_); (case o => exact ErrOk.o (by assumption)); (case n => exact ErrOk.no (by assumption)); (case k => assumption); intro _ _ _ _)
  | ((with_reducible refine' AllocX.mk ?k ?_); (case k => assumption); intro _ _ _ _)
  | (with_reducible refine' r_chain ?_) | (with_reducible refine' r_lcS ?_) | (with_reducible refine' r_lcS2 ?_) | (with_reducible refine' r_lcL ?_) | (with_reducible refine' r_lcT ?_) | (with_reducible refine' r_lcI ?_) | (with_reducible refine' r_yes ?_)
  | (with_reducible refine' r_fld ?_) | (with_reducible refine' r_sfld ?_) | (with_reducible refine' r_meth ?_) | (with_reducible refine' r_make ?_) | (with_reducible refine' r_dget ?_) | (with_reducible refine' r_din ?_) | (with_reducible refine' r_dput ?_)
  | ((with_reducible refine' r_disp ?k ?_); (case k => assumption); intro _ _ _ _) | (with_reducible refine' r_pnil ?_) | (with_reducible refine' r_pcons ?_)
  | (walk_at "al") | (walk_at "up"))
local macro_rules | `(tactic| walk_at "go") => `(tactic| repeat walk_at "st")

abbrev NN_l_paths : List Str := ["_law_text", "_law_found", "_law_waiting", "_law_path", "_law_spot"]
def PthR (H : Hp) (v : V) (p : List Nat) : Prop := ∃ t, v = .ref t ∧ H t = some (.tup (p.map fun (n : Nat) => V.int n))
theorem PthR.mo {H H' : Hp} {v : V} {p : List Nat} (h : PthR H v p) (m : Mo H H') : PthR H' v p := by
  obtain ⟨t, rfl, h1⟩ := h
  exact ⟨t, rfl, m _ _ rfl h1⟩
theorem ext_frA {A : List Addr} {H H1 H2 : Hp} (e : Wc.Ext H H1) (f : Wc.Fr A H1 H2) (n : ∀ q, q ∈ A → H q = none) : Wc.Ext H H2 := fun a o h => f a o (fun m => by
  rw [n a m] at h
  cases h) (e a o h)
theorem pathsF_len : ∀ (f : Nat) (d : Dt) (p : List Nat), p ∈ pathsF f d → p.length ≤ f
  | 0, d, p, h => by
    rw [List.mem_singleton.mp (show p ∈ [[]] from h)]
    exact Nat.le_refl _
  | f + 1, d, p, h => by
    rcases List.mem_cons.mp (show p ∈ [] :: (kids d).flatMap _ from h) with rfl | h
    · exact Nat.zero_le _
    · obtain ⟨x, _, hx⟩ := List.mem_flatMap.mp h
      obtain ⟨r, hr, rfl⟩ := List.mem_map.mp hx
      exact Nat.succ_le_succ (pathsF_len f x.2 r hr)
theorem paths_len {d : Dt} {p : List Nat} (h : p ∈ paths d) : p.length ≤ dep d := pathsF_len _ _ _ h
theorem flat_len (d : Dt) : ∀ st : List (List Nat), st.length ≤ (st.flatMap fun p => (paths (atP d p)).map (p ++ ·)).length
  | [] => Nat.le_refl _
  | p :: st => by
    rw [List.flatMap_cons, List.length_append, List.length_map, List.length_cons]
    have h := flat_len d st
    have h1 : 1 ≤ (paths (atP d p)).length := by
      rw [paths_kids, List.length_cons]
      omega
    omega
theorem paired_rev {α β : Type} {R : α → β → Prop} {xs : List α} {ys : List β} (h : PySem.Paired R xs ys) : PySem.Paired R xs.reverse ys.reverse := by
  induction h with
  | nil => exact .nil
  | cons a _ ih =>
    rw [List.reverse_cons, List.reverse_cons]
    exact pairedApp ih (.cons a .nil)
/-- each part is a word with what belongs to it, and may be reached -/
def Tr (d : Dt) : Prop := ∀ p, p ∈ paths d → InP d p ∧ ∃ w l, atP d p = .tup (.str w :: l)
theorem paths_step {d : Dt} {p : List Nat} {w : Str} {l : List Dt} (h : atP d p = .tup (.str w :: l)) : (paths (atP d p)).map (p ++ ·) = p :: ((withinI w (l.length + 1)).map fun i => p ++ [i]).flatMap fun q => (paths (atP d q)).map (q ++ ·) := by
  rw [paths_kids, List.map_cons, List.append_nil, List.map_flatMap, List.flatMap_map]
  congr 1
  have e : kids (atP d p) = (withinI w (l.length + 1)).map fun i => (i, (Dt.str w :: l).getD i .oth) := by
    rw [h] <;> rfl
  have e2 : ∀ i, atP d (p ++ [i]) = (Dt.str w :: l).getD i .oth := fun i => by
    rw [atP_app, h] <;> rfl
  rw [e, List.flatMap_map]
  refine flatMap_congrW fun i _ => ?_
  rw [e2, List.map_map]
  refine List.map_congr_left fun r _ => ?_
  show p ++ i :: r = (p ++ [i]) ++ r
  simp
section
variable {P : Program} {w : World} {K : PySem.W.Frag} {mg : Str → Option Value} {base : Heap} {f : Addr} {fd : FuncData}
def spLPaths (K : PySem.W.Frag) : Sp := fun vs H Q _ => ∃ v d, vs = [v] ∧ DtAt K H v d ∧ pureD d = true ∧ Tr d ∧ dep d ≤ 64 ∧ (paths d).length ≤ 1000 ∧ ∀ (lp : Addr) (ps : List V) (H' : Hp), Wc.Ext H H' → H lp = none → H' lp = some (.lst ps) → PySem.Paired (PthR H') ps (paths d) → Q (.ref lp) H'
theorem ok_paths (F : FnP K "_law_paths" s_l_paths f fd) (T : Bt mg) (D_l_at : DfOk P w K mg base CX0 1 "_law_at" ["_law_text", "_law_path"] (spLAt K)) (D_l_spots : DfOk P w K mg base CX0 1 "_law_spots" ["_law_part"] (spLSpots K)) : FnOk P w K mg base CX0 2 f fd ["_law_text"] (spLPaths K) := by
  refine F.ok sc_l_paths (fun vs H Q E h => ?_) (fun cdv A outer s H vs Q E hr h => ?_)
  · obtain ⟨v, d, rfl, _⟩ := h
    rfl
  · refine ⟨_, PSs.nox (pss_cons (ps_par (i := 1) (j := 2) (by rfl) sc_l_paths.nd rfl rfl (by decide) rfl rfl (pa_cons (pe_lst pa_nil) (pa_cons (pe_lst (pa_cons (pe_tup pa_nil) pa_nil)) pa_nil)) (by rfl))
      (pss_cons (ps_while PassesOwn.never (pt_cmpR (op_ne0 hr) (pv 2) (pe_lst pa_nil) (nomark _)) (pss_cons (ps_set (i := 3) sc_l_paths.nd rfl (by first | exact Or.inl rfl | exact Or.inr rfl) (pe_bm0 PySem.F.plainAttrs_list PySem.F.slot_list_pop PySem.F.type_list_pop mt_pop (pv 2)))
      (pss_cons (ps_expr (pe_bm PySem.F.plainAttrs_list PySem.F.slot_list_append PySem.F.type_list_append mt_append (pv 1) (pa_cons (pv 3) pa_nil)))
      (pss_one (ps_expr (pe_bm PySem.F.plainAttrs_list PySem.F.slot_list_extend PySem.F.type_list_extend mt_extend (pv 2) (pa_cons (pe_lc (own := [("_law_spot", 4)]) rfl sc_l_paths.nd (pi_list (pe_revL (pe_callD D_l_spots hr (pa_cons (pe_callD D_l_at hr (pa_cons (pv 0) (pa_cons (pv 3) pa_nil))) pa_nil)))) (blkOk_by (N := NN_l_paths) (sc := defScope s_l_paths) (by decide +kernel)) (fun _ _ _ _ _ => (pg_name (i := 4) sc_l_paths.nd rfl (by first | exact Or.inl rfl | exact Or.inr rfl))) (fun _ _ _ _ _ => pts_nil) (fun _ _ _ _ _ => (pe_op (op_catAK K) (pv 3) (pe_tup (pa_cons (pv 4) pa_nil))))) pa_nil)))))))
      (pss_one (ps_ret (pv 1))))), ?_⟩
    obtain ⟨v, d, rfl, dv, pd, tr, hdp, hsz, k⟩ := h
    rw [show L2.start ["_law_text", "_law_found", "_law_waiting", "_law_path", "_law_spot"] [v] = ([some (v), none, none, none, none] : List (Option V)) from rfl]
    have kh := KH.start (H := H)
    walk_at "go"
    rename_i fl H1 nfl k1 et H2 net k2 wl H3 nwl k3
    dsimp only [List.set]
    walk_at "go"
    refine r_while ?_
    have e03 := k3.extE
    have nfw : fl ≠ wl := fun e => by
      have h1 := (by have z := KH.find (p := fl) k3 (by walk_at "lk"); exact z)
      have h2 := (by have z := KH.find (p := wl) k3 (by walk_at "lk"); exact z)
      rw [e, h2] at h1
      cases h1
    refine WhG.mk (fun mm σ Hi => ∃ (done st : List (List Nat)) (fs ws : List V) (v3 : Option V), σ = [some v, some (.ref fl), some (.ref wl), v3, none] ∧ Wc.Ext H Hi ∧ Hi fl = some (.lst fs) ∧ Hi wl = some (.lst ws) ∧ PySem.Paired (PthR Hi) fs done ∧ PySem.Paired (PthR Hi) ws.reverse st ∧
      paths d = done ++ (st.flatMap fun p => (paths (atP d p)).map (p ++ ·)) ∧ mm + done.length = (paths d).length) (paths d).length ⟨[], [[]], [], [.ref et], none, rfl, e03, (by have z := KH.find (p := fl) k3 (by walk_at "lk"); exact z), (by have z := KH.find (p := wl) k3 (by walk_at "lk"); exact z), .nil, .cons ⟨et, rfl, (by have z := KH.find (p := et) k3 (by walk_at "lk"); exact z)⟩ .nil, by
        show paths d = [] ++ ((paths d).map ([] ++ ·) ++ [])
        simp, rfl⟩ ?_
    clear k1 k2 k3
    rintro mm σ Hi ⟨done, st, fs, ws, v3, rfl, e0i, hf, hw, pf, pw, hst, hmm⟩
    have ki := ((KH.start1 hf).cons hw (by simpa using nfw.symm)).rebaseM [fl, wl] (fun q h => by
      simp at h
      rcases h with rfl | rfl
      · exact ⟨_, hf⟩
      · exact ⟨_, hw⟩)
    walk_at "go"
    rename_i em Hj ne kj
    refine ⟨wl, em, ws, rfl, rfl, SqL.of (by have z := KH.find (p := wl) kj (by walk_at "lk"); exact z), SqL.of (by have z := KH.find (p := em) kj (by walk_at "lk"); exact z), ?_⟩
    walk_at "go"
    have mij : Mo Hi Hj := Mo.fr kj.fr fun q hq => by
      simp at hq
      rcases hq with rfl | rfl
      · exact ⟨_, hf, rfl⟩
      · exact ⟨_, hw, rfl⟩
    rcases List.eq_nil_or_concat ws with rfl | ⟨ws0, y, ew⟩
    · walk_at "go"
      cases pw
      have hst : paths d = done := by rw [hst]; simp
      rw [← hst] at pf
      exact k fl fs Hj (ext_frA e0i kj.fr fun q hq => by
        simp at hq
        rcases hq with rfl | rfl
        · exact nfl
        · exact nwl) nfl (by have z := KH.find (p := fl) kj (by walk_at "lk"); exact z) (Paired.mapP pf fun _ _ z => z.mo mij)
    · rw [List.concat_eq_append] at ew
      subst ew
      rw [show (!(ws0 ++ [y]).isEmpty) = true from by simp]
      rw [List.reverse_append, List.reverse_singleton, List.singleton_append] at pw
      cases pw with
      | @cons _ p _ st py pw =>
      have hpm : p ∈ paths d := by
        rw [hst, List.flatMap_cons]
        refine List.mem_append_right _ (List.mem_append_left _ ?_)
        rw [paths_kids, List.map_cons, List.append_nil]
        exact List.mem_cons_self
      obtain ⟨inp, w0, l, hat⟩ := tr p hpm
      have hpl := paths_len hpm
      rw [List.flatMap_cons, paths_step hat] at hst
      have hlt : done.length < (paths d).length := by
        rw [hst, List.length_append, List.cons_append, List.length_cons]
        omega
      walk_at "go"
      refine ⟨fun σ' H' => _, fun σ' H' z => z, ?_⟩
      refine r_seq ?_
      walk_at "go"
      refine r_pop (by have z := KH.find (p := wl) kj (by walk_at "lk"); exact z) (y := y) (by simp) ?_
      walk_at "go"
      rename_i Hk kk
      rw [List.dropLast_concat] at kk
      have lf := Paired.length pf
      obtain ⟨t, rfl, ht⟩ := py
      refine r_append (by have z := KH.find (p := fl) kk (by walk_at "lk"); exact z) (sz_lt (by omega)) ?_
      walk_at "go"
      rename_i Hl kl
      have mFr : ∀ {Hz : Hp}, Wc.Fr [fl, wl] Hi Hz → Mo Hi Hz := fun f => Mo.fr f fun q hq => by
        simp at hq
        rcases hq with rfl | rfl
        · exact ⟨_, hf, rfl⟩
        · exact ⟨_, hw, rfl⟩
      have mil := mFr kl.fr
      have dvl := dtMo (e0i.mo.trans mil) _ _ pd dv
      refine r_revL ?_
      walk_at "go"
      refine ⟨v, d, t, p, rfl, dvl, pd, mil _ _ rfl ht, inp, fun u H5 e5 du pu => ?_⟩
      walk_at "go"
      rw [hat] at du pu
      refine ⟨u, w0, l, rfl, du, fun sp H6 e6 nsp hsp => ?_⟩
      have k6 := kl.ext (e5.trans e6)
      refine ⟨sp, _, rfl, SqL.of hsp, ?_⟩
      walk_at "go"
      rename_i rv H7 n7 k7
      have m07 := mFr k7.fr
      have hrv : H7 rv = some (.lst (((withinI w0 (l.length + 1)).reverse).map fun (n : Nat) => V.int n)) := by
        rw [List.map_reverse]
        exact (by have z := KH.find (p := rv) k7 (by walk_at "lk"); exact z)
      have wlen : (withinI w0 (l.length + 1)).length ≤ 1003 := by
        have h1 := within_len (w0 := w0) (n := l.length + 1)
        have h2 := of_decide_eq_true (He.ba (show (decide ((Dt.str w0 :: l).length ≤ 1000) && pureDs (Dt.str w0 :: l)) = true from pu)).1
        rw [List.length_cons] at h2
        omega
      refine ⟨rv, rfl, ⟨_, SqL.of hrv⟩, ?_⟩
      refine lcP (walk_list (xs := ((withinI w0 (l.length + 1)).reverse).map fun (n : Nat) => V.int n)) (fun j acc H' => Wc.Ext H7 H' ∧ PySem.Paired (PthR H') acc (((withinI w0 (l.length + 1)).reverse.take j).map fun i => p ++ [i])) ⟨Wc.Ext.refl _, .nil⟩ (by rw [List.length_map, List.length_reverse]; omega)
        (fun D j acc H' H'' hD mo fr ⟨g3, g5⟩ => ⟨fun q o hq => fr _ _ (by simpa using ne_of_none hq hD) (g3 q o hq), Paired.mapP g5 fun _ _ z => z.mo mo⟩)
        (fun j acc H' _ ⟨g3, _⟩ => SqL.of (g3 _ _ hrv)) ?_ ?_
      · rintro j y acc G1 G2 D R' N' hj hD hdD ⟨g3, g5⟩ ⟨rfl, hy⟩ hR hN
        rw [List.length_map] at hj
        rw [List.getElem?_map] at hy
        obtain ⟨i, hi, rfl⟩ := Option.map_eq_some_iff.mp hy
        walk_at "go"
        refine ⟨rfl, ?_⟩
        have kg := (KH.start1 hdD).rebase
        walk_at "go"
        rename_i ts G3 nts k3
        have ht3 : G3 t = some (.tup (p.map fun (n : Nat) => V.int n)) := k3.extE _ _ (g3 _ _ (m07 _ _ rfl ht))
        refine r_catG ht3 (by have z := KH.find (p := ts) k3 (by walk_at "lk"); exact z) (sz_of (by rw [List.length_map]; simp; omega)) fun c G4 e4 hc => ?_
        have eg : Wc.Ext G2 G4 := k3.extE.trans e4
        refine hR _ _ ⟨g3.trans eg, ?_⟩ (e4 _ _ (by have z := KH.find (p := D) k3 (by walk_at "lk"); exact z))
        rw [List.take_succ, hi, List.map_append]
        refine pairedApp (Paired.mapP g5 fun _ _ z => z.mo eg.mo) (.cons ⟨c, rfl, hc.trans ?_⟩ .nil)
        rw [List.map_append] <;> rfl
      intro l8 H8 acc nl8 ⟨e78, pacc⟩ hl8
      rw [List.length_map, List.take_length] at pacc
      have k8 := k7.ext e78
      have la := Paired.length pacc
      rw [List.length_map, List.length_reverse] at la
      have lw := Paired.length pw
      rw [List.length_reverse] at lw
      have lst := flat_len d st
      have lst2 : st.length ≤ 1000 := by
        have := congrArg List.length hst
        rw [List.length_append, List.cons_append, List.length_cons, List.length_append] at this
        omega
      walk_at "go"
      refine r_extend (by have z := KH.find (p := wl) k8 (by walk_at "lk"); exact z) hl8 (sz_of (by omega)) ?_
      have m8 := mFr k8.fr
      have hwl8 := k8.find (p := wl) (o := .lst ws0) (by walk_at "lk")
      have hfl8 := k8.find (p := fl) (o := .lst (fs ++ [.ref t])) (by walk_at "lk")
      have f8 := k8.fr
      have k8 := k8.rebaseM [fl, wl] (fun q h => by
        simp at h
        rcases h with rfl | rfl
        · exact ⟨_, hfl8⟩
        · exact ⟨_, hwl8⟩)
      clear k7 kl kk kj ki
      walk_at "go"
      rename_i H9 k9
      have f9 : Wc.Fr [fl, wl] Hi H9 := f8.trans k9.fr
      have m9 := mFr f9
      have m89 : Mo H8 H9 := Mo.fr k9.fr fun q hq => by
        simp at hq
        rcases hq with rfl | rfl
        · exact ⟨_, hfl8, rfl⟩
        · exact ⟨_, hwl8, rfl⟩
      refine ⟨mm - 1, by omega, done ++ [p], ((withinI w0 (l.length + 1)).map fun i => p ++ [i]) ++ st, fs ++ [.ref t], ws0 ++ acc, _, rfl, ext_frA e0i f9 (fun q hq => ?_), (by have z := KH.find (p := fl) k9 (by walk_at "lk"); exact z), (by have z := KH.find (p := wl) k9 (by walk_at "lk"); exact z), ?_, ?_, ?_, ?_⟩
      · simp at hq
        rcases hq with rfl | rfl
        · exact nfl
        · exact nwl
      · exact pairedApp (Paired.mapP pf fun _ _ z => z.mo m9) (.cons ⟨t, rfl, m9 _ _ rfl ht⟩ .nil)
      · rw [List.reverse_append]
        refine pairedApp ?_ (Paired.mapP pw fun _ _ z => z.mo m9)
        have := paired_rev pacc
        rw [← List.map_reverse, List.reverse_reverse] at this
        exact Paired.mapP this fun _ _ z => z.mo m89
      · rw [hst, List.flatMap_append]
        simp
      · rw [List.length_append]
        simp
        omega
end
end K10


set_option Elab.async false
set_option linter.all false
set_option maxRecDepth 100000
set_option maxHeartbeats 4000000
namespace K10
open PySem PySem.Spec PyProof.Rows L2 Wc
local macro_rules | `(tactic| walk_at "lk") => `(tactic| first | with_reducible exact Look.here | (with_reducible apply Look.there; walk_at "lk"))
local macro_rules | `(tactic| walk_at "ul") => `(tactic| first | with_reducible exact UpL.here | (with_reducible apply UpL.there; walk_at "ul"))
local macro_rules | `(tactic| walk_at "ga") => `(tactic| first | exact GetAt.here | (apply GetAt.there; walk_at "ga"))
local macro_rules | `(tactic| walk_at "sa") => `(tactic| first | exact SetAt.here | (apply SetAt.there; walk_at "sa"))
local macro_rules | `(tactic| walk_at "hp") => `(tactic| first | assumption | (refine' KH.find ?k ?h; (case k => assumption); (case h => walk_at "lk")))
local macro_rules | `(tactic| walk_at "sql") => `(tactic| first | assumption | (refine' SqL.of ?h; (case h => walk_at "hp")) | (refine' Fr.sql (KH.fr ?k) ?n ?h; (case k => assumption); (case h => assumption); (case n => (simp; done))))
local macro_rules | `(tactic| walk_at "sqt") => `(tactic| first | assumption | (refine' SqT.of ?h; (case h => walk_at "hp")))
local macro_rules | `(tactic| walk_at "side") => `(tactic| first | exact (show (0 : Int) < _ by decide) | exact (show (0 : Int) < _ by omega) | exact ⟨by decide, by decide, by decide⟩ | exact ⟨by decide, by decide, by omega⟩ | exact ⟨by decide, by decide⟩ | exact ⟨by omega, by omega⟩ | exact Or.inl ⟨by omega, by omega⟩ | exact Or.inr ⟨by omega, by omega⟩)
local macro_rules | `(tactic| walk_at "siz") => `(tactic| first | (refine sz_of ?_; first | decide | omega | (simp; done) | (simp; omega)) | (refine sz_lt ?_; first | decide | omega | (simp; done) | (simp; omega)))
local macro_rules | `(tactic| walk_at "own") => `(tactic| first | (exact Or.inr (by assumption)) | (refine Or.inl ?_; simp; done))
local macro_rules | `(tactic| walk_at "al") => `(tactic| (refine' AllocO.mk ?k ?_; (case k => assumption); intro _ _ _ _))
local macro_rules | `(tactic| walk_at "up") => `(tactic| (refine' UpdO.mk ?k ?h ?m ?_; (case k => assumption); (case h => walk_at "ul"); (case m => walk_at "own"); intro _ _))
local macro_rules | `(tactic| walk_at "st") => `(tactic| first
  | ((with_reducible refine' r_var ?h ?_); (case h => walk_at "ga"))
  | (with_reducible refine' r_seq ?_) | (with_reducible refine' r_next ?_) | (with_reducible refine' r_asg ?_) | (with_reducible refine' r_drop ?_) | (with_reducible refine' r_ret ?_) | (with_reducible refine' r_retN ?_)
  | (with_reducible refine' r_ifs ?_) | (with_reducible refine' r_cont ?_) | (with_reducible refine' r_break ?_) | (with_reducible refine' r_c ?_) | (with_reducible refine' r_op ?_) | (with_reducible refine' r_un ?_)
  | (with_reducible refine' r_test ?_) | (with_reducible refine' r_tB ?_) | (with_reducible refine' r_not ?_) | (with_reducible refine' r_and ?_) | (with_reducible refine' r_or ?_) | (with_reducible refine' r_notV ?_)
  | (with_reducible refine' r_andV ?_) | (with_reducible refine' r_orV ?_) | (with_reducible refine' r_ifE ?_) | (with_reducible refine' r_bl ?_) | (with_reducible refine' r_nil ?_) | (with_reducible refine' r_cons ?_)
  | (with_reducible refine' r_tup ?_) | (with_reducible refine' r_lst ?_) | (with_reducible refine' r_cb ?_) | (with_reducible refine' r_call ?_) | ((with_reducible refine' r_name ?h ?_); (case h => walk_at "sa")) | (with_reducible refine' r_gnil ?_)
  | (with_reducible refine' r_gcons ?_) | (with_reducible refine' r_gsub ?_) | (with_reducible refine' r_par ?_) | (with_reducible refine' r_par2 ?_) | (with_reducible refine' r_I0 ?_) | (with_reducible refine' r_U ?_)
  | ((with_reducible refine' r_eq ?h ?_); (case h => rfl)) | ((with_reducible refine' r_ne ?h ?_); (case h => rfl))
  | ((with_reducible refine' r_ixL ?h ?a ?_); (case h => walk_at "sql"); (case a => rfl))
  | ((with_reducible refine' r_ixT ?h ?a ?_); (case h => walk_at "sqt"); (case a => rfl))
  | ((with_reducible refine' r_setL ?h ?a ?_); (case h => walk_at "hp"); (case a => rfl))
  | ((with_reducible refine' r_I ?c ?_); (case c => walk_at "side"))
  | (with_reducible refine' r_sl ?_) | (with_reducible refine' r_part ?_) | (with_reducible refine' r_nopart ?_) | (with_reducible refine' r_ii ?_)
  | ((with_reducible refine' r_slL ?h ?_); (case h => walk_at "sql"))
  | (with_reducible refine' r_bm ?_) | (with_reducible refine' r_bm0 ?_) | (with_reducible refine' r_int1 ?_) | (with_reducible refine' r_int1b ?_)
  | ((with_reducible refine' r_aug ?h ?_); (case h => walk_at "ga"))
  | ((with_reducible refine' r_cat ?a ?b ?z ?_); (case a => walk_at "hp"); (case b => walk_at "hp"); (case z => walk_at "siz"))
  | ((with_reducible refine' r_append ?a ?z ?_); (case a => walk_at "hp"); (case z => walk_at "siz"))
  | ((with_reducible refine' And.intro ?z ?_); (case z => first | walk_at "siz" | exact Or.inl ⟨rfl, _, by walk_at "sql"⟩))
  | ((with_reducible refine' r_gtup ?h ?l ?_); (case h => walk_at "sqt"); (case l => rfl))
  | (with_reducible refine' r_forL ?_) | (with_reducible refine' r_forE ?_) | (with_reducible refine' r_forR ?_) | ((with_reducible refine' r_forL2 ?h ?_); (case h => walk_at "sql")) | ((with_reducible refine' r_forE2 ?h ?_); (case h => walk_at "sql"))
  | (with_reducible refine' r_lcR ?_) | ((with_reducible refine' r_iteT ?h ?_); (case h => rfl)) | ((with_reducible refine' r_iteF ?h ?_); (case h => rfl))
  | (with_reducible refine' r_dnew ?_) | (with_reducible refine' r_vei ?_) | (with_reducible refine' r_ost ?_) | (with_reducible refine' r_mkV ?_) | (with_reducible refine' r_mkX ?_) | (with_reducible refine' r_xfld ?_)
  | ((with_reducible refine' MkG.mk ?o ?n ?k ?_); (case o => exact ErrOk.o (by assumption)); (case n => exact ErrOk.no (by assumption)); (case k => assumption); intro _ _ _ _)
  | ((with_reducible refine' AllocX.mk ?k ?_); (case k => assumption); intro _ _ _ _)
  | (with_reducible refine' r_chain ?_) | (with_reducible refine' r_lcS ?_) | (with_reducible refine' r_lcS2 ?_) | (with_reducible refine' r_lcL ?_) | (with_reducible refine' r_lcT ?_) | (with_reducible refine' r_lcI ?_) | (with_reducible refine' r_yes ?_)
  | (with_reducible refine' r_fld ?_) | (with_reducible refine' r_sfld ?_) | (with_reducible refine' r_meth ?_) | (with_reducible refine' r_make ?_) | (with_reducible refine' r_dget ?_) | (with_reducible refine' r_din ?_) | (with_reducible refine' r_dput ?_)
  | ((with_reducible refine' r_disp ?k ?_); (case k => assumption); intro _ _ _ _) | (with_reducible refine' r_pnil ?_) | (with_reducible refine' r_pcons ?_)
  | (walk_at "al") | (walk_at "up"))
local macro_rules | `(tactic| walk_at "go") => `(tactic| repeat walk_at "st")

theorem bad_else {w : Str} {l : List Dt} {q : Nat × List Str} (h1 : w ≠ "name") (h2 : w ≠ "arg") : badD (.tup (.str w :: l)) q = false := by
  match l with
  | [] => rfl
  | [y] =>
    show (if w = "name" then _ else if w = "arg" then _ else false) = false
    rw [if_neg h1, if_neg h2]
  | y :: z :: l => rfl
theorem form_word {T : List Cl} {d : Dt} (h : formOk T d) : ∃ w l, d = .tup (.str w :: l) := by
  have h1 := h [] 0 []
  have no : (false = !false) → ∃ w l, d = .tup (.str w :: l) := fun e => by cases e
  cases d with
  | tup l =>
    cases l with
    | nil => exact no h1
    | cons a l =>
      cases a with
      | str w => exact ⟨w, l, rfl⟩
      | int i => exact no h1
      | oth => exact no h1
      | tup m => exact no h1
  | str x => exact no h1
  | int i => exact no h1
  | oth => exact no h1
theorem form_letX {T : List Cl} {l : List Dt} (h : formOk T (.tup (.str "let" :: l))) : ∃ x r, l = .str x :: r := by
  have h1 := h [] 0 []
  rw [bad_else (by decide +kernel) (by decide +kernel)] at h1
  have h1 : formB T _ "let" (.str "let" :: l) = true := h1
  rw [formB_of w_let.1 w_let.2.1, w_let.2.2.1, if_neg w_let.2.2.2, if_pos rfl] at h1
  obtain ⟨_, h2⟩ := He.ba h1
  cases l with
  | nil => cases h2
  | cons a r =>
    cases a with
    | str x => exact ⟨x, r, rfl⟩
    | _ => cases h2
theorem form_defX {T : List Cl} {l : List Dt} (h : formOk T (.tup (.str "define" :: l))) : ∃ a s r, l = a :: .tup s :: r := by
  have h1 := h [] 0 []
  rw [bad_else (by decide +kernel) (by decide +kernel)] at h1
  have h1 : formB T _ "define" (.str "define" :: l) = true := h1
  obtain ⟨g1, g2, g3, g4, g5, g6, g7⟩ := w_define
  rw [formB_of g1 g2, g3, if_neg g4, if_neg g5, if_neg g6, if_neg g7, decide_eq_true rfl] at h1
  obtain ⟨_, h2⟩ := He.ba h1
  have h3 := (He.ba (show (nameD ((Dt.str "define" :: l).getD 1 .oth) && sigD T ((Dt.str "define" :: l).getD 2 .oth)) = true from by simpa using h2)).2
  match l, h3 with
  | [], h3 => cases h3
  | [a], h3 => cases h3
  | a :: b :: r, h3 =>
    cases b with
    | tup s => exact ⟨a, s, r, rfl⟩
    | _ => cases h3
theorem cut_take (xs : List V) (i : Nat) : cutV xs none (some (i : Int)) = xs.take i := by
  unfold cutV
  rw [HT.sIx_none, HT.sIx_nat, List.drop_zero, Nat.sub_zero]
  by_cases h : i ≤ xs.length
  · rw [Nat.min_eq_left h]
  · rw [Nat.min_eq_right (by omega), List.take_length, List.take_of_length_le (by omega)]
theorem step_let {x : Str} {r : List Dt} {i : Nat} {q : Nat × List Str} : stepC (.tup (.str "let" :: .str x :: r)) i q = if i = 3 then (q.1, q.2 ++ [x]) else q := by
  have n : ("let" : Str) ≠ "define" := by decide +kernel
  show ((if ("let" : Str) = "define" then _ else q.1, if ("let" : Str) = "define" then [] else if ("let" : Str) = "let" ∧ i = 3 then q.2 ++ [x] else q.2) : Nat × List Str) = _
  rw [if_neg n, if_neg n]
  by_cases h : i = 3
  · rw [if_pos ⟨rfl, h⟩, if_pos h]
  · rw [if_neg (fun z => h z.2), if_neg h]
theorem step_def {a : Dt} {s r : List Dt} {i : Nat} {q : Nat × List Str} : stepC (.tup (.str "define" :: a :: .tup s :: r)) i q = (s.length, []) := by
  show ((if ("define" : Str) = "define" then s.length else q.1, if ("define" : Str) = "define" then [] else _) : Nat × List Str) = _
  rw [if_pos rfl, if_pos rfl]
/-- the forms of all parts -/
def Fs (T : List Cl) (d : Dt) : Prop := ∀ p, p ∈ paths d → formOk T (atP d p)
theorem paths_nil (d : Dt) : [] ∈ paths d := by
  rw [paths_kids]
  exact List.mem_cons_self
theorem paths_cons {d : Dt} {i : Nat} {p : List Nat} : i :: p ∈ paths d ↔ ∃ x, x ∈ kids d ∧ x.1 = i ∧ p ∈ paths x.2 := by
  rw [paths_kids]
  constructor
  · intro h
    rcases List.mem_cons.mp h with h | h
    · cases h
    · obtain ⟨x, hx, h⟩ := List.mem_flatMap.mp h
      obtain ⟨r, hr, e⟩ := List.mem_map.mp h
      injection e with e1 e2
      subst e2
      exact ⟨x, hx, e1, hr⟩
  · rintro ⟨x, hx, rfl, hp⟩
    exact List.mem_cons_of_mem _ (List.mem_flatMap.mpr ⟨x, hx, List.mem_map.mpr ⟨p, hp, rfl⟩⟩)
theorem paths_pre {p q : List Nat} : ∀ {d : Dt}, p ++ q ∈ paths d → p ∈ paths d := by
  induction p with
  | nil => exact fun _ => paths_nil _
  | cons i p ih =>
    intro d h
    obtain ⟨x, hx, e, hp⟩ := paths_cons.mp h
    exact paths_cons.mpr ⟨x, hx, e, ih hp⟩
theorem Fs.tr {T : List Cl} {d : Dt} (h : Fs T d) : Tr d := fun p hp => by
  refine ⟨?_, form_word (h p hp)⟩
  have go : ∀ (p : List Nat) (d : Dt), p ∈ paths d → (∀ q, q ∈ paths d → formOk T (atP d q)) → InP d p := fun p => by
    induction p with
    | nil => exact fun d _ _ => trivial
    | cons i p ih =>
      intro d hp hf
      obtain ⟨x, hx, rfl, hp2⟩ := paths_cons.mp hp
      have hk := kids_at hx
      refine ⟨?_, ?_⟩
      · have f0 : formOk T d := hf [] (paths_nil d)
        obtain ⟨w, l, rfl⟩ := form_word f0
        refine ⟨_, rfl, ?_⟩
        obtain ⟨j, hj, rfl⟩ := List.mem_map.mp (show x ∈ (withinI w (l.length + 1)).map _ from hx)
        show j < l.length + 1
        have f1 := f0 [] 0 []
        have nn : w ≠ "name" := fun e => by
          subst e
          have : withinI "name" (l.length + 1) = [] := by
            unfold withinI
            rw [if_neg (by decide +kernel)]
            decide +kernel
          rw [this] at hj
          cases hj
        have na : w ≠ "arg" := fun e => by
          subst e
          have : withinI "arg" (l.length + 1) = [] := by
            unfold withinI
            rw [if_neg (by decide +kernel)]
            decide +kernel
          rw [this] at hj
          cases hj
        rw [bad_else nn na] at f1
        exact within_lt (show formB T _ w (.str w :: l) = true from f1) j hj
      · rw [hk]
        refine ih x.2 hp2 fun q hq => ?_
        have := hf (x.1 :: q) (paths_cons.mpr ⟨x, hx, rfl, hq⟩)
        show formOk T (atP x.2 q)
        rw [← hk]
        exact this
  exact go p d hp h
theorem scopeP_snoc {p : List Nat} {i : Nat} : ∀ {d : Dt} {q : Nat × List Str}, scopeP d (p ++ [i]) q = stepC (atP d p) i (scopeP d p q) := by
  induction p with
  | nil => exact rfl
  | cons j p ih => exact ih
section
variable {P : Program} {w : World} {K : PySem.W.Frag} {mg : Str → Option Value} {base : Heap} {f : Addr} {fd : FuncData}
def spLScope (K : PySem.W.Frag) : Sp := fun vs H Q _ => ∃ v d pa p wd T, vs = [v, .ref pa, .int (wd : Nat)] ∧ DtAt K H v d ∧ pureD d = true ∧ H pa = some (.tup (p.map fun (n : Nat) => V.int n)) ∧ p ∈ paths d ∧ Fs T d ∧ dep d ≤ 64 ∧
  ∀ (t ln : Addr) (H' : Hp), Wc.Ext H H' → H' t = some (.tup [.ref ln, .int ((scopeP d p (wd, [])).1 : Nat)]) → H' ln = some (.lst ((scopeP d p (wd, [])).2.map V.str)) → Q (.ref t) H'
end
end K10


set_option Elab.async false
set_option linter.all false
set_option maxRecDepth 100000
set_option maxHeartbeats 4000000
namespace K10
open PySem PySem.Spec PyProof.Rows L2 Wc
local macro_rules | `(tactic| walk_at "lk") => `(tactic| first | with_reducible exact Look.here | (with_reducible apply Look.there; walk_at "lk"))
local macro_rules | `(tactic| walk_at "ul") => `(tactic| first | with_reducible exact UpL.here | (with_reducible apply UpL.there; walk_at "ul"))
local macro_rules | `(tactic| walk_at "ga") => `(tactic| first | exact GetAt.here | (apply GetAt.there; walk_at "ga"))
local macro_rules | `(tactic| walk_at "sa") => `(tactic| first | exact SetAt.here | (apply SetAt.there; walk_at "sa"))
local macro_rules | `(tactic| walk_at "hp") => `(tactic| first | assumption | (refine' KH.find ?k ?h; (case k => assumption); (case h => walk_at "lk")))
local macro_rules | `(tactic| walk_at "sql") => `(tactic| first | assumption | (refine' SqL.of ?h; (case h => walk_at "hp")) | (refine' Fr.sql (KH.fr ?k) ?n ?h; (case k => assumption); (case h => assumption); (case n => (simp; done))))
local macro_rules | `(tactic| walk_at "sqt") => `(tactic| first | assumption | (refine' SqT.of ?h; (case h => walk_at "hp")))
local macro_rules | `(tactic| walk_at "side") => `(tactic| first | exact (show (0 : Int) < _ by decide) | exact (show (0 : Int) < _ by omega) | exact ⟨by decide, by decide, by decide⟩ | exact ⟨by decide, by decide, by omega⟩ | exact ⟨by decide, by decide⟩ | exact ⟨by omega, by omega⟩ | exact Or.inl ⟨by omega, by omega⟩ | exact Or.inr ⟨by omega, by omega⟩)
local macro_rules | `(tactic| walk_at "siz") => `(tactic| first | (refine sz_of ?_; first | decide | omega | (simp; done) | (simp; omega)) | (refine sz_lt ?_; first | decide | omega | (simp; done) | (simp; omega)))
local macro_rules | `(tactic| walk_at "own") => `(tactic| first | (exact Or.inr (by assumption)) | (refine Or.inl ?_; simp; done))
local macro_rules | `(tactic| walk_at "al") => `(tactic| (refine' AllocO.mk ?k ?_; (case k => assumption); intro _ _ _ _))
local macro_rules | `(tactic| walk_at "up") => `(tactic| (refine' UpdO.mk ?k ?h ?m ?_; (case k => assumption); (case h => walk_at "ul"); (case m => walk_at "own"); intro _ _))
local macro_rules | `(tactic| walk_at "st") => `(tactic| first
  | ((with_reducible refine' r_var ?h ?_); (case h => walk_at "ga"))
  | (with_reducible refine' r_seq ?_) | (with_reducible refine' r_next ?_) | (with_reducible refine' r_asg ?_) | (with_reducible refine' r_drop ?_) | (with_reducible refine' r_ret ?_) | (with_reducible refine' r_retN ?_)
  | (with_reducible refine' r_ifs ?_) | (with_reducible refine' r_cont ?_) | (with_reducible refine' r_break ?_) | (with_reducible refine' r_c ?_) | (with_reducible refine' r_op ?_) | (with_reducible refine' r_un ?_)
  | (with_reducible refine' r_test ?_) | (with_reducible refine' r_tB ?_) | (with_reducible refine' r_not ?_) | (with_reducible refine' r_and ?_) | (with_reducible refine' r_or ?_) | (with_reducible refine' r_notV ?_)
  | (with_reducible refine' r_andV ?_) | (with_reducible refine' r_orV ?_) | (with_reducible refine' r_ifE ?_) | (with_reducible refine' r_bl ?_) | (with_reducible refine' r_nil ?_) | (with_reducible refine' r_cons ?_)
  | (with_reducible refine' r_tup ?_) | (with_reducible refine' r_lst ?_) | (with_reducible refine' r_cb ?_) | (with_reducible refine' r_call ?_) | ((with_reducible refine' r_name ?h ?_); (case h => walk_at "sa")) | (with_reducible refine' r_gnil ?_)
  | (with_reducible refine' r_gcons ?_) | (with_reducible refine' r_gsub ?_) | (with_reducible refine' r_par ?_) | (with_reducible refine' r_par2 ?_) | (with_reducible refine' r_I0 ?_) | (with_reducible refine' r_U ?_)
  | ((with_reducible refine' r_eq ?h ?_); (case h => rfl)) | ((with_reducible refine' r_ne ?h ?_); (case h => rfl))
  | ((with_reducible refine' r_ixL ?h ?a ?_); (case h => walk_at "sql"); (case a => rfl))
  | ((with_reducible refine' r_ixT ?h ?a ?_); (case h => walk_at "sqt"); (case a => rfl))
  | ((with_reducible refine' r_setL ?h ?a ?_); (case h => walk_at "hp"); (case a => rfl))
  | ((with_reducible refine' r_I ?c ?_); (case c => walk_at "side"))
  | (with_reducible refine' r_sl ?_) | (with_reducible refine' r_part ?_) | (with_reducible refine' r_nopart ?_) | (with_reducible refine' r_ii ?_)
  | ((with_reducible refine' r_slL ?h ?_); (case h => walk_at "sql"))
  | (with_reducible refine' r_bm ?_) | (with_reducible refine' r_bm0 ?_) | (with_reducible refine' r_int1 ?_) | (with_reducible refine' r_int1b ?_)
  | ((with_reducible refine' r_aug ?h ?_); (case h => walk_at "ga"))
  | ((with_reducible refine' r_cat ?a ?b ?z ?_); (case a => walk_at "hp"); (case b => walk_at "hp"); (case z => walk_at "siz"))
  | ((with_reducible refine' r_append ?a ?z ?_); (case a => walk_at "hp"); (case z => walk_at "siz"))
  | ((with_reducible refine' And.intro ?z ?_); (case z => first | walk_at "siz" | exact Or.inl ⟨rfl, _, by walk_at "sql"⟩))
  | ((with_reducible refine' r_gtup ?h ?l ?_); (case h => walk_at "sqt"); (case l => rfl))
  | (with_reducible refine' r_forL ?_) | (with_reducible refine' r_forE ?_) | (with_reducible refine' r_forR ?_) | ((with_reducible refine' r_forL2 ?h ?_); (case h => walk_at "sql")) | ((with_reducible refine' r_forE2 ?h ?_); (case h => walk_at "sql"))
  | (with_reducible refine' r_lcR ?_) | ((with_reducible refine' r_iteT ?h ?_); (case h => rfl)) | ((with_reducible refine' r_iteF ?h ?_); (case h => rfl))
  | (with_reducible refine' r_dnew ?_) | (with_reducible refine' r_vei ?_) | (with_reducible refine' r_ost ?_) | (with_reducible refine' r_mkV ?_) | (with_reducible refine' r_mkX ?_) | (with_reducible refine' r_xfld ?_)
  | ((with_reducible refine' MkG.mk ?o ?n ?k ?_); (case o => exact ErrOk.o (by assumption)); (case n => exact ErrOk.no (by assumption)); (case k => assumption); intro _ _ _ _)
  | ((with_reducible refine' AllocX.mk ?k ?_); (case k => assumption); intro _ _ _ _)
  | (with_reducible refine' r_chain ?_) | (with_reducible refine' r_lcS ?_) | (with_reducible refine' r_lcS2 ?_) | (with_reducible refine' r_lcL ?_) | (with_reducible refine' r_lcT ?_) | (with_reducible refine' r_lcI ?_) | (with_reducible refine' r_yes ?_)
  | (with_reducible refine' r_fld ?_) | (with_reducible refine' r_sfld ?_) | (with_reducible refine' r_meth ?_) | (with_reducible refine' r_make ?_) | (with_reducible refine' r_dget ?_) | (with_reducible refine' r_din ?_) | (with_reducible refine' r_dput ?_)
  | ((with_reducible refine' r_disp ?k ?_); (case k => assumption); intro _ _ _ _) | (with_reducible refine' r_pnil ?_) | (with_reducible refine' r_pcons ?_)
  | (walk_at "al") | (walk_at "up"))
local macro_rules | `(tactic| walk_at "go") => `(tactic| repeat walk_at "st")

theorem bad_nameL {y : Dt} {q : Nat × List Str} : badD (.tup [.str "name", y]) q = !q.2.contains (strD y) := by
  show (if ("name" : Str) = "name" then !q.2.contains (strD y) else if ("name" : Str) = "arg" then (match y with | .int i => !decide (i < (q.1 : Int)) | _ => false) else false) = _
  rw [if_pos rfl]
theorem bad_more {w : Str} {l : List Dt} {q : Nat × List Str} (h : l.length ≠ 1) : badD (.tup (.str w :: l)) q = false := by
  match l, h with
  | [], _ => rfl
  | [y], h => exact absurd rfl h
  | y :: z :: l, _ => rfl
theorem form_name {T : List Cl} {l : List Dt} (h : formOk T (.tup (.str "name" :: l))) : ∃ x, l = [.str x] := by
  by_cases hl : l.length = 1
  · match l, hl with
    | [y], _ =>
      have h1 := h [] 0 [strD y]
      rw [bad_nameL] at h1
      have h1 : formB T _ "name" [.str "name", y] = !(!(([strD y] : List Str).contains (strD y))) := h1
      rw [formB_of w_name.1 w_name.2.1, w_name.2.2.1, if_pos (.inr (.inr rfl)), show ([strD y] : List Str).contains (strD y) = true by simp] at h1
      have h1 : (true && leafB 0 [strD y] "name" y) = true := h1
      rw [Bool.true_and] at h1
      unfold leafB at h1
      rw [if_neg w_name.2.2.2.1, if_neg w_name.2.2.2.2] at h1
      cases y with
      | str x => exact ⟨x, rfl⟩
      | _ => cases h1
  · have h1 := h [] 0 []
    rw [bad_more hl] at h1
    have h1 : formB T _ "name" (.str "name" :: l) = true := h1
    rw [formB_of w_name.1 w_name.2.1, w_name.2.2.1] at h1
    have := of_decide_eq_true (He.ba h1).1
    rw [List.length_cons] at this
    omega
theorem form_arg {T : List Cl} {l : List Dt} (h : formOk T (.tup (.str "arg" :: l))) : ∃ i, l = [.int i] := by
  by_cases hl : l.length = 1
  · match l, hl with
    | [y], _ =>
      cases y with
      | int i => exact ⟨i, rfl⟩
      | _ =>
        exfalso
        have h1 := h [] 0 []
        rw [show ∀ (y : Dt), badD (.tup [.str "arg", y]) (0, []) = (match y with | .int i => !decide (i < ((0 : Nat) : Int)) | _ => false) from fun y => by
          show (if ("arg" : Str) = "name" then !([] : List Str).contains (strD y) else if ("arg" : Str) = "arg" then (match y with | .int i => !decide (i < ((0 : Nat) : Int)) | _ => false) else false) = _
          rw [if_neg (by decide +kernel), if_pos rfl]] at h1
        have h1 : formB T _ "arg" [.str "arg", _] = true := h1
        rw [formB_of w_arg.1 w_arg.2.1, w_arg.2.2.1, if_pos (.inr (.inl rfl))] at h1
        have h1 := (He.ba h1).2
        unfold leafB at h1
        rw [if_neg w_arg.2.2.2, if_pos rfl] at h1
        cases h1
  · have h1 := h [] 0 []
    rw [bad_more hl] at h1
    have h1 : formB T _ "arg" (.str "arg" :: l) = true := h1
    rw [formB_of w_arg.1 w_arg.2.1, w_arg.2.2.1] at h1
    have := of_decide_eq_true (He.ba h1).1
    rw [List.length_cons] at this
    omega
theorem find_at {α : Type} {f : α → Bool} {l : List α} {i : Nat} {p : α} (h : ∀ q, q ∈ l.take i → f q = false) (hp : l[i]? = some p) (hf : f p = true) : l.find? f = some p := by
  obtain ⟨hi, e⟩ := List.getElem?_eq_some_iff.mp hp
  rw [← List.take_append_drop i l, List.find?_append, List.find?_eq_none.mpr (fun q hq => by rw [h q hq]; exact Bool.false_ne_true), List.drop_eq_getElem_cons hi, e, List.find?_cons, hf]
  rfl
theorem flat_strsX (l : List Str) : (l.map V.str).all flatV = true := by
  induction l with
  | nil => rfl
  | cons a l ih => exact ih
/-- the path of the first name or argument that is none there -/
def firstBad (d : Dt) (wd : Nat) : Option (List Nat) := (paths d).find? fun p => badD (atP d p) (scopeP d p (wd, []))
def BadR (H : Hp) (x : V) (o : Option (List Nat)) : Prop := match o with
  | none => x = .non
  | some p => PthR H x p
section
variable {P : Program} {w : World} {K : PySem.W.Frag} {mg : Str → Option Value} {base : Heap} {f : Addr} {fd : FuncData}
def spLBad (K : PySem.W.Frag) : Sp := fun vs H Q _ => ∃ v d wd T, vs = [v, .int (wd : Nat)] ∧ DtAt K H v d ∧ pureD d = true ∧ Fs T d ∧ dep d ≤ 64 ∧ (paths d).length ≤ 1000 ∧ ∀ (x : V) (H' : Hp), Wc.Ext H H' → BadR H' x (firstBad d wd) → Q x H'
end
end K10


set_option Elab.async false
set_option linter.all false
set_option maxRecDepth 100000
set_option maxHeartbeats 4000000
namespace K10
open PySem PySem.Spec PyProof.Rows L2 Wc
local macro_rules | `(tactic| walk_at "lk") => `(tactic| first | with_reducible exact Look.here | (with_reducible apply Look.there; walk_at "lk"))
local macro_rules | `(tactic| walk_at "ul") => `(tactic| first | with_reducible exact UpL.here | (with_reducible apply UpL.there; walk_at "ul"))
local macro_rules | `(tactic| walk_at "ga") => `(tactic| first | exact GetAt.here | (apply GetAt.there; walk_at "ga"))
local macro_rules | `(tactic| walk_at "sa") => `(tactic| first | exact SetAt.here | (apply SetAt.there; walk_at "sa"))
local macro_rules | `(tactic| walk_at "hp") => `(tactic| first | assumption | (refine' KH.find ?k ?h; (case k => assumption); (case h => walk_at "lk")))
local macro_rules | `(tactic| walk_at "sql") => `(tactic| first | assumption | (refine' SqL.of ?h; (case h => walk_at "hp")) | (refine' Fr.sql (KH.fr ?k) ?n ?h; (case k => assumption); (case h => assumption); (case n => (simp; done))))
local macro_rules | `(tactic| walk_at "sqt") => `(tactic| first | assumption | (refine' SqT.of ?h; (case h => walk_at "hp")))
local macro_rules | `(tactic| walk_at "side") => `(tactic| first | exact (show (0 : Int) < _ by decide) | exact (show (0 : Int) < _ by omega) | exact ⟨by decide, by decide, by decide⟩ | exact ⟨by decide, by decide, by omega⟩ | exact ⟨by decide, by decide⟩ | exact ⟨by omega, by omega⟩ | exact Or.inl ⟨by omega, by omega⟩ | exact Or.inr ⟨by omega, by omega⟩)
local macro_rules | `(tactic| walk_at "siz") => `(tactic| first | (refine sz_of ?_; first | decide | omega | (simp; done) | (simp; omega)) | (refine sz_lt ?_; first | decide | omega | (simp; done) | (simp; omega)))
local macro_rules | `(tactic| walk_at "own") => `(tactic| first | (exact Or.inr (by assumption)) | (refine Or.inl ?_; simp; done))
local macro_rules | `(tactic| walk_at "al") => `(tactic| (refine' AllocO.mk ?k ?_; (case k => assumption); intro _ _ _ _))
local macro_rules | `(tactic| walk_at "up") => `(tactic| (refine' UpdO.mk ?k ?h ?m ?_; (case k => assumption); (case h => walk_at "ul"); (case m => walk_at "own"); intro _ _))
local macro_rules | `(tactic| walk_at "st") => `(tactic| first
  | ((with_reducible refine' r_var ?h ?_); (case h => walk_at "ga"))
  | (with_reducible refine' r_seq ?_) | (with_reducible refine' r_next ?_) | (with_reducible refine' r_asg ?_) | (with_reducible refine' r_drop ?_) | (with_reducible refine' r_ret ?_) | (with_reducible refine' r_retN ?_)
  | (with_reducible refine' r_ifs ?_) | (with_reducible refine' r_cont ?_) | (with_reducible refine' r_break ?_) | (with_reducible refine' r_c ?_) | (with_reducible refine' r_op ?_) | (with_reducible refine' r_un ?_)
  | (with_reducible refine' r_test ?_) | (with_reducible refine' r_tB ?_) | (with_reducible refine' r_not ?_) | (with_reducible refine' r_and ?_) | (with_reducible refine' r_or ?_) | (with_reducible refine' r_notV ?_)
  | (with_reducible refine' r_andV ?_) | (with_reducible refine' r_orV ?_) | (with_reducible refine' r_ifE ?_) | (with_reducible refine' r_bl ?_) | (with_reducible refine' r_nil ?_) | (with_reducible refine' r_cons ?_)
  | (with_reducible refine' r_tup ?_) | (with_reducible refine' r_lst ?_) | (with_reducible refine' r_cb ?_) | (with_reducible refine' r_call ?_) | ((with_reducible refine' r_name ?h ?_); (case h => walk_at "sa")) | (with_reducible refine' r_gnil ?_)
  | (with_reducible refine' r_gcons ?_) | (with_reducible refine' r_gsub ?_) | (with_reducible refine' r_par ?_) | (with_reducible refine' r_par2 ?_) | (with_reducible refine' r_I0 ?_) | (with_reducible refine' r_U ?_)
  | ((with_reducible refine' r_eq ?h ?_); (case h => rfl)) | ((with_reducible refine' r_ne ?h ?_); (case h => rfl))
  | ((with_reducible refine' r_ixL ?h ?a ?_); (case h => walk_at "sql"); (case a => rfl))
  | ((with_reducible refine' r_ixT ?h ?a ?_); (case h => walk_at "sqt"); (case a => rfl))
  | ((with_reducible refine' r_setL ?h ?a ?_); (case h => walk_at "hp"); (case a => rfl))
  | ((with_reducible refine' r_I ?c ?_); (case c => walk_at "side"))
  | (with_reducible refine' r_sl ?_) | (with_reducible refine' r_part ?_) | (with_reducible refine' r_nopart ?_) | (with_reducible refine' r_ii ?_)
  | ((with_reducible refine' r_slL ?h ?_); (case h => walk_at "sql"))
  | (with_reducible refine' r_bm ?_) | (with_reducible refine' r_bm0 ?_) | (with_reducible refine' r_int1 ?_) | (with_reducible refine' r_int1b ?_)
  | ((with_reducible refine' r_aug ?h ?_); (case h => walk_at "ga"))
  | ((with_reducible refine' r_cat ?a ?b ?z ?_); (case a => walk_at "hp"); (case b => walk_at "hp"); (case z => walk_at "siz"))
  | ((with_reducible refine' r_append ?a ?z ?_); (case a => walk_at "hp"); (case z => walk_at "siz"))
  | ((with_reducible refine' And.intro ?z ?_); (case z => first | walk_at "siz" | exact Or.inl ⟨rfl, _, by walk_at "sql"⟩))
  | ((with_reducible refine' r_gtup ?h ?l ?_); (case h => walk_at "sqt"); (case l => rfl))
  | (with_reducible refine' r_forL ?_) | (with_reducible refine' r_forE ?_) | (with_reducible refine' r_forR ?_) | ((with_reducible refine' r_forL2 ?h ?_); (case h => walk_at "sql")) | ((with_reducible refine' r_forE2 ?h ?_); (case h => walk_at "sql"))
  | (with_reducible refine' r_lcR ?_) | ((with_reducible refine' r_iteT ?h ?_); (case h => rfl)) | ((with_reducible refine' r_iteF ?h ?_); (case h => rfl))
  | (with_reducible refine' r_dnew ?_) | (with_reducible refine' r_vei ?_) | (with_reducible refine' r_ost ?_) | (with_reducible refine' r_mkV ?_) | (with_reducible refine' r_mkX ?_) | (with_reducible refine' r_xfld ?_)
  | ((with_reducible refine' MkG.mk ?o ?n ?k ?_); (case o => exact ErrOk.o (by assumption)); (case n => exact ErrOk.no (by assumption)); (case k => assumption); intro _ _ _ _)
  | ((with_reducible refine' AllocX.mk ?k ?_); (case k => assumption); intro _ _ _ _)
  | (with_reducible refine' r_chain ?_) | (with_reducible refine' r_lcS ?_) | (with_reducible refine' r_lcS2 ?_) | (with_reducible refine' r_lcL ?_) | (with_reducible refine' r_lcT ?_) | (with_reducible refine' r_lcI ?_) | (with_reducible refine' r_yes ?_)
  | (with_reducible refine' r_fld ?_) | (with_reducible refine' r_sfld ?_) | (with_reducible refine' r_meth ?_) | (with_reducible refine' r_make ?_) | (with_reducible refine' r_dget ?_) | (with_reducible refine' r_din ?_) | (with_reducible refine' r_dput ?_)
  | ((with_reducible refine' r_disp ?k ?_); (case k => assumption); intro _ _ _ _) | (with_reducible refine' r_pnil ?_) | (with_reducible refine' r_pcons ?_)
  | (walk_at "al") | (walk_at "up"))
local macro_rules | `(tactic| walk_at "go") => `(tactic| repeat walk_at "st")

structure OneX (K : PySem.W.Frag) (NB : Addr) : Prop where
  cc : PySem.W.exmOne K (.ref NB) (.ref NB) = some true
  xc : XfC K NB
  nc : PySem.W.findIn K (.ref NB) "path" = some none
theorem bet12 {wd : Nat} (h : wd = 1 ∨ wd = 2) : betD 1 2 (.int (wd : Nat)) = true := by
  rcases h with rfl | rfl <;> rfl
section
variable {P : Program} {w : World} {K : PySem.W.Frag} {mg : Str → Option Value} {base : Heap} {f : Addr} {fd : FuncData} {CK CR NB NCt : Addr}
def spLSaid (K : PySem.W.Frag) (CK CR : Addr) : Sp := fun vs H Q _ => ∃ r kd tl T n v d cn, vs = [.ref r, v, .int (cn : Nat)] ∧ RtAt K CK CR H r kd tl T n ∧ (∀ c, c ∈ T → c.all.length ≤ 1000) ∧ DtAt K H v d ∧ (cn = 1 ∨ cn = 2) ∧ ∀ (x : V) (H' : Hp), Wc.Ext H H' → BadR H' x (chk T 24 [⟨d, [], cn, []⟩]) → Q x H'
end
end K10


set_option Elab.async false
set_option linter.all false
set_option maxRecDepth 100000
set_option maxHeartbeats 4000000
namespace K10
open PySem PySem.Spec PyProof.Rows L2 Wc
local macro_rules | `(tactic| walk_at "lk") => `(tactic| first | with_reducible exact Look.here | (with_reducible apply Look.there; walk_at "lk"))
local macro_rules | `(tactic| walk_at "ul") => `(tactic| first | with_reducible exact UpL.here | (with_reducible apply UpL.there; walk_at "ul"))
local macro_rules | `(tactic| walk_at "ga") => `(tactic| first | exact GetAt.here | (apply GetAt.there; walk_at "ga"))
local macro_rules | `(tactic| walk_at "sa") => `(tactic| first | exact SetAt.here | (apply SetAt.there; walk_at "sa"))
local macro_rules | `(tactic| walk_at "hp") => `(tactic| first | assumption | (refine' KH.find ?k ?h; (case k => assumption); (case h => walk_at "lk")))
local macro_rules | `(tactic| walk_at "sql") => `(tactic| first | assumption | (refine' SqL.of ?h; (case h => walk_at "hp")) | (refine' Fr.sql (KH.fr ?k) ?n ?h; (case k => assumption); (case h => assumption); (case n => (simp; done))))
local macro_rules | `(tactic| walk_at "sqt") => `(tactic| first | assumption | (refine' SqT.of ?h; (case h => walk_at "hp")))
local macro_rules | `(tactic| walk_at "side") => `(tactic| first | exact (show (0 : Int) < _ by decide) | exact (show (0 : Int) < _ by omega) | exact ⟨by decide, by decide, by decide⟩ | exact ⟨by decide, by decide, by omega⟩ | exact ⟨by decide, by decide⟩ | exact ⟨by omega, by omega⟩ | exact Or.inl ⟨by omega, by omega⟩ | exact Or.inr ⟨by omega, by omega⟩)
local macro_rules | `(tactic| walk_at "siz") => `(tactic| first | (refine sz_of ?_; first | decide | omega | (simp; done) | (simp; omega)) | (refine sz_lt ?_; first | decide | omega | (simp; done) | (simp; omega)))
local macro_rules | `(tactic| walk_at "own") => `(tactic| first | (exact Or.inr (by assumption)) | (refine Or.inl ?_; simp; done))
local macro_rules | `(tactic| walk_at "al") => `(tactic| (refine' AllocO.mk ?k ?_; (case k => assumption); intro _ _ _ _))
local macro_rules | `(tactic| walk_at "up") => `(tactic| (refine' UpdO.mk ?k ?h ?m ?_; (case k => assumption); (case h => walk_at "ul"); (case m => walk_at "own"); intro _ _))
local macro_rules | `(tactic| walk_at "st") => `(tactic| first
  | ((with_reducible refine' r_var ?h ?_); (case h => walk_at "ga"))
  | (with_reducible refine' r_seq ?_) | (with_reducible refine' r_next ?_) | (with_reducible refine' r_asg ?_) | (with_reducible refine' r_drop ?_) | (with_reducible refine' r_ret ?_) | (with_reducible refine' r_retN ?_)
  | (with_reducible refine' r_ifs ?_) | (with_reducible refine' r_cont ?_) | (with_reducible refine' r_break ?_) | (with_reducible refine' r_c ?_) | (with_reducible refine' r_op ?_) | (with_reducible refine' r_un ?_)
  | (with_reducible refine' r_test ?_) | (with_reducible refine' r_tB ?_) | (with_reducible refine' r_not ?_) | (with_reducible refine' r_and ?_) | (with_reducible refine' r_or ?_) | (with_reducible refine' r_notV ?_)
  | (with_reducible refine' r_andV ?_) | (with_reducible refine' r_orV ?_) | (with_reducible refine' r_ifE ?_) | (with_reducible refine' r_bl ?_) | (with_reducible refine' r_nil ?_) | (with_reducible refine' r_cons ?_)
  | (with_reducible refine' r_tup ?_) | (with_reducible refine' r_lst ?_) | (with_reducible refine' r_cb ?_) | (with_reducible refine' r_call ?_) | ((with_reducible refine' r_name ?h ?_); (case h => walk_at "sa")) | (with_reducible refine' r_gnil ?_)
  | (with_reducible refine' r_gcons ?_) | (with_reducible refine' r_gsub ?_) | (with_reducible refine' r_par ?_) | (with_reducible refine' r_par2 ?_) | (with_reducible refine' r_I0 ?_) | (with_reducible refine' r_U ?_)
  | ((with_reducible refine' r_eq ?h ?_); (case h => rfl)) | ((with_reducible refine' r_ne ?h ?_); (case h => rfl))
  | ((with_reducible refine' r_ixL ?h ?a ?_); (case h => walk_at "sql"); (case a => rfl))
  | ((with_reducible refine' r_ixT ?h ?a ?_); (case h => walk_at "sqt"); (case a => rfl))
  | ((with_reducible refine' r_setL ?h ?a ?_); (case h => walk_at "hp"); (case a => rfl))
  | ((with_reducible refine' r_I ?c ?_); (case c => walk_at "side"))
  | (with_reducible refine' r_sl ?_) | (with_reducible refine' r_part ?_) | (with_reducible refine' r_nopart ?_) | (with_reducible refine' r_ii ?_)
  | ((with_reducible refine' r_slL ?h ?_); (case h => walk_at "sql"))
  | (with_reducible refine' r_bm ?_) | (with_reducible refine' r_bm0 ?_) | (with_reducible refine' r_int1 ?_) | (with_reducible refine' r_int1b ?_)
  | ((with_reducible refine' r_aug ?h ?_); (case h => walk_at "ga"))
  | ((with_reducible refine' r_cat ?a ?b ?z ?_); (case a => walk_at "hp"); (case b => walk_at "hp"); (case z => walk_at "siz"))
  | ((with_reducible refine' r_append ?a ?z ?_); (case a => walk_at "hp"); (case z => walk_at "siz"))
  | ((with_reducible refine' And.intro ?z ?_); (case z => first | walk_at "siz" | exact Or.inl ⟨rfl, _, by walk_at "sql"⟩))
  | ((with_reducible refine' r_gtup ?h ?l ?_); (case h => walk_at "sqt"); (case l => rfl))
  | (with_reducible refine' r_forL ?_) | (with_reducible refine' r_forE ?_) | (with_reducible refine' r_forR ?_) | ((with_reducible refine' r_forL2 ?h ?_); (case h => walk_at "sql")) | ((with_reducible refine' r_forE2 ?h ?_); (case h => walk_at "sql"))
  | (with_reducible refine' r_lcR ?_) | ((with_reducible refine' r_iteT ?h ?_); (case h => rfl)) | ((with_reducible refine' r_iteF ?h ?_); (case h => rfl))
  | (with_reducible refine' r_dnew ?_) | (with_reducible refine' r_vei ?_) | (with_reducible refine' r_ost ?_) | (with_reducible refine' r_mkV ?_) | (with_reducible refine' r_mkX ?_) | (with_reducible refine' r_xfld ?_)
  | ((with_reducible refine' MkG.mk ?o ?n ?k ?_); (case o => exact ErrOk.o (by assumption)); (case n => exact ErrOk.no (by assumption)); (case k => assumption); intro _ _ _ _)
  | ((with_reducible refine' AllocX.mk ?k ?_); (case k => assumption); intro _ _ _ _)
  | (with_reducible refine' r_chain ?_) | (with_reducible refine' r_lcS ?_) | (with_reducible refine' r_lcS2 ?_) | (with_reducible refine' r_lcL ?_) | (with_reducible refine' r_lcT ?_) | (with_reducible refine' r_lcI ?_) | (with_reducible refine' r_yes ?_)
  | (with_reducible refine' r_fld ?_) | (with_reducible refine' r_sfld ?_) | (with_reducible refine' r_meth ?_) | (with_reducible refine' r_make ?_) | (with_reducible refine' r_dget ?_) | (with_reducible refine' r_din ?_) | (with_reducible refine' r_dput ?_)
  | ((with_reducible refine' r_disp ?k ?_); (case k => assumption); intro _ _ _ _) | (with_reducible refine' r_pnil ?_) | (with_reducible refine' r_pcons ?_)
  | (walk_at "al") | (walk_at "up"))
local macro_rules | `(tactic| walk_at "go") => `(tactic| repeat walk_at "st")

/-- a path as data -/
def spD (l : List Nat) : PyData := .tuple (l.map fun n => PyData.int (n : Nat))
theorem spD_at {K : PySem.W.Frag} {H : Hp} {t : Addr} {l : List Nat} (h : H t = some (.tup (l.map fun n => V.int (n : Nat)))) : Dp K H (.ref t) (spD l) := by
  have go : ∀ l : List Nat, DpAll K H (l.map fun n => V.int (n : Nat)) (l.map fun n => PyData.int (n : Nat)) := fun l => by
    induction l with
    | nil => exact .nil
    | cons a l ih => exact .cons (.int _) ih
  exact .tup (SqT.of h) (go l)
theorem spD_lay : ∀ l : List Nat, PyData.canLayAll0 (l.map fun n => PyData.int (n : Nat)) = true ∧ PyData.depthAll (l.map fun n => PyData.int (n : Nat)) = 0
  | [] => ⟨rfl, rfl⟩
  | x :: l => by
    obtain ⟨h1, h2⟩ := spD_lay l
    refine ⟨?_, ?_⟩
    · show (PyData.canLay0 (.int (x : Nat)) && PyData.canLayAll0 (l.map fun n => PyData.int (n : Nat))) = true
      rw [h1] <;> rfl
    · show max (PyData.depth (.int (x : Nat))) (PyData.depthAll (l.map fun n => PyData.int (n : Nat))) = 0
      rw [h2] <;> rfl
theorem spD_sh (l : List Nat) : SeqAt.shaped (spD l) = true := by
  obtain ⟨h1, h2⟩ := spD_lay l
  show (PyData.canLay0 (.tuple (l.map fun n => PyData.int (n : Nat))) && decide (PyData.depth (.tuple (l.map fun n => PyData.int (n : Nat))) ≤ 64)) = true
  rw [show PyData.canLay0 (.tuple (l.map fun n => PyData.int (n : Nat))) = true by simpa [PyData.canLay0] using h1, show PyData.depth (.tuple (l.map fun n => PyData.int (n : Nat))) = 1 by show PyData.depthAll (l.map fun n => PyData.int (n : Nat)) + 1 = 1; rw [h2]]
  rfl
theorem spD_eq (l : List Nat) : PyData.eqv (spD l) (spD l) = true := by
  have go : ∀ l : List Nat, PyData.eqvAll (l.map fun n => PyData.int (n : Nat)) (l.map fun n => PyData.int (n : Nat)) = true := fun l => by
    induction l with
    | nil => rfl
    | cons a l ih =>
      show (PyData.eqv (.int (a : Nat)) (.int (a : Nat)) && _) = true
      rw [ih]
      simp [PyData.eqv]
  exact go l

abbrev NN_l_parts_right : List Str := []
theorem paths_app {p q : List Nat} : ∀ {d : Dt}, p ∈ paths d → q ∈ paths (atP d p) → p ++ q ∈ paths d := by
  induction p with
  | nil => exact fun _ h => h
  | cons i p ih =>
    intro d hp hq
    obtain ⟨x, hx, rfl, hp2⟩ := paths_cons.mp hp
    refine paths_cons.mpr ⟨x, hx, rfl, ih hp2 ?_⟩
    have hq : q ∈ paths (atP (kidAt d x.1) p) := hq
    rw [kids_at hx] at hq
    exact hq
theorem Fs.sub {T : List Cl} {d : Dt} {p : List Nat} (h : Fs T d) (hp : p ∈ paths d) : Fs T (atP d p) := fun q hq => by
  rw [← atP_app]
  exact h _ (paths_app hp hq)
theorem sub_small {p : List Nat} : ∀ {d : Dt}, p ∈ paths d → (paths (atP d p)).length ≤ (paths d).length ∧ dep (atP d p) ≤ dep d := by
  induction p with
  | nil => exact fun _ => ⟨Nat.le_refl _, Nat.le_refl _⟩
  | cons i p ih =>
    intro d hp
    obtain ⟨x, hx, rfl, hp2⟩ := paths_cons.mp hp
    obtain ⟨h1, h2⟩ := ih hp2
    have hk := kids_at hx
    show (paths (atP (kidAt d x.1) p)).length ≤ _ ∧ dep (atP (kidAt d x.1) p) ≤ _
    rw [hk]
    refine ⟨Nat.le_trans h1 ?_, Nat.le_trans h2 (Nat.le_of_lt (kids_dep hx))⟩
    rw [paths_kids d, List.length_cons]
    obtain ⟨a, b, e⟩ := List.append_of_mem hx
    rw [e, List.flatMap_append, List.flatMap_cons, List.length_append, List.length_append, List.length_map]
    omega
theorem fi_find {α : Type} {f : α → Bool} : ∀ {l : List α}, (match l.findIdx? f with | some j => l[j]? | none => none) = l.find? f
  | [] => rfl
  | a :: l => by
    rw [List.findIdx?_cons, List.find?_cons]
    cases h : f a with
    | true => rfl
    | false =>
      rw [← fi_find (l := l)]
      show (match (l.findIdx? f).map (· + 1) with | some j => (a :: l)[j]? | none => none) = _
      cases l.findIdx? f <;> rfl
/-- what the check of a small body tells -/
theorem chk_small {T : List Cl} {d : Dt} {wd : Nat} (h : Fs T d) (hl : (paths d).length ≤ 24) : chk T 24 [⟨d, [], wd, []⟩] = firstBad d wd := by
  rw [chk_parts (dep d) (Nat.le_refl _)]
  unfold plsF
  have e := runL_find (T := T) (mkPl d [] (wd, [])) (fun p => badD (atP d p) (scopeP d p (wd, []))) (paths d) 24 fun p hp => h p hp _ _ _
  refine e.trans ?_
  unfold firstBad
  rw [← fi_find]
  cases q : (paths d).findIdx? (fun p => badD (atP d p) (scopeP d p (wd, []))) with
  | none =>
    show (if (paths d).length ≤ 24 then none else some []) = none
    rw [if_pos hl]
  | some j =>
    have hj := (List.findIdx?_eq_some_iff_getElem.mp q).1
    show (if j < 24 then ((paths d)[j]?.map fun p => (mkPl d [] (wd, []) p).path) else some []) = (paths d)[j]?
    rw [if_pos (by omega), List.getElem?_eq_getElem hj]
    rfl
theorem paired_left {α β : Type} {R : α → β → Prop} {xs : List α} {ys : List β} (h : PySem.Paired R xs ys) : ∀ x, x ∈ xs → ∃ y, y ∈ ys ∧ R x y := by
  induction h with
  | nil => intro x hx; cases hx
  | cons r _ ih =>
    intro x hx
    rcases List.mem_cons.mp hx with rfl | hx
    · exact ⟨_, List.mem_cons_self, r⟩
    · obtain ⟨y, h1, h2⟩ := ih x hx
      exact ⟨y, List.mem_cons_of_mem _ h1, h2⟩
def spO (o : Option (List Nat)) : PyData := match o with
  | none => .none
  | some p => spD p
theorem BadR.dp {K : PySem.W.Frag} {H : Hp} {x : V} {o : Option (List Nat)} (h : BadR H x o) : Dp K H x (spO o) := by
  cases o with
  | none =>
    obtain rfl : x = .non := h
    exact .non
  | some p =>
    obtain ⟨t, rfl, h1⟩ := h
    exact spD_at h1
theorem spO_eq (o : Option (List Nat)) : PyData.eqv (spO o) (spO o) = true := by
  cases o with
  | none => rfl
  | some p => exact spD_eq p
theorem spO_sh (o : Option (List Nat)) : SeqAt.shaped (spO o) = true := by
  cases o with
  | none => rfl
  | some p => exact spD_sh p
theorem BadR.mo {H H' : Hp} {x : V} {o : Option (List Nat)} (h : BadR H x o) (m : Mo H H') : BadR H' x o := by
  cases o with
  | none => exact h
  | some p => exact PthR.mo h m
section
variable {P : Program} {w : World} {K : PySem.W.Frag} {mg : Str → Option Value} {base : Heap} {f : Addr} {fd : FuncData} {CK CR NB NCt : Addr}
def spLParts (K : PySem.W.Frag) (CK CR : Addr) : Sp := fun vs H Q _ => ∃ pw r kd tl T n v d a b c N, vs = [.ref pw, .ref r, v] ∧ H pw = some (wl a b c) ∧ WellOk N b c ∧ N ≤ 100000000 ∧ RtW K CK CR H r kd tl T n ∧ (∀ c, c ∈ T → c.all.length ≤ 1000) ∧ kd ≠ pw ∧ tl ≠ pw ∧ DtAt K H v d ∧ pureD d = true ∧ Fs T d ∧ dep d ≤ 64 ∧ (paths d).length ≤ 24 ∧
  ∀ (a' c' : Int) (H' : Hp), H' pw = some (wl a' b c') → WellOk (N + 5) b c' → Wc.Fr [pw] H H' → Q (.bl true) H'
end
end K10


set_option Elab.async false
set_option linter.all false
set_option maxRecDepth 100000
set_option maxHeartbeats 4000000
namespace K10
open PySem PySem.Spec PyProof.Rows L2 Wc
local macro_rules | `(tactic| walk_at "lk") => `(tactic| first | with_reducible exact Look.here | (with_reducible apply Look.there; walk_at "lk"))
local macro_rules | `(tactic| walk_at "ul") => `(tactic| first | with_reducible exact UpL.here | (with_reducible apply UpL.there; walk_at "ul"))
local macro_rules | `(tactic| walk_at "ga") => `(tactic| first | exact GetAt.here | (apply GetAt.there; walk_at "ga"))
local macro_rules | `(tactic| walk_at "sa") => `(tactic| first | exact SetAt.here | (apply SetAt.there; walk_at "sa"))
local macro_rules | `(tactic| walk_at "hp") => `(tactic| first | assumption | (refine' KH.find ?k ?h; (case k => assumption); (case h => walk_at "lk")))
local macro_rules | `(tactic| walk_at "sql") => `(tactic| first | assumption | (refine' SqL.of ?h; (case h => walk_at "hp")) | (refine' Fr.sql (KH.fr ?k) ?n ?h; (case k => assumption); (case h => assumption); (case n => (simp; done))))
local macro_rules | `(tactic| walk_at "sqt") => `(tactic| first | assumption | (refine' SqT.of ?h; (case h => walk_at "hp")))
local macro_rules | `(tactic| walk_at "side") => `(tactic| first | exact (show (0 : Int) < _ by decide) | exact (show (0 : Int) < _ by omega) | exact ⟨by decide, by decide, by decide⟩ | exact ⟨by decide, by decide, by omega⟩ | exact ⟨by decide, by decide⟩ | exact ⟨by omega, by omega⟩ | exact Or.inl ⟨by omega, by omega⟩ | exact Or.inr ⟨by omega, by omega⟩)
local macro_rules | `(tactic| walk_at "siz") => `(tactic| first | (refine sz_of ?_; first | decide | omega | (simp; done) | (simp; omega)) | (refine sz_lt ?_; first | decide | omega | (simp; done) | (simp; omega)))
local macro_rules | `(tactic| walk_at "own") => `(tactic| first | (exact Or.inr (by assumption)) | (refine Or.inl ?_; simp; done))
local macro_rules | `(tactic| walk_at "al") => `(tactic| (refine' AllocO.mk ?k ?_; (case k => assumption); intro _ _ _ _))
local macro_rules | `(tactic| walk_at "up") => `(tactic| (refine' UpdO.mk ?k ?h ?m ?_; (case k => assumption); (case h => walk_at "ul"); (case m => walk_at "own"); intro _ _))
local macro_rules | `(tactic| walk_at "st") => `(tactic| first
  | ((with_reducible refine' r_var ?h ?_); (case h => walk_at "ga"))
  | (with_reducible refine' r_seq ?_) | (with_reducible refine' r_next ?_) | (with_reducible refine' r_asg ?_) | (with_reducible refine' r_drop ?_) | (with_reducible refine' r_ret ?_) | (with_reducible refine' r_retN ?_)
  | (with_reducible refine' r_ifs ?_) | (with_reducible refine' r_cont ?_) | (with_reducible refine' r_break ?_) | (with_reducible refine' r_c ?_) | (with_reducible refine' r_op ?_) | (with_reducible refine' r_un ?_)
  | (with_reducible refine' r_test ?_) | (with_reducible refine' r_tB ?_) | (with_reducible refine' r_not ?_) | (with_reducible refine' r_and ?_) | (with_reducible refine' r_or ?_) | (with_reducible refine' r_notV ?_)
  | (with_reducible refine' r_andV ?_) | (with_reducible refine' r_orV ?_) | (with_reducible refine' r_ifE ?_) | (with_reducible refine' r_bl ?_) | (with_reducible refine' r_nil ?_) | (with_reducible refine' r_cons ?_)
  | (with_reducible refine' r_tup ?_) | (with_reducible refine' r_lst ?_) | (with_reducible refine' r_cb ?_) | (with_reducible refine' r_call ?_) | ((with_reducible refine' r_name ?h ?_); (case h => walk_at "sa")) | (with_reducible refine' r_gnil ?_)
  | (with_reducible refine' r_gcons ?_) | (with_reducible refine' r_gsub ?_) | (with_reducible refine' r_par ?_) | (with_reducible refine' r_par2 ?_) | (with_reducible refine' r_I0 ?_) | (with_reducible refine' r_U ?_)
  | ((with_reducible refine' r_eq ?h ?_); (case h => rfl)) | ((with_reducible refine' r_ne ?h ?_); (case h => rfl))
  | ((with_reducible refine' r_ixL ?h ?a ?_); (case h => walk_at "sql"); (case a => rfl))
  | ((with_reducible refine' r_ixT ?h ?a ?_); (case h => walk_at "sqt"); (case a => rfl))
  | ((with_reducible refine' r_setL ?h ?a ?_); (case h => walk_at "hp"); (case a => rfl))
  | ((with_reducible refine' r_I ?c ?_); (case c => walk_at "side"))
  | (with_reducible refine' r_sl ?_) | (with_reducible refine' r_part ?_) | (with_reducible refine' r_nopart ?_) | (with_reducible refine' r_ii ?_)
  | ((with_reducible refine' r_slL ?h ?_); (case h => walk_at "sql"))
  | (with_reducible refine' r_bm ?_) | (with_reducible refine' r_bm0 ?_) | (with_reducible refine' r_int1 ?_) | (with_reducible refine' r_int1b ?_)
  | ((with_reducible refine' r_aug ?h ?_); (case h => walk_at "ga"))
  | ((with_reducible refine' r_cat ?a ?b ?z ?_); (case a => walk_at "hp"); (case b => walk_at "hp"); (case z => walk_at "siz"))
  | ((with_reducible refine' r_append ?a ?z ?_); (case a => walk_at "hp"); (case z => walk_at "siz"))
  | ((with_reducible refine' And.intro ?z ?_); (case z => first | walk_at "siz" | exact Or.inl ⟨rfl, _, by walk_at "sql"⟩))
  | ((with_reducible refine' r_gtup ?h ?l ?_); (case h => walk_at "sqt"); (case l => rfl))
  | (with_reducible refine' r_forL ?_) | (with_reducible refine' r_forE ?_) | (with_reducible refine' r_forR ?_) | ((with_reducible refine' r_forL2 ?h ?_); (case h => walk_at "sql")) | ((with_reducible refine' r_forE2 ?h ?_); (case h => walk_at "sql"))
  | (with_reducible refine' r_lcR ?_) | ((with_reducible refine' r_iteT ?h ?_); (case h => rfl)) | ((with_reducible refine' r_iteF ?h ?_); (case h => rfl))
  | (with_reducible refine' r_dnew ?_) | (with_reducible refine' r_vei ?_) | (with_reducible refine' r_ost ?_) | (with_reducible refine' r_mkV ?_) | (with_reducible refine' r_mkX ?_) | (with_reducible refine' r_xfld ?_)
  | ((with_reducible refine' MkG.mk ?o ?n ?k ?_); (case o => exact ErrOk.o (by assumption)); (case n => exact ErrOk.no (by assumption)); (case k => assumption); intro _ _ _ _)
  | ((with_reducible refine' AllocX.mk ?k ?_); (case k => assumption); intro _ _ _ _)
  | (with_reducible refine' r_chain ?_) | (with_reducible refine' r_lcS ?_) | (with_reducible refine' r_lcS2 ?_) | (with_reducible refine' r_lcL ?_) | (with_reducible refine' r_lcT ?_) | (with_reducible refine' r_lcI ?_) | (with_reducible refine' r_yes ?_)
  | (with_reducible refine' r_fld ?_) | (with_reducible refine' r_sfld ?_) | (with_reducible refine' r_meth ?_) | (with_reducible refine' r_make ?_) | (with_reducible refine' r_dget ?_) | (with_reducible refine' r_din ?_) | (with_reducible refine' r_dput ?_)
  | ((with_reducible refine' r_disp ?k ?_); (case k => assumption); intro _ _ _ _) | (with_reducible refine' r_pnil ?_) | (with_reducible refine' r_pcons ?_)
  | (walk_at "al") | (walk_at "up"))
local macro_rules | `(tactic| walk_at "go") => `(tactic| repeat walk_at "st")

def itemsD : Dt → List Dt
  | .tup l => l
  | _ => []
/-- a tree with another part at a path -/
def putP : Dt → List Nat → Dt → Dt
  | _, [], e => e
  | d, i :: p, e => .tup ((itemsD d).set i (putP (kidAt d i) p e))
theorem cut_drop (xs : List V) (i : Nat) : cutV xs (some (i : Int)) none = xs.drop i := by
  unfold cutV
  rw [HT.sIx_none, HT.sIx_nat]
  by_cases h : i ≤ xs.length
  · rw [Nat.min_eq_left h, List.take_of_length_le (by rw [List.length_drop]; exact Nat.le_refl _)]
  · rw [Nat.min_eq_right (by omega), List.drop_length, List.drop_of_length_le (by omega)]
    simp
theorem dt_set {K : PySem.W.Frag} {H : Hp} {u : V} {e : Dt} (h : DtAt K H u e) (pe : pureD e = true) : ∀ (l : List Dt) (us : List V) (i : Nat), DtAll K H us l → pureDs l = true → DtAll K H (us.set i u) (l.set i e) ∧ pureDs (l.set i e) = true
  | [], _, i, .nil, _ => ⟨.nil, rfl⟩
  | d :: l, _, i, .cons a t, hp => by
    obtain ⟨p1, p2⟩ := He.ba (show (pureD d && pureDs l) = true from hp)
    cases i with
    | zero =>
      refine ⟨.cons h t, ?_⟩
      show (pureD e && pureDs l) = true
      rw [pe, p2] <;> rfl
    | succ i =>
      obtain ⟨i1, i2⟩ := dt_set h pe l _ i t p2
      refine ⟨.cons a i1, ?_⟩
      show (pureD d && pureDs (l.set i e)) = true
      rw [p1, i2] <;> rfl
section
variable {P : Program} {w : World} {K : PySem.W.Frag} {mg : Str → Option Value} {base : Heap} {f : Addr} {fd : FuncData}
def spLWith (K : PySem.W.Frag) : Sp := fun vs H Q _ => ∃ v d pa p u e, vs = [v, .ref pa, u] ∧ DtAt K H v d ∧ pureD d = true ∧ H pa = some (.tup (p.map fun (n : Nat) => V.int n)) ∧ InP d p ∧ p.length ≤ 64 ∧ DtAt K H u e ∧ pureD e = true ∧ ∀ (x : V) (H' : Hp), Wc.Ext H H' → DtAt K H' x (putP d p e) → pureD (putP d p e) = true → Q x H'
theorem ok_with (F : FnP K "_law_with" s_l_with f fd) (T : Bt mg) (D_l_at : DfOk P w K mg base CX0 1 "_law_at" ["_law_text", "_law_path"] (spLAt K)) : FnOk P w K mg base CX0 2 f fd ["_law_text", "_law_path", "_law_part"] (spLWith K) := by
  refine F.ok sc_l_with (fun vs H Q E h => ?_) (fun cdv A outer s H vs Q E hr h => ?_)
  · obtain ⟨v, d, pa, p, u, e, rfl, _⟩ := h
    rfl
  · refine ⟨_, PSs.nox (pss_cons (ps_for PassesOwn.never rfl (pi_range1 (by rfl) T.f_range (pa_cons (pe_callB call_len_seq (by rfl) T.f_len PySem.boot_len (pa_cons (pv 1) pa_nil)) pa_nil)) (pg_name (i := 3) sc_l_with.nd rfl (by first | exact Or.inl rfl | exact Or.inr rfl)) (pss_cons (ps_set (i := 4) sc_l_with.nd rfl (by first | exact Or.inl rfl | exact Or.inr rfl) (pe_callD D_l_at hr (pa_cons (pv 0) (pa_cons (pe_slice sl_tupA (pv 1) po_none (po_some (pe_op op_sub (pe_op op_sub (pe_callB call_len_seq (by rfl) T.f_len PySem.boot_len (pa_cons (pv 1) pa_nil)) pe_int) (pv 3)))) pa_nil))))
      (pss_cons (ps_set (i := 5) sc_l_with.nd rfl (by first | exact Or.inl rfl | exact Or.inr rfl) (pe_ix ix_tup (pv 1) (pe_op op_sub (pe_op op_sub (pe_callB call_len_seq (by rfl) T.f_len PySem.boot_len (pa_cons (pv 1) pa_nil)) pe_int) (pv 3)) (fun _ _ => rfl)))
      (pss_one (ps_set (i := 2) sc_l_with.nd rfl (by first | exact Or.inl rfl | exact Or.inr rfl) (pe_op op_catA (pe_op op_catA (pe_slice sl_tupA (pv 4) po_none (po_some (pv 5))) (pe_tup (pa_cons (pv 2) pa_nil))) (pe_slice sl_tupA (pv 4) (po_some (pe_op op_add (pv 5) pe_int)) po_none)))))))
      (pss_one (ps_ret (pv 2)))), ?_⟩
    obtain ⟨v, d, pa, p, u, e, rfl, dv, pd, hpa, inp, pl, du, pu, k⟩ := h
    rw [show L2.start ["_law_text", "_law_path", "_law_part", "_law_k", "_law_outer", "_law_spot"] [v, V.ref pa, u] = ([some (v), some (V.ref pa), some (u), none, none, none] : List (Option V)) from rfl]
    have kh := KH.start (H := H)
    walk_at "go"
    refine ⟨pa, _, rfl, .inr (SqT.of hpa), ?_⟩
    rw [List.length_map]
    refine ⟨_, rfl, by omega, by omega, ?_⟩
    refine ForR.mk (n := ((p.length : Nat) : Int).toNat) (fun i σ Hi => (∃ x v3 v4 v5, σ = [some v, some (.ref pa), some x, v3, v4, v5] ∧ DtAt K Hi x (putP (atP d (p.take (p.length - i))) (p.drop (p.length - i)) e) ∧ pureD (putP (atP d (p.take (p.length - i))) (p.drop (p.length - i)) e) = true) ∧ Wc.Ext H Hi)
      ⟨⟨u, none, none, none, rfl, by rw [Nat.sub_zero, List.drop_length]; exact du, by rw [Nat.sub_zero, List.drop_length]; exact pu⟩, Wc.Ext.refl _⟩ ?_ ?_
    · rintro i σ Hi hi ⟨⟨x, v3, v4, v5, rfl, dx, px⟩, ei⟩
      have hip : i < p.length := by omega
      obtain ⟨j, hj⟩ : ∃ j, p.length = j + i + 1 := ⟨p.length - 1 - i, by omega⟩
      obtain ⟨pj, hpj⟩ : ∃ pj, p[j]? = some pj := ⟨_, List.getElem?_eq_getElem (by omega)⟩
      have esp : p = p.take j ++ (pj :: p.drop (j + 1)) := by
        obtain ⟨h1, h2⟩ := List.getElem?_eq_some_iff.mp hpj
        rw [← h2, ← List.drop_eq_getElem_cons h1, List.take_append_drop]
      have edr : p.drop j = pj :: p.drop (j + 1) := by
        obtain ⟨h1, h2⟩ := List.getElem?_eq_some_iff.mp hpj
        rw [← h2, ← List.drop_eq_getElem_cons h1]
      have inj : InP d (p.take j) := by
        rw [esp] at inp
        exact inp.pre
      have inq : InP (atP d (p.take j)) (pj :: p.drop (j + 1)) := by
        rw [esp] at inp
        exact inp.post
      obtain ⟨⟨l, hl, hpl⟩, _⟩ := inq
      rw [show p.length - i = j + 1 by omega] at dx px
      have hpi := ei _ _ hpa
      have ki := KH.start (H := Hi)
      walk_at "go"
      refine ⟨pa, _, rfl, .inr (SqT.of hpi), ?_⟩
      walk_at "go"
      refine r_slA hpi fun q H2 e2 hq => ?_
      have ex : ((p.map fun (n : Nat) => V.int n).length : Int) - 1 - (0 + (i : Int)) = ((j : Nat) : Int) := by
        rw [List.length_map]
        omega
      rw [ex, cut_take, ← List.map_take] at hq
      walk_at "go"
      refine ⟨v, d, q, p.take j, rfl, dtMo (ei.mo.trans e2.mo) _ _ pd dv, pd, hq, inj, fun o H3 e3 doo po => ?_⟩
      have ei3 := e2.trans e3
      have k3 := KH.start (H := H3)
      walk_at "go"
      refine ⟨pa, _, rfl, .inr (SqT.of (ei3 _ _ hpi)), ?_⟩
      walk_at "go"
      rw [ex]
      refine r_ixT (SqT.of (ei3 _ _ hpi)) (atI_nat (v := .int (pj : Nat)) (by rw [List.getElem?_map, hpj] <;> rfl)) ?_
      rw [hl] at doo po
      cases doo with
      | @tup a us _ ha hal tt =>
      have ulen := tt.length
      have ple := (He.ba (show (decide (l.length ≤ 1000) && pureDs l) = true from po)).2
      walk_at "go"
      refine r_slA ha fun s1 H4 e4 hs1 => ?_
      rw [cut_take] at hs1
      have k4 := KH.start (H := H4)
      walk_at "go"
      rename_i t5 H5 n5 k5
      have e5 := k5.extE
      refine r_catG (e5 _ _ hs1) (by have z := KH.find (p := t5) k5 (by walk_at "lk"); exact z) (sz_of (by rw [List.length_take]; simp; omega)) fun c6 H6 e6 hc6 => ?_
      walk_at "go"
      refine r_slA (e6 _ _ (e5 _ _ (e4 _ _ ha))) fun s7 H7 e7 hs7 => ?_
      rw [show ((pj : Nat) : Int) + 1 = ((pj + 1 : Nat) : Int) by omega, cut_drop] at hs7
      refine r_catG (e7 _ _ hc6) hs7 (sz_of (by rw [List.length_append, List.length_take, List.length_drop]; simp; omega)) fun c8 H8 e8 hc8 => ?_
      walk_at "go"
      have e38 : Wc.Ext H3 H8 := e4.trans (e5.trans (e6.trans (e7.trans e8)))
      have ei8 := ei3.trans e38
      have kid : putP (atP d (p.take (p.length - (i + 1)))) (p.drop (p.length - (i + 1))) e = .tup (l.set pj (putP (atP d (p.take (j + 1))) (p.drop (j + 1)) e)) := by
        rw [show p.length - (i + 1) = j by omega, edr, hl]
        show Dt.tup (l.set pj (putP (kidAt (.tup l) pj) (p.drop (j + 1)) e)) = _
        rw [List.take_succ, hpj]
        show _ = Dt.tup (l.set pj (putP (atP d (p.take j ++ [pj])) _ e))
        rw [atP_app, hl] <;> rfl
      obtain ⟨s1', s2'⟩ := dt_set (dtMo ei8.mo _ _ px dx) px l us pj (dtMoA e38.mo _ _ ple tt) ple
      have hset : us.take pj ++ [x] ++ us.drop (pj + 1) = us.set pj x := by
        rw [List.set_eq_take_append_cons_drop, if_pos (by omega)]
        simp
      rw [hset] at hc8
      refine ⟨⟨.ref c8, _, _, _, rfl, ?_, ?_⟩, ei.trans ei8⟩
      · rw [kid]
        exact .tup hc8 (by rw [List.length_set]; exact hal) s1'
      · rw [kid]
        show (decide ((l.set pj _).length ≤ 1000) && pureDs (l.set pj _)) = true
        rw [s2', decide_eq_true (by rw [List.length_set]; omega)] <;> rfl
    · rintro σ Hi ⟨⟨x, v3, v4, v5, rfl, dx, px⟩, ei⟩
      rw [show p.length - ((p.length : Nat) : Int).toNat = 0 by omega] at dx px
      walk_at "go"
      exact k x Hi ei dx px
end
end K10


set_option Elab.async false
set_option linter.all false
set_option maxRecDepth 100000
set_option maxHeartbeats 4000000
namespace K10
open PySem PySem.Spec PyProof.Rows L2 Wc
theorem getD_set_ne {L : List Dt} {i j : Nat} {e : Dt} (h : j ≠ i) : (L.set i e).getD j .oth = L.getD j .oth := by
  rw [List.getD_eq_getElem?_getD, List.getD_eq_getElem?_getD, List.getElem?_set_ne (Ne.symm h)]
theorem getD_set_eq {L : List Dt} {i : Nat} {e : Dt} (h : i < L.length) : (L.set i e).getD i .oth = e := by
  rw [List.getD_eq_getElem?_getD, List.getElem?_set_self h] <;> rfl
theorem with_cases {w : Str} {i : Nat} (h : i ∈ (assocV WITH w).getD []) : (w = "let" ∧ (i = 2 ∨ i = 3)) ∨ (w = "field" ∧ i = 1) ∨ (w = "add" ∧ (i = 1 ∨ i = 2)) ∨ (w = "less" ∧ (i = 1 ∨ i = 2)) ∨ (w = "is" ∧ i = 1) ∨ (w = "if" ∧ (i = 1 ∨ i = 2 ∨ i = 3)) ∨ (w = "define" ∧ i = 3) := by
  by_cases h1 : w = "let"
  · subst h1
    rw [show (assocV WITH "let").getD [] = [2, 3] by decide +kernel] at h
    exact .inl ⟨rfl, by simpa using h⟩
  by_cases h2 : w = "field"
  · subst h2
    rw [show (assocV WITH "field").getD [] = [1] by decide +kernel] at h
    exact .inr (.inl ⟨rfl, by simpa using h⟩)
  by_cases h3 : w = "add"
  · subst h3
    rw [show (assocV WITH "add").getD [] = [1, 2] by decide +kernel] at h
    exact .inr (.inr (.inl ⟨rfl, by simpa using h⟩))
  by_cases h4 : w = "less"
  · subst h4
    rw [show (assocV WITH "less").getD [] = [1, 2] by decide +kernel] at h
    exact .inr (.inr (.inr (.inl ⟨rfl, by simpa using h⟩)))
  by_cases h5 : w = "is"
  · subst h5
    rw [show (assocV WITH "is").getD [] = [1] by decide +kernel] at h
    exact .inr (.inr (.inr (.inr (.inl ⟨rfl, by simpa using h⟩))))
  by_cases h6 : w = "if"
  · subst h6
    rw [show (assocV WITH "if").getD [] = [1, 2, 3] by decide +kernel] at h
    exact .inr (.inr (.inr (.inr (.inr (.inl ⟨rfl, by simpa using h⟩)))))
  by_cases h7 : w = "define"
  · subst h7
    rw [show (assocV WITH "define").getD [] = [3] by decide +kernel] at h
    exact .inr (.inr (.inr (.inr (.inr (.inr ⟨rfl, by simpa using h⟩)))))
  have e : assocV WITH w = none := by
    unfold assocV WITH
    simp [List.find?_cons, Ne.symm h1, Ne.symm h2, Ne.symm h3, Ne.symm h4, Ne.symm h5, Ne.symm h6, Ne.symm h7]
  rw [e] at h
  cases h
theorem form_set {T : List Cl} {p : Pl} {w : Str} {L : List Dt} {i : Nat} {e : Dt} (hi : i ∈ withinI w L.length) (h0 : 0 < L.length) : formB T p w (L.set i e) = formB T p w L := by
  unfold withinI at hi
  by_cases hc : isCallW w = true ∨ w = "new"
  · rw [if_pos hc] at hi
    obtain ⟨k, hk, rfl⟩ := List.mem_map.mp hi
    have g1 : (L.set (k + 2) e).getD 1 .oth = L.getD 1 .oth := getD_set_ne (by omega)
    have gl : (L.set (k + 2) e).length = L.length := List.length_set
    have z : (assocV LENS w).getD 0 = 0 := by
      rcases hc with hc | hc
      · unfold isCallW at hc
        simp at hc
        rcases hc with rfl | rfl <;> decide +kernel
      · subst hc
        decide +kernel
    unfold formB callB newB
    rw [g1, gl, z, decide_eq_false (show ¬ 0 = L.length by omega)]
    rfl
  · rw [if_neg hc] at hi
    have c1 : isCallW w = false := Bool.eq_false_iff.mpr fun x => hc (.inl x)
    have c2 : w ≠ "new" := fun x => hc (.inr x)
    rw [formB_of c1 c2, formB_of c1 c2, List.length_set]
    congr 1
    rcases with_cases hi with ⟨rfl, q⟩ | ⟨rfl, q⟩ | ⟨rfl, q⟩ | ⟨rfl, q⟩ | ⟨rfl, q⟩ | ⟨rfl, q⟩ | ⟨rfl, q⟩
    · rw [if_neg w_let.2.2.2, if_neg w_let.2.2.2, if_pos rfl, if_pos rfl, getD_set_ne (by omega)]
    · rw [if_neg w_field.2.2.2.1, if_neg w_field.2.2.2.1, if_neg w_field.2.2.2.2, if_neg w_field.2.2.2.2, if_pos rfl, if_pos rfl, getD_set_ne (by omega)]
    · obtain ⟨_, _, _, x4, x5, x6, x7, x8⟩ := w_add
      rw [if_neg x4, if_neg x4, if_neg x5, if_neg x5, if_neg x6, if_neg x6, if_neg x7, if_neg x7, decide_eq_false x8] <;> rfl
    · obtain ⟨_, _, _, x4, x5, x6, x7, x8⟩ := w_less
      rw [if_neg x4, if_neg x4, if_neg x5, if_neg x5, if_neg x6, if_neg x6, if_neg x7, if_neg x7, decide_eq_false x8] <;> rfl
    · obtain ⟨_, _, _, x4, x5, x6⟩ := w_is
      rw [if_neg x4, if_neg x4, if_neg x5, if_neg x5, if_neg x6, if_neg x6, if_pos rfl, if_pos rfl, getD_set_ne (by omega)]
    · obtain ⟨_, _, _, x4, x5, x6, x7, x8⟩ := w_if
      rw [if_neg x4, if_neg x4, if_neg x5, if_neg x5, if_neg x6, if_neg x6, if_neg x7, if_neg x7, decide_eq_false x8] <;> rfl
    · obtain ⟨_, _, _, x4, x5, x6, x7⟩ := w_define
      rw [if_neg x4, if_neg x4, if_neg x5, if_neg x5, if_neg x6, if_neg x6, if_neg x7, if_neg x7, getD_set_ne (by omega), getD_set_ne (by omega)]
end K10


set_option Elab.async false
set_option linter.all false
set_option maxRecDepth 100000
set_option maxHeartbeats 4000000
namespace K10
open PySem PySem.Spec PyProof.Rows L2 Wc
theorem within_pos {w : Str} {n i : Nat} (h : i ∈ withinI w n) : 1 ≤ i ∧ w ≠ "name" ∧ w ≠ "arg" := by
  unfold withinI at h
  by_cases hc : isCallW w = true ∨ w = "new"
  · rw [if_pos hc] at h
    obtain ⟨k, hk, rfl⟩ := List.mem_map.mp h
    refine ⟨by omega, fun e => ?_, fun e => ?_⟩
    · subst e
      revert hc
      decide +kernel
    · subst e
      revert hc
      decide +kernel
  · rw [if_neg hc] at h
    rcases with_cases h with ⟨rfl, q⟩ | ⟨rfl, q⟩ | ⟨rfl, q⟩ | ⟨rfl, q⟩ | ⟨rfl, q⟩ | ⟨rfl, q⟩ | ⟨rfl, q⟩ <;> exact ⟨by omega, by decide +kernel, by decide +kernel⟩
theorem set_head {w : Str} {l : List Dt} {i : Nat} {e : Dt} (h : 1 ≤ i) : (Dt.str w :: l).set i e = Dt.str w :: l.set (i - 1) e := by
  cases i with
  | zero => omega
  | succ i => rfl
section
variable {T : List Cl} {w : Str} {l : List Dt} {i : Nat} {e : Dt}
theorem node_form_set (h : formOk T (.tup (.str w :: l))) (hi : i ∈ withinI w (l.length + 1)) : formOk T (.tup ((Dt.str w :: l).set i e)) ∧ ∀ q, badD (.tup ((Dt.str w :: l).set i e)) q = false := by
  obtain ⟨p1, p2, p3⟩ := within_pos hi
  have hb : ∀ q, badD (.tup ((Dt.str w :: l).set i e)) q = false := fun q => by
    rw [set_head p1]
    exact bad_else p2 p3
  refine ⟨fun p c ns => ?_, hb⟩
  rw [hb]
  have h1 := h p c ns
  rw [bad_else p2 p3] at h1
  have h1 : formB T ⟨.tup (.str w :: l), p, c, ns⟩ w (.str w :: l) = true := h1
  have h2 := form_set (T := T) (p := ⟨.tup (.str w :: l), p, c, ns⟩) (w := w) (L := .str w :: l) (i := i) (e := e) hi (by simp)
  rw [h1] at h2
  rw [set_head p1] at h2 ⊢
  exact h2
theorem kid_lt (h : formOk T (.tup (.str w :: l))) (hi : i ∈ withinI w (l.length + 1)) : i < (Dt.str w :: l).length := by
  obtain ⟨p1, p2, p3⟩ := within_pos hi
  have h1 := h [] 0 []
  rw [bad_else p2 p3] at h1
  exact within_lt (show formB T _ w (.str w :: l) = true from h1) i hi
theorem step_set {j : Nat} {q : Nat × List Str} (hi : i ∈ withinI w (l.length + 1)) : stepC (.tup ((Dt.str w :: l).set i e)) j q = stepC (.tup (.str w :: l)) j q := by
  obtain ⟨p1, _, _⟩ := within_pos hi
  have hs := set_head (w := w) (l := l) (e := e) p1
  by_cases hd : w = "define"
  · subst hd
    have h3 : i = 3 := by
      unfold withinI at hi
      rw [if_neg (by decide +kernel), show (assocV WITH "define").getD [] = [3] by decide +kernel] at hi
      simpa using hi
    have g : (Dt.str "define" :: l.set (i - 1) e).getD 2 .oth = (Dt.str "define" :: l).getD 2 .oth := by
      rw [← hs]
      exact getD_set_ne (by omega)
    rw [hs]
    show ((if ("define" : Str) = "define" then (match (Dt.str "define" :: l.set (i - 1) e).getD 2 .oth with | .tup s => s.length | _ => 0) else q.1, if ("define" : Str) = "define" then [] else _) : Nat × List Str) = (if ("define" : Str) = "define" then (match (Dt.str "define" :: l).getD 2 .oth with | .tup s => s.length | _ => 0) else q.1, if ("define" : Str) = "define" then [] else _)
    rw [g, if_pos rfl, if_pos rfl, if_pos rfl]
  · by_cases hl : w = "let"
    · subst hl
      have h3 : i = 2 ∨ i = 3 := by
        unfold withinI at hi
        rw [if_neg (by decide +kernel), show (assocV WITH "let").getD [] = [2, 3] by decide +kernel] at hi
        simpa using hi
      have g : (Dt.str "let" :: l.set (i - 1) e).getD 1 .oth = (Dt.str "let" :: l).getD 1 .oth := by
        rw [← hs]
        exact getD_set_ne (by omega)
      rw [hs]
      show ((if ("let" : Str) = "define" then _ else q.1, if ("let" : Str) = "define" then [] else if ("let" : Str) = "let" ∧ j = 3 then q.2 ++ [strD ((Dt.str "let" :: l.set (i - 1) e).getD 1 .oth)] else q.2) : Nat × List Str) = (if ("let" : Str) = "define" then _ else q.1, if ("let" : Str) = "define" then [] else if ("let" : Str) = "let" ∧ j = 3 then q.2 ++ [strD ((Dt.str "let" :: l).getD 1 .oth)] else q.2)
      rw [g, if_neg hd, if_neg hd, if_neg hd]
    · rw [hs, step_plain hd hl, step_plain hd hl]
theorem kids_set {x : Nat × Dt} (hlt : i < (Dt.str w :: l).length) (h1 : 1 ≤ i) (hx : x ∈ kids (.tup ((Dt.str w :: l).set i e))) : (x.1 = i ∧ x.2 = e) ∨ x ∈ kids (.tup (.str w :: l)) := by
  rw [set_head h1] at hx
  obtain ⟨j, hj, rfl⟩ := List.mem_map.mp (show x ∈ (withinI w ((l.set (i - 1) e).length + 1)).map (fun j => (j, (Dt.str w :: l.set (i - 1) e).getD j .oth)) from hx)
  rw [List.length_set] at hj
  rw [← set_head h1]
  by_cases he : j = i
  · subst he
    exact .inl ⟨rfl, getD_set_eq hlt⟩
  · refine .inr (List.mem_map.mpr ⟨j, hj, ?_⟩)
    show (j, (Dt.str w :: l).getD j .oth) = (j, ((Dt.str w :: l).set i e).getD j .oth)
    rw [getD_set_ne he]
end
theorem Fs.node {T : List Cl} {d : Dt} (h : formOk T d) (hk : ∀ x, x ∈ kids d → Fs T x.2) : Fs T d := fun p hp => by
  cases p with
  | nil => exact h
  | cons i p =>
    obtain ⟨x, hx, rfl, hp2⟩ := paths_cons.mp hp
    show formOk T (atP (kidAt d x.1) p)
    rw [kids_at hx]
    exact hk x hx p hp2
theorem Fs.kid {T : List Cl} {d : Dt} (h : Fs T d) {x : Nat × Dt} (hx : x ∈ kids d) : Fs T x.2 := fun p hp => by
  have := h (x.1 :: p) (paths_cons.mpr ⟨x, hx, rfl, hp⟩)
  show formOk T (atP x.2 p)
  rw [← kids_at hx]
  exact this
theorem okc_kid {d : Dt} {q : Nat × List Str} (h : Okc q d) {x : Nat × Dt} (hx : x ∈ kids d) : Okc (stepC d x.1 q) x.2 := fun p hp => by
  have := h (x.1 :: p) (paths_cons.mpr ⟨x, hx, rfl, hp⟩)
  have e : badD (atP (kidAt d x.1) p) (scopeP (kidAt d x.1) p (stepC d x.1 q)) = false := this
  rw [kids_at hx] at e
  exact e
theorem kid_index {w : Str} {l : List Dt} {x : Nat × Dt} (hx : x ∈ kids (.tup (.str w :: l))) : x.1 ∈ withinI w (l.length + 1) := by
  obtain ⟨j, hj, rfl⟩ := List.mem_map.mp (show x ∈ (withinI w (l.length + 1)).map _ from hx)
  exact hj
/-- the forms stay valid -/
theorem put_fs {T : List Cl} {e : Dt} (he : Fs T e) : ∀ (p : List Nat) (d : Dt), p ∈ paths d → Fs T d → Fs T (putP d p e)
  | [], d, _, _ => he
  | i :: p, d, hp, hf => by
    obtain ⟨x, hx, rfl, hp2⟩ := paths_cons.mp hp
    obtain ⟨w, l, rfl⟩ := form_word (hf [] (paths_nil d))
    have f0 : formOk T (.tup (.str w :: l)) := hf [] (paths_nil _)
    have hi := kid_index hx
    have ih := put_fs he p x.2 hp2 (hf.kid hx)
    show Fs T (.tup ((Dt.str w :: l).set x.1 (putP (kidAt (.tup (.str w :: l)) x.1) p e)))
    rw [kids_at hx]
    refine Fs.node (node_form_set f0 hi).1 fun y hy => ?_
    rcases kids_set (kid_lt f0 hi) (within_pos hi).1 hy with ⟨_, h2⟩ | h2
    · rw [h2]
      exact ih
    · exact hf.kid h2
theorem step_one {T : List Cl} {w : Str} {l : List Dt} {i : Nat} {q : Nat × List Str} (h : formOk T (.tup (.str w :: l))) (hq : 1 ≤ q.1) : 1 ≤ (stepC (.tup (.str w :: l)) i q).1 := by
  by_cases hd : w = "define"
  · subst hd
    obtain ⟨a, s, r, rfl⟩ := form_defX h
    rw [step_def]
    have h1 := h [] 0 []
    rw [bad_else (by decide +kernel) (by decide +kernel)] at h1
    have h1 : validB T ⟨.tup (.str "define" :: a :: .tup s :: r), [], 0, []⟩ = true := h1
    have h1 : formB T _ "define" (.str "define" :: a :: .tup s :: r) = true := h1
    obtain ⟨g1, g2, g3, g4, g5, g6, g7⟩ := w_define
    rw [formB_of g1 g2, g3, if_neg g4, if_neg g5, if_neg g6, if_neg g7, decide_eq_true rfl] at h1
    have h2 := (He.ba h1).2
    have h3 : (nameD a && sigD T (.tup s)) = true := by simpa using h2
    have h4 := (He.ba (show ((decide (s.length = 1) || decide (s.length = 2)) && s.all (clsD T)) = true from (He.ba h3).2)).1
    show 1 ≤ s.length
    simp at h4
    omega
  · by_cases hl : w = "let"
    · subst hl
      obtain ⟨x, r, rfl⟩ := form_letX h
      rw [step_let]
      split
      · exact hq
      · exact hq
    · rw [step_plain hd hl]
      exact hq
/-- all names and arguments stay there -/
theorem put_okc {T : List Cl} {e : Dt} (he : ∀ q : Nat × List Str, 1 ≤ q.1 → Okc q e) : ∀ (p : List Nat) (d : Dt) (q : Nat × List Str), p ∈ paths d → Fs T d → Okc q d → 1 ≤ q.1 → Okc q (putP d p e)
  | [], d, q, _, _, _, hq => he q hq
  | i :: p, d, q, hp, hf, hc, hq => by
    obtain ⟨x, hx, rfl, hp2⟩ := paths_cons.mp hp
    obtain ⟨w, l, rfl⟩ := form_word (hf [] (paths_nil d))
    have f0 : formOk T (.tup (.str w :: l)) := hf [] (paths_nil _)
    have hi := kid_index hx
    have ih := put_okc (T := T) he p x.2 (stepC (.tup (.str w :: l)) x.1 q) hp2 (hf.kid hx) (okc_kid hc hx) (step_one f0 hq)
    show Okc q (.tup ((Dt.str w :: l).set x.1 (putP (kidAt (.tup (.str w :: l)) x.1) p e)))
    rw [kids_at hx]
    refine okc_node ((node_form_set f0 hi).2 q) fun y hy => ?_
    rw [step_set hi]
    rcases kids_set (kid_lt f0 hi) (within_pos hi).1 hy with ⟨h1, h2⟩ | h2
    · rw [h1, h2]
      exact ih
    · exact okc_kid hc h2
/-! ### where fewer names are, all else stays -/
def Les (q r : Nat × List Str) : Prop := q.1 ≤ r.1 ∧ ∀ x, x ∈ q.2 → x ∈ r.2
theorem bad_two {w : Str} {y : Dt} {z : Nat × List Str} : badD (.tup [.str w, y]) z = (if w = "name" then !z.2.contains (strD y) else if w = "arg" then (match y with | .int i => !decide (i < (z.1 : Int)) | _ => false) else false) := rfl
theorem bad_mono {d : Dt} {q r : Nat × List Str} (h : Les q r) (b : badD d q = false) : badD d r = false := by
  have main : ∀ (w : Str) (y : Dt), badD (.tup [.str w, y]) q = false → badD (.tup [.str w, y]) r = false := fun w y b => by
    rw [bad_two] at b ⊢
    by_cases h1 : w = "name"
    · rw [if_pos h1] at b ⊢
      simp at b ⊢
      exact h.2 _ b
    · rw [if_neg h1] at b ⊢
      by_cases h2 : w = "arg"
      · rw [if_pos h2] at b ⊢
        cases y with
        | int i =>
          simp at b ⊢
          have := h.1
          omega
        | _ => rfl
      · rw [if_neg h2]
  cases d with
  | tup l =>
    match l, b with
    | [], _ => rfl
    | [a], _ => cases a <;> rfl
    | [a, y], b =>
      cases a with
      | str w => exact main w y b
      | _ => rfl
    | a :: b :: c :: l, _ => cases a <;> rfl
  | _ => rfl
theorem step_mono {d : Dt} {i : Nat} {q r : Nat × List Str} (h : Les q r) : Les (stepC d i q) (stepC d i r) := by
  cases d with
  | tup l =>
    cases l with
    | nil => exact h
    | cons a l =>
      cases a with
      | str w =>
        refine ⟨?_, ?_⟩
        · show (if w = "define" then _ else q.1) ≤ (if w = "define" then _ else r.1)
          split
          · exact Nat.le_refl _
          · exact h.1
        · show ∀ x, x ∈ (if w = "define" then [] else if w = "let" ∧ i = 3 then q.2 ++ [strD ((Dt.str w :: l).getD 1 .oth)] else q.2) → x ∈ (if w = "define" then [] else if w = "let" ∧ i = 3 then r.2 ++ [strD ((Dt.str w :: l).getD 1 .oth)] else r.2)
          intro x hx
          by_cases h1 : w = "define"
          · rw [if_pos h1] at hx
            cases hx
          · rw [if_neg h1] at hx ⊢
            by_cases h2 : w = "let" ∧ i = 3
            · rw [if_pos h2] at hx ⊢
              rcases List.mem_append.mp hx with hx | hx
              · exact List.mem_append_left _ (h.2 x hx)
              · exact List.mem_append_right _ hx
            · rw [if_neg h2] at hx ⊢
              exact h.2 x hx
      | _ => exact h
  | _ => exact h
theorem scope_mono : ∀ (p : List Nat) {d : Dt} {q r : Nat × List Str}, Les q r → Les (scopeP d p q) (scopeP d p r)
  | [], _, _, _, h => h
  | i :: p, _, _, _, h => scope_mono p (step_mono h)
theorem okc_mono {d : Dt} {q r : Nat × List Str} (h : Les q r) (o : Okc q d) : Okc r d := fun p hp => bad_mono (scope_mono p h) (o p hp)
theorem none_okc {d : Dt} {wd : Nat} : firstBad d wd = none ↔ Okc (wd, []) d := by
  unfold firstBad Okc
  rw [List.find?_eq_none]
  constructor
  · intro h p hp
    exact Bool.eq_false_iff.mpr (h p hp)
  · intro h p hp
    rw [h p hp]
    exact Bool.false_ne_true
end K10


set_option Elab.async false
set_option linter.all false
set_option maxRecDepth 100000
set_option maxHeartbeats 4000000
namespace K10
open PySem PySem.Spec PyProof.Rows L2 Wc
theorem deps_set {e : Dt} {k : Nat} (he : dep e ≤ k) : ∀ (l : List Dt) (i : Nat), deps l ≤ k → deps (l.set i e) ≤ k
  | [], _, h => h
  | d :: l, i, h => by
    have h : max (dep d) (deps l) ≤ k := h
    cases i with
    | zero =>
      show max (dep e) (deps l) ≤ k
      omega
    | succ i =>
      have := deps_set he l i (by omega)
      show max (dep d) (deps (l.set i e)) ≤ k
      omega
theorem put_dep {e : Dt} : ∀ (p : List Nat) (d : Dt), p ∈ paths d → dep (putP d p e) ≤ dep d + dep e
  | [], d, _ => by
    show dep e ≤ _
    omega
  | i :: p, d, hp => by
    obtain ⟨x, hx, rfl, hp2⟩ := paths_cons.mp hp
    have ih := put_dep (e := e) p x.2 hp2
    have hk := kids_dep hx
    show dep (.tup ((itemsD d).set x.1 (putP (kidAt d x.1) p e))) ≤ _
    rw [kids_at hx]
    cases d with
    | tup l =>
      have hl : deps l + 1 = dep (.tup l) := rfl
      have := deps_set (e := putP x.2 p e) (k := dep (.tup l) - 1 + dep e) (by omega) l x.1 (by omega)
      show deps (l.set x.1 _) + 1 ≤ _
      omega
    | _ => cases hx
theorem within_nodup (w : Str) (n : Nat) : (withinI w n).Nodup := by
  unfold withinI
  split
  · have e : (List.range (n - 2)).map (· + 2) = List.range' 2 (n - 2) := by
      rw [List.range'_eq_map_range]
      exact List.map_congr_left fun i _ => Nat.add_comm _ _
    rw [e]
    exact List.nodup_range'
  · have hW : ∀ x, x ∈ WITH → x.2.Nodup := by decide +kernel
    unfold assocV
    cases h : WITH.find? fun p => decide (p.1 = w) with
    | none => exact List.nodup_nil
    | some x => exact hW x (List.mem_of_find?_eq_some h)
theorem flat_set {α : Type} (f g : Nat → List α) (i : Nat) : ∀ l : List Nat, l.Nodup → (∀ j, j ≠ i → g j = f j) → (l.flatMap g).length ≤ (l.flatMap f).length + (g i).length
  | [], _, _ => Nat.zero_le _
  | a :: l, hn, hg => by
    rw [List.nodup_cons] at hn
    rw [List.flatMap_cons, List.flatMap_cons, List.length_append, List.length_append]
    by_cases h : a = i
    · have e : l.flatMap g = l.flatMap f := flatMap_congrW fun j hj => hg j fun e => hn.1 (by rw [h, ← e]; exact hj)
      rw [e, h]
      omega
    · have ih := flat_set f g i l hn.2 hg
      rw [hg a h]
      omega
theorem paths_word {w : Str} {l : List Dt} : paths (.tup (.str w :: l)) = [] :: (withinI w (l.length + 1)).flatMap fun j => (paths ((Dt.str w :: l).getD j .oth)).map (j :: ·) := by
  rw [paths_kids]
  congr 1
  show ((withinI w (l.length + 1)).map fun j => (j, (Dt.str w :: l).getD j .oth)).flatMap _ = _
  rw [List.flatMap_map]
theorem put_len {T : List Cl} {e : Dt} : ∀ (p : List Nat) (d : Dt), p ∈ paths d → Fs T d → (paths (putP d p e)).length ≤ (paths d).length * p.length + (paths e).length
  | [], d, _, _ => by
    show (paths e).length ≤ _
    omega
  | i :: p, d, hp, hf => by
    obtain ⟨x, hx, rfl, hp2⟩ := paths_cons.mp hp
    obtain ⟨w, l, rfl⟩ := form_word (hf [] (paths_nil d))
    have f0 : formOk T (.tup (.str w :: l)) := hf [] (paths_nil _)
    have hi := kid_index hx
    have ih := put_len (T := T) (e := e) p x.2 hp2 (hf.kid hx)
    have hs := set_head (w := w) (l := l) (e := putP x.2 p e) (within_pos hi).1
    have hlt := kid_lt f0 hi
    have h1 : (paths x.2).length ≤ (paths (.tup (.str w :: l))).length := by
      have := (sub_small (p := [x.1]) (d := .tup (.str w :: l)) (paths_cons.mpr ⟨x, hx, rfl, paths_nil _⟩)).1
      have e1 : atP (.tup (.str w :: l)) [x.1] = x.2 := kids_at hx
      rw [e1] at this
      exact this
    show (paths (.tup ((Dt.str w :: l).set x.1 (putP (kidAt (.tup (.str w :: l)) x.1) p e)))).length ≤ _
    rw [kids_at hx]
    have key : (paths (.tup ((Dt.str w :: l).set x.1 (putP x.2 p e)))).length ≤ (paths (.tup (.str w :: l))).length + (paths (putP x.2 p e)).length := by
      rw [hs, paths_word, paths_word, List.length_cons, List.length_cons, List.length_set, ← hs]
      have g := flat_set (fun j => (paths ((Dt.str w :: l).getD j .oth)).map (j :: ·)) (fun j => (paths (((Dt.str w :: l).set x.1 (putP x.2 p e)).getD j .oth)).map (j :: ·)) x.1 (withinI w (l.length + 1)) (within_nodup _ _) (fun j hj => by
        show (paths (((Dt.str w :: l).set x.1 (putP x.2 p e)).getD j .oth)).map (j :: ·) = _
        rw [getD_set_ne hj])
      rw [getD_set_eq hlt, List.length_map] at g
      omega
    have h2 := Nat.mul_le_mul_right p.length h1
    rw [List.length_cons, Nat.mul_succ]
    omega
/-- what the check of a body tells, of however many parts -/
theorem chk_all {T : List Cl} {d : Dt} {wd : Nat} (h : Fs T d) : chk T 24 [⟨d, [], wd, []⟩] = match (paths d).findIdx? (fun p => badD (atP d p) (scopeP d p (wd, []))) with | some j => if j < 24 then (paths d)[j]? else some [] | none => if (paths d).length ≤ 24 then none else some [] := by
  rw [chk_parts (dep d) (Nat.le_refl _)]
  unfold plsF
  have e := runL_find (T := T) (mkPl d [] (wd, [])) (fun p => badD (atP d p) (scopeP d p (wd, []))) (paths d) 24 fun p hp => h p hp _ _ _
  refine e.trans ?_
  cases q : (paths d).findIdx? (fun p => badD (atP d p) (scopeP d p (wd, []))) with
  | none => rfl
  | some j =>
    have hj := (List.findIdx?_eq_some_iff_getElem.mp q).1
    show (if j < 24 then ((paths d)[j]?.map fun p => (mkPl d [] (wd, []) p).path) else some []) = (if j < 24 then (paths d)[j]? else some [])
    rw [List.getElem?_eq_getElem hj]
    rfl
/-- the first bad path stands at the first bad index, and nowhere ahead -/
theorem bad_index {d : Dt} {wd : Nat} {p : List Nat} (h : firstBad d wd = some p) : ∃ j, (paths d).findIdx? (fun p => badD (atP d p) (scopeP d p (wd, []))) = some j ∧ (paths d)[j]? = some p ∧ ∀ i, i < j → (paths d)[i]? ≠ some p := by
  unfold firstBad at h
  rw [← fi_find] at h
  cases q : (paths d).findIdx? (fun p => badD (atP d p) (scopeP d p (wd, []))) with
  | none =>
    rw [q] at h
    cases h
  | some j =>
    rw [q] at h
    have h : (paths d)[j]? = some p := h
    obtain ⟨hj, hb, hn⟩ := List.findIdx?_eq_some_iff_getElem.mp q
    refine ⟨j, rfl, h, fun i hi e => ?_⟩
    obtain ⟨hi2, e2⟩ := List.getElem?_eq_some_iff.mp e
    obtain ⟨_, e3⟩ := List.getElem?_eq_some_iff.mp h
    have := hn i hi
    rw [e2] at this
    rw [e3] at hb
    exact this hb
end K10


set_option Elab.async false
set_option linter.all false
set_option maxRecDepth 100000
set_option maxHeartbeats 4000000
namespace K10
open PySem PySem.Spec PyProof.Rows L2 Wc
local macro_rules | `(tactic| walk_at "lk") => `(tactic| first | with_reducible exact Look.here | (with_reducible apply Look.there; walk_at "lk"))
local macro_rules | `(tactic| walk_at "ul") => `(tactic| first | with_reducible exact UpL.here | (with_reducible apply UpL.there; walk_at "ul"))
local macro_rules | `(tactic| walk_at "ga") => `(tactic| first | exact GetAt.here | (apply GetAt.there; walk_at "ga"))
local macro_rules | `(tactic| walk_at "sa") => `(tactic| first | exact SetAt.here | (apply SetAt.there; walk_at "sa"))
local macro_rules | `(tactic| walk_at "hp") => `(tactic| first | assumption | (refine' KH.find ?k ?h; (case k => assumption); (case h => walk_at "lk")))
local macro_rules | `(tactic| walk_at "sql") => `(tactic| first | assumption | (refine' SqL.of ?h; (case h => walk_at "hp")) | (refine' Fr.sql (KH.fr ?k) ?n ?h; (case k => assumption); (case h => assumption); (case n => (simp; done))))
local macro_rules | `(tactic| walk_at "sqt") => `(tactic| first | assumption | (refine' SqT.of ?h; (case h => walk_at "hp")))
local macro_rules | `(tactic| walk_at "side") => `(tactic| first | exact (show (0 : Int) < _ by decide) | exact (show (0 : Int) < _ by omega) | exact ⟨by decide, by decide, by decide⟩ | exact ⟨by decide, by decide, by omega⟩ | exact ⟨by decide, by decide⟩ | exact ⟨by omega, by omega⟩ | exact Or.inl ⟨by omega, by omega⟩ | exact Or.inr ⟨by omega, by omega⟩)
local macro_rules | `(tactic| walk_at "siz") => `(tactic| first | (refine sz_of ?_; first | decide | omega | (simp; done) | (simp; omega)) | (refine sz_lt ?_; first | decide | omega | (simp; done) | (simp; omega)))
local macro_rules | `(tactic| walk_at "own") => `(tactic| first | (exact Or.inr (by assumption)) | (refine Or.inl ?_; simp; done))
local macro_rules | `(tactic| walk_at "al") => `(tactic| (refine' AllocO.mk ?k ?_; (case k => assumption); intro _ _ _ _))
local macro_rules | `(tactic| walk_at "up") => `(tactic| (refine' UpdO.mk ?k ?h ?m ?_; (case k => assumption); (case h => walk_at "ul"); (case m => walk_at "own"); intro _ _))
local macro_rules | `(tactic| walk_at "st") => `(tactic| first
  | ((with_reducible refine' r_var ?h ?_); (case h => walk_at "ga"))
  | (with_reducible refine' r_seq ?_) | (with_reducible refine' r_next ?_) | (with_reducible refine' r_asg ?_) | (with_reducible refine' r_drop ?_) | (with_reducible refine' r_ret ?_) | (with_reducible refine' r_retN ?_)
  | (with_reducible refine' r_ifs ?_) | (with_reducible refine' r_cont ?_) | (with_reducible refine' r_break ?_) | (with_reducible refine' r_c ?_) | (with_reducible refine' r_op ?_) | (with_reducible refine' r_un ?_)
  | (with_reducible refine' r_test ?_) | (with_reducible refine' r_tB ?_) | (with_reducible refine' r_not ?_) | (with_reducible refine' r_and ?_) | (with_reducible refine' r_or ?_) | (with_reducible refine' r_notV ?_)
  | (with_reducible refine' r_andV ?_) | (with_reducible refine' r_orV ?_) | (with_reducible refine' r_ifE ?_) | (with_reducible refine' r_bl ?_) | (with_reducible refine' r_nil ?_) | (with_reducible refine' r_cons ?_)
  | (with_reducible refine' r_tup ?_) | (with_reducible refine' r_lst ?_) | (with_reducible refine' r_cb ?_) | (with_reducible refine' r_call ?_) | ((with_reducible refine' r_name ?h ?_); (case h => walk_at "sa")) | (with_reducible refine' r_gnil ?_)
  | (with_reducible refine' r_gcons ?_) | (with_reducible refine' r_gsub ?_) | (with_reducible refine' r_par ?_) | (with_reducible refine' r_par2 ?_) | (with_reducible refine' r_I0 ?_) | (with_reducible refine' r_U ?_)
  | ((with_reducible refine' r_eq ?h ?_); (case h => rfl)) | ((with_reducible refine' r_ne ?h ?_); (case h => rfl))
  | ((with_reducible refine' r_ixL ?h ?a ?_); (case h => walk_at "sql"); (case a => rfl))
  | ((with_reducible refine' r_ixT ?h ?a ?_); (case h => walk_at "sqt"); (case a => rfl))
  | ((with_reducible refine' r_setL ?h ?a ?_); (case h => walk_at "hp"); (case a => rfl))
  | ((with_reducible refine' r_I ?c ?_); (case c => walk_at "side"))
  | (with_reducible refine' r_sl ?_) | (with_reducible refine' r_part ?_) | (with_reducible refine' r_nopart ?_) | (with_reducible refine' r_ii ?_)
  | ((with_reducible refine' r_slL ?h ?_); (case h => walk_at "sql"))
  | (with_reducible refine' r_bm ?_) | (with_reducible refine' r_bm0 ?_) | (with_reducible refine' r_int1 ?_) | (with_reducible refine' r_int1b ?_)
  | ((with_reducible refine' r_aug ?h ?_); (case h => walk_at "ga"))
  | ((with_reducible refine' r_cat ?a ?b ?z ?_); (case a => walk_at "hp"); (case b => walk_at "hp"); (case z => walk_at "siz"))
  | ((with_reducible refine' r_append ?a ?z ?_); (case a => walk_at "hp"); (case z => walk_at "siz"))
  | ((with_reducible refine' And.intro ?z ?_); (case z => first | walk_at "siz" | exact Or.inl ⟨rfl, _, by walk_at "sql"⟩))
  | ((with_reducible refine' r_gtup ?h ?l ?_); (case h => walk_at "sqt"); (case l => rfl))
  | (with_reducible refine' r_forL ?_) | (with_reducible refine' r_forE ?_) | (with_reducible refine' r_forR ?_) | ((with_reducible refine' r_forL2 ?h ?_); (case h => walk_at "sql")) | ((with_reducible refine' r_forE2 ?h ?_); (case h => walk_at "sql"))
  | (with_reducible refine' r_lcR ?_) | ((with_reducible refine' r_iteT ?h ?_); (case h => rfl)) | ((with_reducible refine' r_iteF ?h ?_); (case h => rfl))
  | (with_reducible refine' r_dnew ?_) | (with_reducible refine' r_vei ?_) | (with_reducible refine' r_ost ?_) | (with_reducible refine' r_mkV ?_) | (with_reducible refine' r_mkX ?_) | (with_reducible refine' r_xfld ?_)
  | ((with_reducible refine' MkG.mk ?o ?n ?k ?_); (case o => exact ErrOk.o (by assumption)); (case n => exact ErrOk.no (by assumption)); (case k => assumption); intro _ _ _ _)
  | ((with_reducible refine' AllocX.mk ?k ?_); (case k => assumption); intro _ _ _ _)
  | (with_reducible refine' r_chain ?_) | (with_reducible refine' r_lcS ?_) | (with_reducible refine' r_lcS2 ?_) | (with_reducible refine' r_lcL ?_) | (with_reducible refine' r_lcT ?_) | (with_reducible refine' r_lcI ?_) | (with_reducible refine' r_yes ?_)
  | (with_reducible refine' r_fld ?_) | (with_reducible refine' r_sfld ?_) | (with_reducible refine' r_meth ?_) | (with_reducible refine' r_make ?_) | (with_reducible refine' r_dget ?_) | (with_reducible refine' r_din ?_) | (with_reducible refine' r_dput ?_)
  | ((with_reducible refine' r_disp ?k ?_); (case k => assumption); intro _ _ _ _) | (with_reducible refine' r_pnil ?_) | (with_reducible refine' r_pcons ?_)
  | (walk_at "al") | (walk_at "up"))
local macro_rules | `(tactic| walk_at "go") => `(tactic| repeat walk_at "st")

theorem call_isiK {X : Cx} (K : PySem.W.Frag) (e : X.K = K := by rfl) : CallR X (.builtin "isinstance") (rIsi K) := by
  subst e
  exact call_isi
theorem dts_snoc {K : PySem.W.Frag} {H : Hp} {v : V} {d : Dt} (h : DtAt K H v d) : ∀ {vs : List V} {ds : List Dt}, DtAll K H vs ds → DtAll K H (vs ++ [v]) (ds ++ [d])
  | _, _, .nil => .cons h .nil
  | _, _, .cons a t => .cons a (dts_snoc h t)
theorem pureDs_at : ∀ {l : List Dt} {i : Nat} {d : Dt}, pureDs l = true → l[i]? = some d → pureD d = true
  | [], _, _, _, e => by simp at e
  | a :: l, 0, d, h, e => by
    have e : a = d := by simpa using e
    subst e
    exact (He.ba (show (pureD a && pureDs l) = true from h)).1
  | a :: l, i + 1, d, h, e => pureDs_at (l := l) (He.ba (show (pureD a && pureDs l) = true from h)).2 (by simpa using e)
theorem pureDs_take : ∀ (l : List Dt) (n : Nat), pureDs l = true → pureDs (l.take n) = true
  | _, 0, _ => by rw [List.take_zero] <;> rfl
  | [], n + 1, _ => rfl
  | a :: l, n + 1, h => by
    obtain ⟨h1, h2⟩ := He.ba (show (pureD a && pureDs l) = true from h)
    show (pureD a && pureDs (l.take n)) = true
    rw [h1, pureDs_take l n h2] <;> rfl
theorem deps_at : ∀ {l : List Dt} {i : Nat} {d : Dt}, l[i]? = some d → dep d ≤ deps l
  | [], _, _, e => by simp at e
  | a :: l, 0, d, e => by
    have e : a = d := by simpa using e
    subst e
    exact Nat.le_max_left _ _
  | a :: l, i + 1, d, e => Nat.le_trans (deps_at (l := l) (by simpa using e)) (Nat.le_max_right _ _)
theorem dt_all_at {K : PySem.W.Frag} {H : Hp} : ∀ {vs : List V} {ds : List Dt} {i : Nat} {v : V}, DtAll K H vs ds → vs[i]? = some v → ∃ d, ds[i]? = some d ∧ DtAt K H v d
  | _, _, _, _, .nil, e => by simp at e
  | _, _, 0, v, .cons (v := a) h _, e => by
    have e : a = v := by simpa using e
    subst e
    exact ⟨_, rfl, h⟩
  | _, _, i + 1, v, .cons _ t, e => by
    obtain ⟨d, h1, h2⟩ := dt_all_at (i := i) t (by simpa using e)
    exact ⟨d, by simpa using h1, h2⟩
abbrev NN_l_anew : List Str := ["_law_part", "_law_one_here"]
section
variable {P : Program} {w : World} {K : PySem.W.Frag} {mg : Str → Option Value} {base : Heap} {f : Addr} {fd : FuncData}
def spAnew (K : PySem.W.Frag) (M : Nat) : Sp := fun vs H Q _ => ∃ v l, vs = [v] ∧ DtAt K H v (.tup l) ∧ pureD (.tup l) = true ∧ dep (.tup l) ≤ M ∧ ∀ (u : V) (H' : Hp), Wc.Ext H H' → DtAt K H' u (.tup l) → Q u H'
theorem ok_anew {M : Nat} (F : FnP K "_law_anew" s_l_anew f fd) (T : Bt mg) (D_l_anew : DfOk P w K mg base CX0 (1 + M) "_law_anew" ["_law_part"] (spAnew K M)) : FnOk P w K mg base CX0 (1 + M + 1) f fd ["_law_part"] (spAnew K (M + 1)) := by
  refine F.ok sc_l_anew (fun vs H Q E h => ?_) (fun cdv A outer s H vs Q E hr h => ?_)
  · obtain ⟨v, l, rfl, _⟩ := h
    rfl
  · refine ⟨_, PSs.nox (pss_one (ps_ret (pe_callTy call_tuple_of (by rfl) T.f_tuple PyProof.Rows.boot_tuple (pa_cons (pe_lc (own := [("_law_one_here", 1)]) rfl sc_l_anew.nd (pi_tup (pv 0)) (blkOk_by (N := NN_l_anew) (sc := defScope s_l_anew) (by decide +kernel)) (fun _ _ _ _ _ => (pg_name (i := 1) sc_l_anew.nd rfl (by first | exact Or.inl rfl | exact Or.inr rfl))) (fun _ _ _ _ _ => pts_nil) (fun _ _ _ _ _ => (pe_ifExp (pt_val (pe_callB (call_isiK K) (by rfl) T.f_isinstance PyProof.Rows.boot_isinstance (pa_cons (pv 1) (pa_cons (pe_bltn (v := .ty "tuple") (by rfl) T.f_tuple PyProof.Rows.boot_tuple rfl) pa_nil)))) (pe_callD (hk := Nat.le_refl _) D_l_anew hr (pa_cons (pv 1) pa_nil)) (pv 1)))) pa_nil)))), ?_⟩
    obtain ⟨v, l, rfl, dv, pl, hd, k⟩ := h
    rw [show L2.start ["_law_part", "_law_one_here"] [v] = ([some (v), none] : List (Option V)) from rfl]
    have pl : pureDs l = true := (He.ba (show (decide (l.length ≤ 1000) && pureDs l) = true from pl)).2
    have hd : deps l + 1 ≤ M + 1 := hd
    cases dv with
    | @tup a vs _ ha hl t =>
    have lv := t.length
    have kh := KH.start (H := H)
    walk_at "go"
    refine ⟨a, rfl, ⟨_, SqT.of ha⟩, ?_⟩
    refine lcP (walk_tup (xs := vs)) (fun i acc H' => Wc.Ext H H' ∧ DtAll K H' acc (l.take i)) ⟨Wc.Ext.refl _, by rw [List.take_zero]; exact .nil⟩ (by omega)
        (fun D i acc H' H'' hD mo fr ⟨g3, g4⟩ => ⟨fun q o hq => fr _ _ (by simpa using ne_of_none hq hD) (g3 q o hq), dtMoA mo _ _ (pureDs_take l i pl) g4⟩)
        (fun i acc H' _ ⟨g3, _⟩ => SqT.of (g3 _ _ ha)) ?_ ?_
    · rintro i y acc G1 G2 D R' N' hi hD hdD ⟨g3, g4⟩ ⟨rfl, hy⟩ hR hN
      obtain ⟨d, hdl, dy⟩ := dt_all_at t hy
      have pd := pureDs_at pl hdl
      have dd := deps_at hdl
      have dy1 := dtMo g3.mo _ _ pd dy
      have etk : l.take (i + 1) = l.take i ++ [d] := by rw [List.take_succ, hdl] <;> rfl
      have kg := (KH.start1 hdD).rebase
      walk_at "go"
      refine ⟨rfl, ?_⟩
      walk_at "go"
      obtain ⟨tp, h0, htp⟩ := dy1.th
      obtain ⟨ty, h1, h2, h3⟩ := h0.ty
      refine r_isi (.ty _) h1 h3 ?_
      walk_at "go"
      by_cases hq : ∃ l2, d = .tup l2
      · obtain ⟨l2, rfl⟩ := hq
        rw [show tp.isSome = true from htp.mp ⟨l2, rfl⟩]
        walk_at "go"
        refine ⟨y, l2, rfl, dy1, pd, by omega, fun u G3 e3 du => ?_⟩
        exact hR _ _ ⟨g3.trans e3, by rw [etk]; exact dts_snoc du (dtMoA e3.mo _ _ (pureDs_take l i pl) g4)⟩ (e3 _ _ hdD)
      · rw [show tp.isSome = false from by
          cases q : tp.isSome with
          | false => rfl
          | true => exact absurd (htp.mpr q) hq]
        walk_at "go"
        exact hR _ _ ⟨g3, by rw [etk]; exact dts_snoc dy1 g4⟩ hdD
    intro l7 H7 acc nl7 ⟨e7, da⟩ hl7
    rw [lv, List.take_length] at da
    have la := da.length
    refine ⟨l7, _, rfl, .inl ⟨SqL.of hl7, ?_⟩⟩
    intro ft nft
    have k8 := (KH.start (H := H7)).new (o := .tup acc) nft
    generalize upd H7 ft _ = H8 at k8 ⊢
    have e8 := k8.extE
    exact k (.ref ft) H8 (e7.trans e8) (.tup (k8.find .here) (by omega) (dtMoA e8.mo _ _ pl da))
theorem anew_all (F : FnP K "_law_anew" s_l_anew f fd) (gb : mg "_law_anew" = some (.ref f)) (kp : PySem.W.keepIn K (.ref f) = true) (hb : Binds K fd ["_law_part"] []) (T : Bt mg) : ∀ M, DfOk P w K mg base CX0 (1 + M) "_law_anew" ["_law_part"] (spAnew K M)
  | 0 => ⟨f, fd, gb, kp, hb, ⟨fun vs H Q E h => by
      obtain ⟨v, l, _, _, _, h0, _⟩ := h
      exact absurd h0 (by show ¬ deps l + 1 ≤ 0; omega), fun A outer s H args us vs Q E hr he hbn hv h => by
      obtain ⟨v, l, _, _, _, h0, _⟩ := h
      exact absurd h0 (by show ¬ deps l + 1 ≤ 0; omega)⟩⟩
  | M + 1 => ⟨f, fd, gb, kp, hb, ok_anew F T (anew_all F gb kp hb T M)⟩
end
end K10


set_option Elab.async false
set_option linter.all false
set_option maxRecDepth 100000
set_option maxHeartbeats 4000000
namespace K10
open PySem PySem.Spec PyProof.Rows L2 Wc
theorem flat_le {α : Type} {f g : Nat → List α} : ∀ l : List Nat, (∀ j, j ∈ l → (g j).length ≤ (f j).length) → (l.flatMap g).length ≤ (l.flatMap f).length
  | [], _ => Nat.le_refl _
  | a :: l, h => by
    have h1 := h a List.mem_cons_self
    have h2 := flat_le (f := f) (g := g) l fun j hj => h j (List.mem_cons_of_mem _ hj)
    rw [List.flatMap_cons, List.flatMap_cons, List.length_append, List.length_append]
    omega
/-- a leaf put into a body: no more parts -/
theorem put_small {T : List Cl} {e : Dt} (he : (paths e).length = 1) : ∀ (p : List Nat) (d : Dt), p ∈ paths d → Fs T d → (paths (putP d p e)).length ≤ (paths d).length
  | [], d, hp, _ => by
    show (paths e).length ≤ _
    have := List.length_pos_of_mem hp
    omega
  | i :: p, d, hp, hf => by
    obtain ⟨x, hx, rfl, hp2⟩ := paths_cons.mp hp
    obtain ⟨w, l, rfl⟩ := form_word (hf [] (paths_nil d))
    have f0 : formOk T (.tup (.str w :: l)) := hf [] (paths_nil _)
    have hi := kid_index hx
    have ih := put_small (T := T) he p x.2 hp2 (hf.kid hx)
    have hs := set_head (w := w) (l := l) (e := putP x.2 p e) (within_pos hi).1
    have hlt := kid_lt f0 hi
    have hk : kidAt (.tup (.str w :: l)) x.1 = x.2 := kids_at hx
    have hg : (Dt.str w :: l).getD x.1 .oth = x.2 := hk
    show (paths (.tup ((Dt.str w :: l).set x.1 (putP (kidAt (.tup (.str w :: l)) x.1) p e)))).length ≤ _
    rw [hk, hs, paths_word, paths_word, List.length_cons, List.length_cons, List.length_set, ← hs]
    refine Nat.succ_le_succ (flat_le _ fun j _ => ?_)
    rw [List.length_map, List.length_map]
    by_cases h : j = x.1
    · rw [h, getD_set_eq hlt, hg]
      exact ih
    · rw [getD_set_ne h]
      exact Nat.le_refl _
theorem eqvs_set {e : Dt} : ∀ (l : List Dt) (i : Nat), i < l.length → PyData.eqv (datD (l.getD i .oth)) (datD e) = false → PyData.eqvAll (datDs l) (datDs (l.set i e)) = false
  | [], i, h, _ => absurd h (Nat.not_lt_zero i)
  | d :: l, 0, _, h => by
    have h : PyData.eqv (datD d) (datD e) = false := h
    show PyData.eqvAll (datD d :: datDs l) (datD e :: datDs l) = false
    simp only [PyData.eqvAll]
    rw [h, Bool.false_and]
  | d :: l, i + 1, hl, h => by
    have ih := eqvs_set (e := e) l i (by simpa using hl) h
    show PyData.eqvAll (datD d :: datDs l) (datD d :: datDs (l.set i e)) = false
    simp only [PyData.eqvAll]
    rw [ih, Bool.and_false]
/-- another part makes another body -/
theorem put_ne {T : List Cl} {e : Dt} : ∀ (p : List Nat) (d : Dt), p ∈ paths d → Fs T d → PyData.eqv (datD (atP d p)) (datD e) = false → PyData.eqv (datD d) (datD (putP d p e)) = false
  | [], d, _, _, h => h
  | i :: p, d, hp, hf, h => by
    obtain ⟨x, hx, rfl, hp2⟩ := paths_cons.mp hp
    obtain ⟨w, l, rfl⟩ := form_word (hf [] (paths_nil d))
    have f0 : formOk T (.tup (.str w :: l)) := hf [] (paths_nil _)
    have hi := kid_index hx
    have hlt := kid_lt f0 hi
    have hk : kidAt (.tup (.str w :: l)) x.1 = x.2 := kids_at hx
    have ih := put_ne (T := T) (e := e) p x.2 hp2 (hf.kid hx) (by
      have h : PyData.eqv (datD (atP (kidAt (.tup (.str w :: l)) x.1) p)) (datD e) = false := h
      rw [hk] at h
      exact h)
    show PyData.eqv (datD (.tup (.str w :: l))) (datD (.tup ((Dt.str w :: l).set x.1 (putP (kidAt (.tup (.str w :: l)) x.1) p e)))) = false
    rw [hk]
    have key := eqvs_set (e := putP x.2 p e) (Dt.str w :: l) x.1 hlt (by
      rw [show (Dt.str w :: l).getD x.1 .oth = x.2 from hk]
      exact ih)
    show PyData.eqv (.tuple (datDs (.str w :: l))) (.tuple (datDs ((Dt.str w :: l).set x.1 (putP x.2 p e)))) = false
    simp only [PyData.eqv]
    exact key
def intD_ (i : Int) : Dt := .tup [.str "int", .int i]
theorem intD_fs {T : List Cl} {i : Int} (h1 : -1000000000 ≤ i) (h2 : i ≤ 1000000000) : Fs T (intD_ i) ∧ (paths (intD_ i)).length = 1 ∧ (∀ q : Nat × List Str, Okc q (intD_ i)) ∧ pureD (intD_ i) = true ∧ dep (intD_ i) = 1 := by
  obtain ⟨i1, _, _⟩ := in_int
  have f := fm_leaf (T := T) (kids_leaf2 (a := .int i) i1) fun p c ns => by rw [Wc.v_int, decide_eq_true h1, decide_eq_true h2] <;> rfl
  refine ⟨f.2, f.1, fun q => okc_leaf (kids_leaf2 i1) rfl, ?_, rfl⟩
  show (pureD (.str "int") && (true && true)) = true
  decide +kernel
theorem int_eq {d : Dt} {i : Int} (h : PyData.eqv (datD d) (datD (intD_ i)) = true) : d = intD_ i := by
  cases d with
  | str s => simp [datD, intD_, PyData.eqv, datDs] at h
  | int j => simp [datD, intD_, PyData.eqv, datDs] at h
  | oth => simp [datD, intD_, PyData.eqv, datDs] at h
  | tup l =>
    have h : PyData.eqvAll (datDs l) [.str "int", .int i] = true := by simpa [datD, intD_, PyData.eqv, datDs] using h
    match l, h with
    | [], h => simp [datDs, PyData.eqvAll] at h
    | [x], h => simp [datDs, PyData.eqvAll] at h
    | x :: y :: z :: l, h => simp [datDs, PyData.eqvAll] at h
    | [x, y], h =>
      obtain ⟨h1, h2⟩ := He.ba (show (PyData.eqv (datD x) (.str "int") && PyData.eqvAll [datD y] [.int i]) = true by simpa [datDs, PyData.eqvAll] using h)
      obtain ⟨h2, _⟩ := He.ba (show (PyData.eqv (datD y) (.int i) && true) = true by simpa [PyData.eqvAll] using h2)
      cases x with
      | str s =>
        have e : s = "int" := by simpa [datD, PyData.eqv] using h1
        cases y with
        | int j =>
          have e2 : j = i := by simpa [datD, PyData.eqv] using h2
          rw [e, e2] <;> rfl
        | _ => simp [datD, PyData.eqv] at h2
      | _ => simp [datD, PyData.eqv] at h1
theorem int_ne {i j : Int} (h : i ≠ j) : PyData.eqv (datD (intD_ i)) (datD (intD_ j)) = false := by
  refine Bool.eq_false_iff.mpr fun e => h ?_
  have := int_eq e
  unfold intD_ at this
  injection this with this
  injection this with _ this
  injection this with this _
  injection this
end K10


set_option Elab.async false
set_option linter.all false
set_option maxRecDepth 100000
set_option maxHeartbeats 8000000
namespace K10
open PySem PySem.Spec PyProof.Rows L2 Wc
local macro_rules | `(tactic| walk_at "lk") => `(tactic| first | with_reducible exact Look.here | (with_reducible apply Look.there; walk_at "lk"))
local macro_rules | `(tactic| walk_at "ul") => `(tactic| first | with_reducible exact UpL.here | (with_reducible apply UpL.there; walk_at "ul"))
local macro_rules | `(tactic| walk_at "ga") => `(tactic| first | exact GetAt.here | (apply GetAt.there; walk_at "ga"))
local macro_rules | `(tactic| walk_at "sa") => `(tactic| first | exact SetAt.here | (apply SetAt.there; walk_at "sa"))
local macro_rules | `(tactic| walk_at "hp") => `(tactic| first | assumption | (refine' KH.find ?k ?h; (case k => assumption); (case h => walk_at "lk")))
local macro_rules | `(tactic| walk_at "sql") => `(tactic| first | assumption | (refine' SqL.of ?h; (case h => walk_at "hp")) | (refine' Fr.sql (KH.fr ?k) ?n ?h; (case k => assumption); (case h => assumption); (case n => (simp; done))))
local macro_rules | `(tactic| walk_at "sqt") => `(tactic| first | assumption | (refine' SqT.of ?h; (case h => walk_at "hp")))
local macro_rules | `(tactic| walk_at "side") => `(tactic| first | exact (show (0 : Int) < _ by decide) | exact (show (0 : Int) < _ by omega) | exact ⟨by decide, by decide, by decide⟩ | exact ⟨by decide, by decide, by omega⟩ | exact ⟨by decide, by decide⟩ | exact ⟨by omega, by omega⟩ | exact Or.inl ⟨by omega, by omega⟩ | exact Or.inr ⟨by omega, by omega⟩)
local macro_rules | `(tactic| walk_at "siz") => `(tactic| first | (refine sz_of ?_; first | decide | omega | (simp; done) | (simp; omega)) | (refine sz_lt ?_; first | decide | omega | (simp; done) | (simp; omega)))
local macro_rules | `(tactic| walk_at "own") => `(tactic| first | (exact Or.inr (by assumption)) | (refine Or.inl ?_; simp; done))
local macro_rules | `(tactic| walk_at "al") => `(tactic| (refine' AllocO.mk ?k ?_; (case k => assumption); intro _ _ _ _))
local macro_rules | `(tactic| walk_at "up") => `(tactic| (refine' UpdO.mk ?k ?h ?m ?_; (case k => assumption); (case h => walk_at "ul"); (case m => walk_at "own"); intro _ _))
local macro_rules | `(tactic| walk_at "st") => `(tactic| first
  | ((with_reducible refine' r_var ?h ?_); (case h => walk_at "ga"))
  | (with_reducible refine' r_seq ?_) | (with_reducible refine' r_next ?_) | (with_reducible refine' r_asg ?_) | (with_reducible refine' r_drop ?_) | (with_reducible refine' r_ret ?_) | (with_reducible refine' r_retN ?_)
  | (with_reducible refine' r_ifs ?_) | (with_reducible refine' r_cont ?_) | (with_reducible refine' r_break ?_) | (with_reducible refine' r_c ?_) | (with_reducible refine' r_op ?_) | (with_reducible refine' r_un ?_)
  | (with_reducible refine' r_test ?_) | (with_reducible refine' r_tB ?_) | (with_reducible refine' r_not ?_) | (with_reducible refine' r_and ?_) | (with_reducible refine' r_or ?_) | (with_reducible refine' r_notV ?_)
  | (with_reducible refine' r_andV ?_) | (with_reducible refine' r_orV ?_) | (with_reducible refine' r_ifE ?_) | (with_reducible refine' r_bl ?_) | (with_reducible refine' r_nil ?_) | (with_reducible refine' r_cons ?_)
  | (with_reducible refine' r_tup ?_) | (with_reducible refine' r_lst ?_) | (with_reducible refine' r_cb ?_) | (with_reducible refine' r_call ?_) | ((with_reducible refine' r_name ?h ?_); (case h => walk_at "sa")) | (with_reducible refine' r_gnil ?_)
  | (with_reducible refine' r_gcons ?_) | (with_reducible refine' r_gsub ?_) | (with_reducible refine' r_par ?_) | (with_reducible refine' r_par2 ?_) | (with_reducible refine' r_I0 ?_) | (with_reducible refine' r_U ?_)
  | ((with_reducible refine' r_eq ?h ?_); (case h => rfl)) | ((with_reducible refine' r_ne ?h ?_); (case h => rfl))
  | ((with_reducible refine' r_ixL ?h ?a ?_); (case h => walk_at "sql"); (case a => rfl))
  | ((with_reducible refine' r_ixT ?h ?a ?_); (case h => walk_at "sqt"); (case a => rfl))
  | ((with_reducible refine' r_setL ?h ?a ?_); (case h => walk_at "hp"); (case a => rfl))
  | ((with_reducible refine' r_I ?c ?_); (case c => walk_at "side"))
  | (with_reducible refine' r_sl ?_) | (with_reducible refine' r_part ?_) | (with_reducible refine' r_nopart ?_) | (with_reducible refine' r_ii ?_)
  | ((with_reducible refine' r_slL ?h ?_); (case h => walk_at "sql"))
  | (with_reducible refine' r_bm ?_) | (with_reducible refine' r_bm0 ?_) | (with_reducible refine' r_int1 ?_) | (with_reducible refine' r_int1b ?_)
  | ((with_reducible refine' r_aug ?h ?_); (case h => walk_at "ga"))
  | ((with_reducible refine' r_cat ?a ?b ?z ?_); (case a => walk_at "hp"); (case b => walk_at "hp"); (case z => walk_at "siz"))
  | ((with_reducible refine' r_append ?a ?z ?_); (case a => walk_at "hp"); (case z => walk_at "siz"))
  | ((with_reducible refine' And.intro ?z ?_); (case z => first | walk_at "siz" | exact Or.inl ⟨rfl, _, by walk_at "sql"⟩))
  | ((with_reducible refine' r_gtup ?h ?l ?_); (case h => walk_at "sqt"); (case l => rfl))
  | (with_reducible refine' r_forL ?_) | (with_reducible refine' r_forE ?_) | (with_reducible refine' r_forR ?_) | ((with_reducible refine' r_forL2 ?h ?_); (case h => walk_at "sql")) | ((with_reducible refine' r_forE2 ?h ?_); (case h => walk_at "sql"))
  | (with_reducible refine' r_lcR ?_) | ((with_reducible refine' r_iteT ?h ?_); (case h => rfl)) | ((with_reducible refine' r_iteF ?h ?_); (case h => rfl))
  | (with_reducible refine' r_dnew ?_) | (with_reducible refine' r_vei ?_) | (with_reducible refine' r_ost ?_) | (with_reducible refine' r_mkV ?_) | (with_reducible refine' r_mkX ?_) | (with_reducible refine' r_xfld ?_)
  | ((with_reducible refine' MkG.mk ?o ?n ?k ?_); (case o => exact ErrOk.o (by assumption)); (case n => exact ErrOk.no (by assumption)); (case k => assumption); intro _ _ _ _)
  | ((with_reducible refine' AllocX.mk ?k ?_); (case k => assumption); intro _ _ _ _)
  | (with_reducible refine' r_chain ?_) | (with_reducible refine' r_lcS ?_) | (with_reducible refine' r_lcS2 ?_) | (with_reducible refine' r_lcL ?_) | (with_reducible refine' r_lcT ?_) | (with_reducible refine' r_lcI ?_) | (with_reducible refine' r_yes ?_)
  | (with_reducible refine' r_fld ?_) | (with_reducible refine' r_sfld ?_) | (with_reducible refine' r_meth ?_) | (with_reducible refine' r_make ?_) | (with_reducible refine' r_dget ?_) | (with_reducible refine' r_din ?_) | (with_reducible refine' r_dput ?_)
  | ((with_reducible refine' r_disp ?k ?_); (case k => assumption); intro _ _ _ _) | (with_reducible refine' r_pnil ?_) | (with_reducible refine' r_pcons ?_)
  | (walk_at "al") | (walk_at "up"))
local macro_rules | `(tactic| walk_at "go") => `(tactic| repeat walk_at "st")

/-- the drawn bodies, of every size -/
theorem body_all {P : Program} {w : World} {K : PySem.W.Frag} {mg : Str → Option Value} {base : Heap} {f : Addr} {fd : FuncData} (F : FnP K "_law_body" s_l_body f fd) (gb : mg "_law_body" = some (.ref f)) (kp : PySem.W.keepIn K (.ref f) = true) (hb : Binds K fd ["_law_well_here", "_law_book", "_law_many", "_law_wide", "_law_names"] []) (T : Bt mg) (T3 : Bt3 mg) (D_l_leaf : DfOk P w K mg base CX0 3 "_law_leaf" ["_law_well_here", "_law_book", "_law_wide", "_law_names"] (spLLeaf K)) (D_l_head : DfOk P w K mg base CX0 4 "_law_head" ["_law_well_here", "_law_book", "_law_most"] (spLHead K))
    (D_l_shares : DfOk P w K mg base CX0 2 "_law_shares" ["_law_well_here", "_law_many", "_law_wide"] spShares) : ∀ M, DfOk P w K mg base CX0 (4 + M) "_law_body" ["_law_well_here", "_law_book", "_law_many", "_law_wide", "_law_names"] (spLBody K M)
  | 0 => ⟨f, fd, gb, kp, hb, ⟨fun vs H Q E h => by
      obtain ⟨_, _, _, _, _, _, _, _, m, _, _, _, _, _, _, m1, m0, _⟩ := h
      omega, fun A outer s H args us vs Q E hr he hbn hv h => by
      obtain ⟨_, _, _, _, _, _, _, _, m, _, _, _, _, _, _, m1, m0, _⟩ := h
      omega⟩⟩
  | M + 1 => ⟨f, fd, gb, kp, hb, ok_body F T T3 D_l_leaf D_l_head D_l_shares (body_all F gb kp hb T T3 D_l_leaf D_l_head D_l_shares M)⟩
theorem dt_non {K : PySem.W.Frag} {H : Hp} : DtAt K H .non .oth := .oth Th.non rfl (.base .non) (kit_ty (show kitB "NoneType" "int" = some false by decide +kernel)) (kit_ty (show kitB "NoneType" "bool" = some false by decide +kernel))
theorem val_self {k : NK} {v : V} : valV [(k, v)] k = some v := by
  unfold valV
  rw [List.find?_cons, decide_eq_true rfl] <;> rfl
theorem put_self {k : NK} {u v : V} : putK [(k, u)] k v = [(k, v)] := by
  unfold putK
  rw [List.any_cons, decide_eq_true rfl, Bool.true_or, if_pos rfl, List.map_cons, if_pos rfl, List.map_nil]
theorem mid_if {t : TT} {ta tb : TE} {σ : L2.St} {H : Hp} {Q : VK} (R : V → Hp → Prop) (h : ∀ Q' : VK, (∀ x H', R x H' → Q' x H') → tIf t ta tb σ H Q') (k : ∀ x H', R x H' → Q x H') : tIf t ta tb σ H Q := h Q k
theorem worldI_in {n i : Nat} (h : i ≤ n) : worldI n (.int (i : Nat)) = some i := by
  unfold worldI
  dsimp only
  rw [if_pos ⟨by omega, by omega⟩] <;> rfl
theorem mKey_sh {sg : List Str} (h : ∀ x, x ∈ sg → PyData.strOk x = true) : SeqAt.shaped (.list [datK (mKey "f" sg)]) = true := by
  have e : ∀ l : List Str, (∀ x, x ∈ l → PyData.strOk x = true) → PyData.canLayAll0 (datKs (l.map NestedKey.text)) = true ∧ PyData.depthAll (datKs (l.map NestedKey.text)) = 0 := fun l => by
    induction l with
    | nil => exact fun _ => ⟨rfl, rfl⟩
    | cons x l ih =>
      intro h
      obtain ⟨i1, i2⟩ := ih fun y hy => h y (List.mem_cons_of_mem _ hy)
      refine ⟨?_, ?_⟩
      · show (PyData.canLay0 (.str x) && PyData.canLayAll0 (datKs (l.map NestedKey.text))) = true
        rw [i1, show PyData.canLay0 (.str x) = true by simpa [PyData.canLay0] using h x List.mem_cons_self] <;> rfl
      · show max (PyData.depth (.str x)) (PyData.depthAll (datKs (l.map NestedKey.text))) = 0
        rw [i2] <;> rfl
  obtain ⟨e1, e2⟩ := e sg h
  have c1 : PyData.canLay0 (.tuple (datKs (sg.map NestedKey.text))) = true := by simpa [PyData.canLay0] using e1
  have c2 : PyData.canLay0 (.str "f") = true := by simp [PyData.canLay0]; decide +kernel
  have d1 : PyData.depth (.list [datK (mKey "f" sg)]) = max (max 0 (max (PyData.depthAll (datKs (sg.map NestedKey.text)) + 1) 0) + 1) 0 + 1 := rfl
  show (PyData.canLay0 (.list [.tuple [.str "f", .tuple (datKs (sg.map NestedKey.text))]]) && decide (PyData.depth (.list [datK (mKey "f" sg)]) ≤ 64)) = true
  rw [d1, e2, show PyData.canLay0 (.list [.tuple [.str "f", .tuple (datKs (sg.map NestedKey.text))]]) = true by simp [PyData.canLay0, PyData.canLayAll0] at c1 c2 ⊢; exact ⟨c2, c1⟩] <;> rfl
section
variable {P : Program} {w : World} {K : PySem.W.Frag} {mg : Str → Option Value} {base : Heap} {f : Addr} {fd : FuncData} {CK CR NB NCt : Addr}
def spRight (K : PySem.W.Frag) : Sp := fun vs H Q _ => ∃ pw a b c N, vs = [.ref pw] ∧ H pw = some (wl a b c) ∧ WellOk N b c ∧ N ≤ 100000 ∧ ∀ H', Wc.Fr [pw] H H' → Q (.bl true) H'
theorem ok_right {fB fM : Addr} {fdB fdM : FuncData} (F : FnP K "_law_right" s_l_right f fd) (gB : mg "body" = some (.ref fB)) (kpB : PySem.W.keepIn K (.ref fB) = true) (KBB : KBn K fdB ["runtime", "function", "signature", "world"] 3 ["world"] (fun us ws => us ++ ws) (fun vs zs => vs ++ zs)) (FB : FnOk P w K mg base (L2.CX P w) 5 fB fdB ["runtime", "function", "signature", "world"] (spBody P w K CK CR))
    (gM : mg "methods" = some (.ref fM)) (kpM : PySem.W.keepIn K (.ref fM) = true) (KBM : KBn K fdM ["runtime", "world"] 1 ["world"] (fun us ws => us ++ ws) (fun vs zs => vs ++ zs)) (FM : FnOk P w K mg base (L2.CX P w) 4 fM fdM ["runtime", "world"] (spMethods P w K CK CR))
    (T : Bt mg) (D_l_draw : DfOk P w K mg base CX0 1 "_law_draw" ["_law_well_here", "_law_many"] spDraw) (D_l_one : DfOk P w K mg base CX0 2 "_law_one" ["_law_well_here", "_law_some"] (spOne K)) (D_l_runtime : DfOk P w K mg base CX0 5 "_law_runtime" ["_law_well_here"] (spLRt K CK CR)) (D_l_signature : DfOk P w K mg base CX0 3 "_law_signature" ["_law_well_here", "_law_book"] (spSig K)) (D_l_body : DfOk P w K mg base CX0 28 "_law_body" ["_law_well_here", "_law_book", "_law_many", "_law_wide", "_law_names"] (spLBody K 24))
    (D_l_at : DfOk P w K mg base CX0 1 "_law_at" ["_law_text", "_law_path"] (spLAt K)) (D_l_paths : DfOk P w K mg base CX0 2 "_law_paths" ["_law_text"] (spLPaths K)) (D_l_with : DfOk P w K mg base CX0 2 "_law_with" ["_law_text", "_law_path", "_law_part"] (spLWith K)) (D_l_anew : DfOk P w K mg base CX0 25 "_law_anew" ["_law_part"] (spAnew K 24))
    (D_now : DfOk P w K mg base CX0 2 "now" ["runtime"] (spNow K CK CR)) (D_check_body : DfOk P w K mg base (L2.CX P w) 6 "check_body" ["runtime", "body", "count"] (spCB K CK CR NB NCt)) (D_define : DfOk P w K mg base (L2.CX P w) 6 "define" ["runtime", "function", "signature", "body"] (spDefine P w K CK CR NB))
    (D_body : DfOkD P w K mg base (L2.CX P w) 5 "body" ["runtime", "function", "signature", "world"] [.non] (spBody P w K CK CR)) (D_methods : DfOkD P w K mg base (L2.CX P w) 4 "methods" ["runtime", "world"] [.non] (spMethods P w K CK CR)) :
    FnOk P w K mg base CX0 29 f fd ["_law_well_here"] (spRight K) := by
  refine F.ok sc_l_right (fun vs H Q E h => ?_) (fun cdv A outer s H vs Q E hr h => ?_)
  · obtain ⟨pw, a, b, c, N, rfl, _⟩ := h
    rfl
  · refine ⟨_, PSs.nox (pss_cons (ps_asg (pe_callD D_l_runtime hr (pa_cons (pv 0) pa_nil)) (pg_tup rfl (pgs_cons (pg_name (i := 1) sc_l_right.nd rfl (by first | exact Or.inl rfl | exact Or.inr rfl)) (pgs_cons (pg_name (i := 2) sc_l_right.nd rfl (by first | exact Or.inl rfl | exact Or.inr rfl)) pgs_nil))))
      (pss_cons (ps_set (i := 3) sc_l_right.nd rfl (by first | exact Or.inl rfl | exact Or.inr rfl) (pe_callD D_l_signature hr (pa_cons (pv 0) (pa_cons (pv 2) pa_nil))))
      (pss_cons (ps_set (i := 4) sc_l_right.nd rfl (by first | exact Or.inl rfl | exact Or.inr rfl) (pe_callD D_l_body hr (pa_cons (pv 0) (pa_cons (pv 2) (pa_cons (pe_op op_add pe_int (pe_callD D_l_draw hr (pa_cons (pv 0) (pa_cons pe_int pa_nil)))) (pa_cons (pe_callB call_len_seq (by rfl) T.f_len PySem.boot_len (pa_cons (pv 3) pa_nil)) (pa_cons (pe_lst pa_nil) pa_nil)))))))
      (pss_cons (ps_set (i := 5) sc_l_right.nd rfl (by first | exact Or.inl rfl | exact Or.inr rfl) (pe_callD D_now hr (pa_cons (pv 1) pa_nil)))
      (pss_cons (ps_if (PW.pt (pw_or (pt_cmpR op_notN (pe_callD D_check_body hr (pa_cons (pv 1) (pa_cons (pv 4) (pa_cons (pe_callB call_len_seq (by rfl) T.f_len PySem.boot_len (pa_cons (pv 3) pa_nil)) pa_nil)))) pe_non (nomark _)) (pw_or1 (pt_cmpR op_ne (pe_callD D_now hr (pa_cons (pv 1) pa_nil)) (pv 5) (nomark _))))) (pss_one (ps_ret pe_bl)) pss_nil)
      (pss_cons (ps_if (PW.pt (pw_or (pt_cmpR op_ne (pe_callD D_define hr (pa_cons (pv 1) (pa_cons pe_str (pa_cons (pv 3) (pa_cons (pv 4) pa_nil))))) (pe_op op_add (pv 5) pe_int) (nomark _)) (pw_or1 (pt_cmpR (op_neD (un64 hr)) (pe_callDf D_body hr (pa_cons (pv 1) (pa_cons pe_str (pa_cons (pv 3) pa_nil)))) (pv 4) (nomark _))))) (pss_one (ps_ret pe_bl)) pss_nil)
      (pss_cons (ps_if (PW.pt (pw_or (pt_cmpR op_ne (pe_callD D_define hr (pa_cons (pv 1) (pa_cons pe_str (pa_cons (pv 3) (pa_cons (pe_callD D_l_anew hr (pa_cons (pv 4) pa_nil)) pa_nil))))) (pe_op op_add (pv 5) pe_int) (nomark _)) (pw_or1 (pt_cmpR (op_neD (un64 hr)) (pe_callDf D_methods hr (pa_cons (pv 1) pa_nil)) (pe_lst (pa_cons (pe_tup (pa_cons pe_str (pa_cons (pv 3) pa_nil))) pa_nil)) (nomark _))))) (pss_one (ps_ret pe_bl)) pss_nil)
      (pss_cons (ps_set (i := 6) sc_l_right.nd rfl (by first | exact Or.inl rfl | exact Or.inr rfl) (pe_callD D_l_one hr (pa_cons (pv 0) (pa_cons (pe_callD D_l_paths hr (pa_cons (pv 4) pa_nil)) pa_nil))))
      (pss_cons (ps_set (i := 7) sc_l_right.nd rfl (by first | exact Or.inl rfl | exact Or.inr rfl) (pe_callD D_l_with hr (pa_cons (pv 4) (pa_cons (pv 6) (pa_cons (pe_ifExp (pt_cmpR (op_neD (un64 hr)) (pe_callD D_l_at hr (pa_cons (pv 4) (pa_cons (pv 6) pa_nil))) (pe_tup (pa_cons pe_str (pa_cons pe_int pa_nil))) (nomark _)) (pe_tup (pa_cons pe_str (pa_cons pe_int pa_nil))) (pe_tup (pa_cons pe_str (pa_cons pe_int pa_nil)))) pa_nil)))))
      (pss_cons (ps_if (PW.pt (pw_or (pt_cmpR op_ne (pe_callD D_define hr (pa_cons (pv 1) (pa_cons pe_str (pa_cons (pv 3) (pa_cons (pv 7) pa_nil))))) (pe_op op_add (pv 5) pe_int) (nomark _)) (pw_or1 (pt_cmpR op_ne (pe_callD D_now hr (pa_cons (pv 1) pa_nil)) (pe_op op_add (pv 5) pe_int) (nomark _))))) (pss_one (ps_ret pe_bl)) pss_nil)
      (pss_cons (ps_if (PW.pt (pw_or (pt_cmpR (op_neD (un64 hr)) (pe_callDf D_body hr (pa_cons (pv 1) (pa_cons pe_str (pa_cons (pv 3) pa_nil)))) (pv 7) (nomark _)) (pw_or1 (pt_cmpR (op_neD (un64 hr)) (pe_callN FB (hr.mono (by decide)) (by rfl) gB kpB KBB (by first | exact pass0 | exact passL) (pa_cons (pv 1) (pa_cons pe_str (pa_cons (pv 3) pa_nil))) (pk_cons (pe_op op_add (pv 5) pe_int) pk_nil)) (pv 4) (nomark _))))) (pss_one (ps_ret pe_bl)) pss_nil)
      (pss_one (ps_ret (pe_and (pe_cmpR (op_eqD (un64 hr)) (pe_callN FM (hr.mono (by decide)) (by rfl) gM kpM KBM (by first | exact pass0 | exact passL) (pa_cons (pv 1) pa_nil) (pk_cons (pv 5) pk_nil)) (pe_lst pa_nil) (nomark _)) (pe_one (pe_cmpR op_isN (pe_callD D_check_body hr (pa_cons (pv 1) (pa_cons (pv 7) (pa_cons (pe_callB call_len_seq (by rfl) T.f_len PySem.boot_len (pa_cons (pv 3) pa_nil)) pa_nil)))) pe_non (nomark _))))))))))))))))), ?_⟩
    obtain ⟨pw, a, b, c, N, rfl, hpw, wo, hN, k⟩ := h
    rw [show L2.start ["_law_well_here", "_law_system", "_law_book", "_law_sign", "_law_text", "_law_start", "_law_path", "_law_other"] [V.ref pw] = ([some (V.ref pw), none, none, none, none, none, none, none] : List (Option V)) from rfl]
    walk_at "go"
    refine ⟨pw, a, b, c, N, rfl, hpw, wo, by omega, fun r kd tl bd t0 TT n t a1 c1 H1 hn B hT hnew hnd ht h1 wo1 f1 => ?_⟩
    obtain ⟨bk, R, ⟨kvs, hbd, bn⟩, fls, tls, ht0, al3⟩ := id B
    simp only [List.nodup_cons, List.mem_cons, List.not_mem_nil, or_false, not_or] at hnd
    obtain ⟨⟨np1, np2, np3, np4⟩, ⟨nk1, nk2, nk3⟩, ⟨nt1, nt2⟩, nb1, _⟩ := hnd
    have hTc : ∀ c, c ∈ TT → c.all.length ≤ 1000 := fun c hc => Nat.le_trans (al3 c hc) (by decide)
    refine r_gtup (SqT.of ht) rfl ?_
    have BA : BkAt H1 pw bd TT kvs a1 b c1 (N + 40) := ⟨h1, wo1, hbd, bn, ⟨_, bk⟩, by rw [bk.tl]; omega, by omega⟩
    walk_at "go"
    refine ⟨pw, bd, TT, kvs, a1, b, c1, N + 40, rfl, BA, by omega, fun sa sg a2 c2 H2 sgl sgm hsa h2 wo2 f2 => ?_⟩
    have nsp : sa ≠ pw := ne_of hsa h2 (by
      intro z
      unfold wl at z
      cases z)
    have sgL : sg.length ≤ 2 := by omega
    walk_at "go"
    refine ⟨pw, 24, a2, b, c2, N + 43, rfl, by decide, by decide, h2, wo2, by omega, fun d3 a3 c3 H3 d30 d31 wo3 f3 h3 => ?_⟩
    obtain ⟨m1, rfl⟩ : ∃ m1 : Nat, d3 = m1 := ⟨d3.toNat, by omega⟩
    have hsa3 := f3 _ _ (by simpa using nsp) hsa
    have k3 := KH.start1 h3
    walk_at "go"
    refine ⟨sa, _, rfl, .inr (SqT.of hsa3), ?_⟩
    walk_at "go"
    rename_i ln H4 n4 k4
    have f34 : Wc.Fr [pw] H3 H4 := k4.fr
    have f14 := (f2.trans f3).trans f34
    refine ⟨pw, bd, TT, kvs, a3, b, c3, N + 44, 1 + m1, sg.length, ln, [], (by rw [List.length_map, show ((1 + m1 : Nat) : Int) = 1 + (m1 : Int) by omega] <;> rfl), BA.fr f14 (by have z := KH.find (p := pw) k4 (by walk_at "lk"); exact z) wo3 (by omega), by omega, by omega, by omega, by decide, by omega, by omega, (by have z := KH.find (p := ln) k4 (by walk_at "lk"); exact z), by simp; omega, (fun x hx => by cases hx), fun u d a5 c5 H5 g1 g2 g3 g4 g5 h5 wo5 f45 => ?_⟩
    have f15 : Wc.Fr [pw] H1 H5 := f14.trans f45
    have f05 := f1.trans f15
    have m15 : Mo H1 H5 := Mo.fr1 f15 h1 rfl
    have R5 : RtW K CK CR H5 r kd tl TT n := R.fr f15 m15 (by simpa using Ne.symm np1) (by simpa using Ne.symm np2)
    have tls5 := f15 _ _ (by simpa using Ne.symm np2) tls
    have ht05 := f15 _ _ (by simpa using Ne.symm np4) ht0
    have hsa5 := f45 _ _ (by simpa using nsp) (f34 _ _ (by simpa using nsp) hsa3)
    clear k3 k4
    have sgW : sg.length = 1 ∨ sg.length = 2 := sgl
    have sgN : ∀ x, x ∈ sg → x.length ≤ 1000 ∧ PyData.strOk x = true := fun x hx => by
      obtain ⟨cc, hcc, rfl⟩ := List.mem_map.mp (sgm x hx)
      have := bkN_ok _ (bk.nm cc hcc)
      exact ⟨by omega, this.2.2⟩
    have sgz : sigD TT (sgD sg) = true := sig_ok bk sgW sgm
    have ksh := mKey_sh fun x hx => (sgN x hx).2
    have fsd : Fs TT d := g1.2
    have lnd : (paths d).length ≤ 24 := by rw [g1.1]; omega
    have dpd : dep d ≤ 24 := by omega
    have shd := shapedD g5 (show dep d ≤ 64 by omega)
    have ch0 : chk TT 24 [⟨d, [], sg.length, []⟩] = none := by rw [chk_small fsd lnd]; exact none_okc.mpr g2
    have bet : betD 1 2 (.int ((sg.length : Nat) : Int)) = true := bet12 sgW
    clear BA B
    walk_at "go"
    refine ⟨r, kd, tl, TT, n, rfl, R5.at_, ?_⟩
    walk_at "go"
    refine ⟨sa, _, rfl, .inr (SqT.of hsa5), ?_⟩
    walk_at "go"
    refine ⟨r, kd, tl, TT, n, u, d, .int ((sg.length : Nat) : Int), .int ((sg.length : Nat) : Int), by rw [List.length_map] <;> rfl, R5.at_, hTc, g4, .int _, (fun z => by rw [bet] at z; cases z), fun _ => ⟨sg.length, rfl, fun _ H6 e6 => ?_, fun l hl => by rw [ch0] at hl; cases hl⟩⟩
    have R6 := R5.fr (A := []) e6.fr e6.mo (by simp) (by simp)
    have d6 := dtMo e6.mo _ _ g5 g4
    have tls6 := e6 _ _ tls5
    have ht06 := e6 _ _ ht05
    have hsa6 := e6 _ _ hsa5
    have h6 := e6 _ _ h5
    have f06 := f05.trans e6.fr
    walk_at "go"
    refine ⟨rfl, _, rfl, ?_⟩
    rw [show (!decide (V.non = V.non)) = false from by decide]
    walk_at "go"
    refine ⟨r, kd, tl, TT, n, rfl, R6.at_, ?_⟩
    walk_at "go"
    rw [show (!decide (V.int (n : Nat) = V.int (n : Nat))) = false from by rw [decide_eq_true rfl] <;> rfl]
    walk_at "go"
    refine ⟨r, kd, tl, TT, n, "f", sa, sg, u, d, rfl, R6.at_, hTc, by decide +kernel, by decide +kernel, hsa6, by omega, fun x hx => (sgN x hx).1, sgz, d6, (fun l hl => by rw [ch0] at hl; cases hl), fun _ => ?_⟩
    refine ⟨keyOf d, _, t0, [], false, by omega, keyAt _ _ g5 d6, (by rw [datK_keyOf]; exact shd), tls6, by simp, .inr ⟨rfl, ht06⟩, by simp, .inl ⟨rfl, rfl⟩, (fun z => by cases z), fun _ td H7 ntd f7 R7 hl7 nd7 => ?_⟩
    have m67 : Mo H6 H7 := Mo.fr1 f7 tls6 rfl
    obtain ⟨kv6, hkd6⟩ := R6.kd
    have RW7 : RtW K CK CR H7 r kd tl TT (n + 1) := ⟨R7, kv6, f7 _ _ (by simpa using nk1) hkd6⟩
    have hsa7 := m67 _ _ rfl hsa6
    have d7 := dtMo m67 _ _ g5 d6
    have h7 := f7 _ _ (by simpa using np2) h6
    have ntl : H tl = none := hnew _ (by simp)
    have f07 : Wc.Fr [pw] H H7 := Fr.outA f06 f7 (fun q hq => by
      rw [show q = tl by simpa using hq]
      exact .inr ntl)
    have ht07 := f7 _ _ (by simpa using Ne.symm nt2) ht06
    have ntdp : td ≠ pw := ne_of_none h6 ntd |>.symm
    have ntdl : td ≠ tl := (ne_of_none tls6 ntd).symm
    clear R5 R6 tls5 hsa5 ht05
    walk_at "go"
    rw [show (!decide (V.int ((n + 1 : Nat) : Int) = V.int ((n : Int) + 1))) = false from by rw [decide_eq_true (by rw [show ((n + 1 : Nat) : Int) = (n : Int) + 1 by omega])] <;> rfl]
    walk_at "go"
    have ix7 : (List.replicate (n + 1) (V.ref t0) ++ [V.ref td])[n + 1]? = some (.ref td) := by
      rw [List.getElem?_append_right (by simp)]
      simp
    have nd7 : ND P w H7 td [(mKey "f" sg, u)] := nd7
    refine ⟨r, kd, tl, TT, n + 1, "f", sa, sg, .non, .oth, n + 1, _, td, _, u, rfl, R7, by decide +kernel, by decide +kernel, hsa7, by omega, fun x hx => (sgN x hx).1, sgz, dt_non, rfl, hl7, ix7, .inl nd7, val_self, fun H8 e8 => ?_⟩
    have RW8 := RW7.fr (A := []) e8.fr e8.mo (by simp) (by simp)
    have d8 := dtMo e8.mo _ _ g5 d7
    walk_at "go"
    refine ne_data (datAt _ _ g5 d8) (datAt _ _ g5 d8) shd ?_
    have hsa8 := e8 _ _ hsa7
    have hl8 := e8 _ _ hl7
    have h8 := e8 _ _ h7
    have ht08 := e8 _ _ ht07
    have nd8 := ndExt nd7 e8
    have f08 : Wc.Fr [pw] H H8 := f07.trans e8.fr
    obtain ⟨w0, l0, hl0⟩ := form_word (fsd [] (paths_nil d))
    have hl0 : d = .tup (.str w0 :: l0) := hl0
    clear R7 RW7 d7 hsa7 hl7 h7 nd7 ht07 f07
    walk_at "go"
    refine ⟨u, .str w0 :: l0, rfl, hl0 ▸ d8, hl0 ▸ g5, hl0 ▸ dpd, fun u2 H9 e9 du2 => ?_⟩
    rw [← hl0] at du2
    have d9 := dtMo e9.mo _ _ g5 d8
    have RW9 := RW8.fr (A := []) e9.fr e9.mo (by simp) (by simp)
    have nd9 := ndExt nd8 e9
    refine ⟨r, kd, tl, TT, n + 1, "f", sa, sg, u2, d, rfl, RW9.at_, hTc, by decide +kernel, by decide +kernel, e9 _ _ hsa8, by omega, fun x hx => (sgN x hx).1, sgz, du2, (fun l hl => by rw [ch0] at hl; cases hl), fun _ => ?_⟩
    refine ⟨keyOf d, _, td, _, true, by omega, keyAt _ _ g5 du2, (by rw [datK_keyOf]; exact shd), e9 _ _ hl8, ix7, .inl nd9, by simp, .inr ⟨u, keyOf d, val_self, keyAt _ _ g5 d9, (by rw [datK_keyOf]; exact shd), (by rw [datK_keyOf]; exact shaped_refl shd)⟩, fun _ H10 e10 => ?_, (fun z => by cases z)⟩
    have e810 := e9.trans e10
    have RW10 := RW8.fr (A := []) e810.fr e810.mo (by simp) (by simp)
    have d10 := dtMo e810.mo _ _ g5 d8
    have nd10 := ndExt nd8 e810
    have hsa10 := e810 _ _ hsa8
    have hl10 := e810 _ _ hl8
    have h10 := e810 _ _ h8
    have ht010 := e810 _ _ ht08
    have f010 : Wc.Fr [pw] H H10 := f08.trans e810.fr
    clear RW8 RW9 d8 d9 nd8 nd9 hsa8 hl8 h8 ht08 f08 du2
    walk_at "go"
    rw [show (!decide (V.int ((n + 1 : Nat) : Int) = V.int ((n : Int) + 1))) = false from by rw [decide_eq_true (by rw [show ((n + 1 : Nat) : Int) = (n : Int) + 1 by omega])] <;> rfl]
    walk_at "go"
    refine ⟨r, kd, tl, TT, n + 1, .non, .oth, n + 1, _, td, _, rfl, RW10.at_, dt_non, rfl, hl10, ix7, .inl nd10, by simp, fun p11 bs H11 np11 e11 hp11 pr11 => ?_⟩
    obtain ⟨b11, rfl, hb11⟩ : ∃ b11, bs = [b11] ∧ NKey H11 b11 (mKey "f" sg) := by
      cases pr11 with
      | cons h t =>
        cases t
        exact ⟨_, rfl, h⟩
    have k11 := (KH.start (H := H11))
    walk_at "go"
    rename_i t12 H12 n12 k12 l13 H13 n13 k13
    have e1113 := k13.extE
    have hsa13 := e1113 _ _ (e11 _ _ hsa10)
    refine ne_data (d := .list [datK (mKey "f" sg)]) (.lst (SqL.of (e1113 _ _ hp11)) (.cons (keyDp _ _ (KeyV.mo e1113.mo _ _ hb11.2.1)) .nil)) (.lst (SqL.of (k13.find .here)) (.cons (keyDp _ _ (mKey_at (by have z := KH.find (p := t12) k13 (by walk_at "lk"); exact z) hsa13).2.1) .nil)) ksh ?_
    have e1013 := e11.trans e1113
    have RW13 := RW10.fr (A := []) e1013.fr e1013.mo (by simp) (by simp)
    have d13 := dtMo e1013.mo _ _ g5 d10
    have nd13 := ndExt nd10 e1013
    have hl13 := e1013 _ _ hl10
    have h13 := e1013 _ _ h10
    have ht013 := e1013 _ _ ht010
    have f013 : Wc.Fr [pw] H H13 := f010.trans e1013.fr
    clear RW10 d10 nd10 hsa10 hl10 h10 ht010 f010 k11 k12 k13 pr11
    walk_at "go"
    refine ⟨u, d, rfl, d13, g5, fsd.tr, by omega, by omega, fun lp ps H14 e14 nlp hlp pps => ?_⟩
    have pl := Paired.length pps
    have p0 : 0 < (paths d).length := List.length_pos_of_mem (paths_nil d)
    have h14 := e14 _ _ h13
    walk_at "go"
    refine ⟨pw, lp, ps, a5, b, c5, N + 44 + 50 * (1 + m1), rfl, h14, SqL.of hlp, by omega, by omega, ne_of_none h13 nlp, wo5, by omega, fun y a15 c15 H15 hy wo15 f15' h15 => ?_⟩
    obtain ⟨p, hp, tp, rfl, htp⟩ := paired_left pps _ hy
    have m1415 : Mo H14 H15 := Mo.fr1 f15' h14 rfl
    have m1315 : Mo H13 H15 := e14.mo.trans m1415
    have f1315 : Wc.Fr [pw] H13 H15 := e14.fr.trans f15'
    have RW15 := RW13.fr f1315 m1315 (by simpa using Ne.symm np1) (by simpa using Ne.symm np2)
    have d15 := dtMo m1315 _ _ g5 d13
    have hsa15 := f1315 _ _ (by simpa using nsp) hsa13
    have nd15 : ND P w H15 td _ := nd13.fr m1315 fun o z _ => f1315 _ _ (by simpa using ntdp) z
    have hl15 := f1315 _ _ (by simpa using Ne.symm np2) hl13
    have ht015 := f1315 _ _ (by simpa using Ne.symm np4) ht013
    have htp15 := m1415 _ _ rfl htp
    have f015 : Wc.Fr [pw] H H15 := f013.trans f1315
    clear RW13 d13 nd13 hl13 h13 ht013 f013 h14 hsa13
    iterate 9 walk_at "st"
    with_reducible refine' mid_if (fun x H' => ∃ i : Int, (i = 7 ∨ i = 8) ∧ PyData.eqv (datD (atP d p)) (datD (intD_ i)) = false ∧ Wc.Ext H15 H' ∧ DtAt K H' x (intD_ i)) (fun Q' hQ' => ?_) (fun x H16 hx => ?_)
    · walk_at "go"
      refine ⟨u, d, tp, p, rfl, d15, g5, htp15, (fsd.tr p hp).1, fun v16 H16 e16 dv16 pv16 => ?_⟩
      have shp : SeqAt.shaped (datD (atP d p)) = true := by
        obtain ⟨_, sm2⟩ := sub_small hp
        exact shapedD pv16 (by omega)
      have k16 := KH.start (H := H16)
      walk_at "go"
      rename_i t17 H17 n17 k17
      refine ⟨datD (atP d p), datD (intD_ 7), datAt _ _ pv16 (dtMo k17.extE.mo _ _ pv16 dv16), .tup (SqT.of (k17.find .here)) (.cons (.str _) (.cons (.int _) .nil)), shp, shapedD (intD_fs (T := TT) (by decide) (by decide)).2.2.2.1 (by rw [(intD_fs (T := TT) (i := 7) (by decide) (by decide)).2.2.2.2]; decide), ?_⟩
      have e1517 := e16.trans k17.extE
      cases hq : PyData.eqv (datD (atP d p)) (datD (intD_ 7)) with
      | false =>
        walk_at "go"
        rename_i t18 H18 n18 k18
        exact hQ' _ _ ⟨7, .inl rfl, hq, e16.trans k18.extE, .tup (k18.find .here) (by simp) (.cons (.str (by decide +kernel)) (.cons (.int _) .nil))⟩
      | true =>
        walk_at "go"
        rename_i t18 H18 n18 k18
        refine hQ' _ _ ⟨8, .inr rfl, ?_, e16.trans k18.extE, .tup (k18.find .here) (by simp) (.cons (.str (by decide +kernel)) (.cons (.int _) .nil))⟩
        rw [int_eq hq]
        exact int_ne (by decide)
    obtain ⟨i, hi, hne, e16, dx16⟩ := hx
    obtain ⟨fsI, lnI, okI, puI, dpI⟩ := intD_fs (T := TT) (i := i) (by omega) (by omega)
    have plp := paths_len hp
    walk_at "go"
    refine ⟨u, d, tp, p, x, intD_ i, rfl, dtMo e16.mo _ _ g5 d15, g5, e16 _ _ htp15, (fsd.tr p hp).1, by omega, dx16, puI, fun x2 H17 e17 dg pg => ?_⟩
    have fsg : Fs TT (putP d p (intD_ i)) := put_fs fsI p d hp fsd
    have lng := put_small lnI p d hp fsd
    have dpg := put_dep (e := intD_ i) p d hp
    have okg : Okc (sg.length, []) (putP d p (intD_ i)) := put_okc (T := TT) (fun q _ => okI q) p d (sg.length, []) hp fsd g2 (by show 1 ≤ sg.length; omega)
    have neg := put_ne p d hp fsd hne
    generalize putP d p (intD_ i) = g at dg pg fsg lng dpg okg neg
    have shg := shapedD pg (show dep g ≤ 64 by omega)
    have chg : chk TT 24 [⟨g, [], sg.length, []⟩] = none := by rw [chk_small fsg (by omega)]; exact none_okc.mpr okg
    have e1517 := e16.trans e17
    have RW17 := RW15.fr (A := []) e1517.fr e1517.mo (by simp) (by simp)
    have d17 := dtMo e1517.mo _ _ g5 d15
    have nd17 := ndExt nd15 e1517
    have hsa17 := e1517 _ _ hsa15
    have hl17 := e1517 _ _ hl15
    have ht017 := e1517 _ _ ht015
    have f017 : Wc.Fr [pw] H H17 := f015.trans e1517.fr
    clear RW15 d15 nd15 hsa15 hl15 ht015 f015
    walk_at "go"
    refine ⟨r, kd, tl, TT, n + 1, "f", sa, sg, x2, g, rfl, RW17.at_, hTc, by decide +kernel, by decide +kernel, hsa17, by omega, fun x hx => (sgN x hx).1, sgz, dg, (fun l hl => by rw [chg] at hl; cases hl), fun _ => ?_⟩
    refine ⟨keyOf g, _, td, _, false, by omega, keyAt _ _ pg dg, (by rw [datK_keyOf]; exact shg), hl17, ix7, .inl nd17, by simp, .inr ⟨u, keyOf d, val_self, keyAt _ _ g5 d17, (by rw [datK_keyOf]; exact shd), (by rw [datK_keyOf, datK_keyOf]; exact neg)⟩, (fun z => by cases z), fun _ td2 H18 ntd2 f18 R18 hl18 nd18 => ?_⟩
    have m1718 : Mo H17 H18 := Mo.fr1 f18 hl17 rfl
    obtain ⟨kv17, hkd17⟩ := RW17.kd
    have RW18 : RtW K CK CR H18 r kd tl TT (n + 1 + 1) := ⟨R18, kv17, f18 _ _ (by simpa using nk1) hkd17⟩
    rw [put_self] at nd18
    have d18 := dtMo m1718 _ _ g5 d17
    have dg18 := dtMo m1718 _ _ pg dg
    have ndo18 : ND P w H18 td _ := nd17.fr m1718 fun o z _ => f18 _ _ (by simpa using ntdl) z
    have hsa18 := m1718 _ _ rfl hsa17
    have ht018 := f18 _ _ (by simpa using Ne.symm nt2) ht017
    have f018 : Wc.Fr [pw] H H18 := Fr.outA f017 f18 (fun q hq => by
      rw [show q = tl by simpa using hq]
      exact .inr ntl)
    clear RW17 d17 dg nd17 hsa17 hl17 ht017 f017
    walk_at "go"
    rw [show (!decide (V.int ((n + 1 + 1 : Nat) : Int) = V.int ((n : Int) + 2))) = false from by rw [decide_eq_true (by rw [show ((n + 1 + 1 : Nat) : Int) = (n : Int) + 2 by omega])] <;> rfl]
    walk_at "go"
    refine ⟨r, kd, tl, TT, n + 1 + 1, rfl, R18, ?_⟩
    walk_at "go"
    rw [show (!decide (V.int ((n + 1 + 1 : Nat) : Int) = V.int ((n : Int) + 2))) = false from by rw [decide_eq_true (by rw [show ((n + 1 + 1 : Nat) : Int) = (n : Int) + 2 by omega])] <;> rfl]
    walk_at "go"
    have ix18 : ((List.replicate (n + 1) (V.ref t0) ++ [V.ref td]) ++ [V.ref td2])[n + 1 + 1]? = some (.ref td2) := by
      rw [List.getElem?_append_right (by simp)]
      simp
    have ix18b : ((List.replicate (n + 1) (V.ref t0) ++ [V.ref td]) ++ [V.ref td2])[n + 1]? = some (.ref td) := by
      rw [List.getElem?_append_left (by simp)]
      exact ix7
    have ix18c : ((List.replicate (n + 1) (V.ref t0) ++ [V.ref td]) ++ [V.ref td2])[n]? = some (.ref t0) := by
      rw [List.getElem?_append_left (by simp; omega), List.getElem?_append_left (by simp)]
      simp
    refine ⟨r, kd, tl, TT, n + 1 + 1, "f", sa, sg, .non, .oth, n + 1 + 1, _, td2, _, x2, rfl, R18, by decide +kernel, by decide +kernel, hsa18, by omega, fun x hx => (sgN x hx).1, sgz, dt_non, rfl, hl18, ix18, .inl nd18, val_self, fun H19 e19 => ?_⟩
    walk_at "go"
    refine ne_data (datAt _ _ pg (dtMo e19.mo _ _ pg dg18)) (datAt _ _ pg (dtMo e19.mo _ _ pg dg18)) shg ?_
    walk_at "go"
    refine r_callN ?_
    walk_at "go"
    refine ⟨rfl, rfl, ?_⟩
    have RW19 := RW18.fr (A := []) e19.fr e19.mo (by simp) (by simp)
    refine ⟨r, kd, tl, TT, n + 1 + 1, "f", sa, sg, .int ((n : Int) + 1), .int ((n : Int) + 1), n + 1, _, td, _, u, rfl, RW19.at_, by decide +kernel, by decide +kernel, e19 _ _ hsa18, by omega, fun x hx => (sgN x hx).1, sgz, .int _, worldI_in (n := n + 1 + 1) (i := n + 1) (by omega), e19 _ _ hl18, ix18b, .inl (ndExt ndo18 e19), val_self, fun H20 e20 => ?_⟩
    have e1820 := e19.trans e20
    walk_at "go"
    have d20 := dtMo e1820.mo _ _ g5 d18
    refine ne_data (datAt _ _ g5 d20) (datAt _ _ g5 d20) shd ?_
    walk_at "go"
    refine r_callN ?_
    walk_at "go"
    refine ⟨rfl, rfl, ?_⟩
    have RW20 := RW18.fr (A := []) e1820.fr e1820.mo (by simp) (by simp)
    refine ⟨r, kd, tl, TT, n + 1 + 1, .int (n : Nat), .int (n : Nat), n, _, t0, [], rfl, RW20.at_, .int _, worldI_in (by omega), e1820 _ _ hl18, ix18c, .inr ⟨rfl, e1820 _ _ ht018⟩, by simp, fun p21 bs H21 np21 e21 hp21 pr21 => ?_⟩
    cases pr21
    have k21 := (KH.start (H := H21))
    walk_at "go"
    rename_i l22 H22 n22 k22
    refine ⟨.list [], .list [], .lst (SqL.of (k22.extE _ _ hp21)) .nil, .lst (SqL.of (k22.find .here)) .nil, rfl, rfl, ?_⟩
    rw [show PyData.eqv (.list []) (.list []) = true from rfl]
    have e1822 := (e1820.trans e21).trans k22.extE
    have RW22 := RW18.fr (A := []) e1822.fr e1822.mo (by simp) (by simp)
    walk_at "go"
    refine ⟨sa, _, rfl, .inr (SqT.of (e1822 _ _ hsa18)), ?_⟩
    walk_at "go"
    refine ⟨r, kd, tl, TT, n + 1 + 1, x2, g, .int ((sg.length : Nat) : Int), .int ((sg.length : Nat) : Int), by rw [List.length_map] <;> rfl, RW22.at_, hTc, dtMo e1822.mo _ _ pg dg18, .int _, (fun z => by rw [bet] at z; cases z), fun _ => ⟨sg.length, rfl, fun _ H23 e23 => ?_, fun l hl => by rw [chg] at hl; cases hl⟩⟩
    walk_at "go"
    refine ⟨rfl, ?_⟩
    rw [show decide (V.non = V.non) = true from decide_eq_true rfl]
    exact k _ ((f018.trans e1822.fr).trans e23.fr)
def spLaw (K : PySem.W.Frag) : Sp := fun vs H Q _ => ∃ (a : Addr) (ns : List Int), vs = [.ref a] ∧ SqL K H a (ns.map V.int) ∧ ns.length ≤ 63 ∧ ∀ H', Q (.bl true) H'
theorem ok_law (F : FnP K "law" s_law f fd) (T : Bt mg) (D_l_well : DfOk P w K mg base CX0 1 "_law_well" ["_law_cell"] spWell) (D_l_right : DfOk P w K mg base CX0 29 "_law_right" ["_law_well_here"] (spRight K)) : FnOk P w K mg base CX0 30 f fd ["_law_script"] (spLaw K) := by
  refine F.ok sc_law (fun vs H Q E h => ?_) (fun cdv A outer s H vs Q E hr h => ?_)
  · obtain ⟨a, ns, rfl, _⟩ := h
    rfl
  · refine ⟨_, PSs.nox (pss_cons (ps_for PassesOwn.never rfl (pi_list (pe_op op_cat (pe_slice sl_list (pv 0) po_none (po_some pe_int)) (pe_lst (pa_cons pe_int pa_nil)))) (pg_name (i := 1) sc_law.nd rfl (by first | exact Or.inl rfl | exact Or.inr rfl)) (pss_one (ps_if (pt_not (pt_val (pe_callD D_l_right hr (pa_cons (pe_callD D_l_well hr (pa_cons (pv 1) pa_nil)) pa_nil)))) (pss_one (ps_ret pe_bl)) pss_nil)))
      (pss_one (ps_ret pe_bl))), ?_⟩
    obtain ⟨a, ns, rfl, hS, hlen, k⟩ := h
    rw [show L2.start ["_law_script", "_law_cell"] [V.ref a] = ([some (V.ref a), none] : List (Option V)) from rfl]
    have kh := KH.start (H := H)
    walk_at "go"
    refine r_cat (by walk_at "hp") (by walk_at "hp") (sz_of (by have := cutV_length (ns.map V.int) none (some 6); simp at *; omega)) ?_
    walk_at "go"
    rename_i l H1 nl k1
    refine ForG.mk (xs := cutV (ns.map V.int) none (some 6) ++ [V.int 0]) (fun i σ H2 => (∃ v1 : Option V, σ = [some (.ref a), v1]) ∧ Wc.Ext H1 H2)
      ⟨⟨_, rfl⟩, Wc.Ext.refl _⟩ (fun i σ H2 _ z => SqL.of (z.2 _ _ (k1.find .here))) ?_ ?_
    · rintro i x σ H2 hx ⟨⟨v1, rfl⟩, e2⟩
      obtain ⟨c, rfl⟩ : ∃ c, x = V.int c := by
        rcases List.mem_append.mp (List.mem_of_getElem? hx) with z | z
        · obtain ⟨c, _, e⟩ := List.mem_map.mp (mem_cutV z)
          exact ⟨c, e.symm⟩
        · simp at z
          exact ⟨_, z⟩
      have kh := KH.start (H := H2)
      walk_at "go"
      refine ⟨c, rfl, fun aw bw wo => ?_⟩
      walk_at "go"
      rename_i pw Hw nw kw
      have e2w : Wc.Ext H2 Hw := kw.extE
      have hpw := kw.find (p := pw) (o := wl aw bw 0) .here
      refine ⟨pw, aw, bw, 0, 0, rfl, hpw, wo, by omega, fun H3 f3 => ?_⟩
      walk_at "go"
      exact ⟨⟨_, rfl⟩, e2.trans (e2w.frN f3 nw)⟩
    · rintro σ H2 ⟨⟨v1, rfl⟩, _⟩
      walk_at "go"
      exact k _
end
end K10


set_option Elab.async false
set_option linter.all false
set_option maxRecDepth 100000
set_option maxHeartbeats 8000000
namespace K10
open PySem L2 Wc
local macro_rules | `(tactic| walk_at "lk") => `(tactic| first | with_reducible exact Look.here | (with_reducible apply Look.there; walk_at "lk"))
local macro_rules | `(tactic| walk_at "ul") => `(tactic| first | with_reducible exact UpL.here | (with_reducible apply UpL.there; walk_at "ul"))
local macro_rules | `(tactic| walk_at "ga") => `(tactic| first | exact GetAt.here | (apply GetAt.there; walk_at "ga"))
local macro_rules | `(tactic| walk_at "sa") => `(tactic| first | exact SetAt.here | (apply SetAt.there; walk_at "sa"))
local macro_rules | `(tactic| walk_at "hp") => `(tactic| first | assumption | (refine' KH.find ?k ?h; (case k => assumption); (case h => walk_at "lk")))
local macro_rules | `(tactic| walk_at "sql") => `(tactic| first | assumption | (refine' SqL.of ?h; (case h => walk_at "hp")) | (refine' Fr.sql (KH.fr ?k) ?n ?h; (case k => assumption); (case h => assumption); (case n => (simp; done))))
local macro_rules | `(tactic| walk_at "sqt") => `(tactic| first | assumption | (refine' SqT.of ?h; (case h => walk_at "hp")))
local macro_rules | `(tactic| walk_at "side") => `(tactic| first | exact (show (0 : Int) < _ by decide) | exact (show (0 : Int) < _ by omega) | exact ⟨by decide, by decide, by decide⟩ | exact ⟨by decide, by decide, by omega⟩ | exact ⟨by decide, by decide⟩ | exact ⟨by omega, by omega⟩ | exact Or.inl ⟨by omega, by omega⟩ | exact Or.inr ⟨by omega, by omega⟩)
local macro_rules | `(tactic| walk_at "siz") => `(tactic| first | (refine sz_of ?_; first | decide | omega | (simp; done) | (simp; omega)) | (refine sz_lt ?_; first | decide | omega | (simp; done) | (simp; omega)))
local macro_rules | `(tactic| walk_at "own") => `(tactic| first | (exact Or.inr (by assumption)) | (refine Or.inl ?_; simp; done))
local macro_rules | `(tactic| walk_at "al") => `(tactic| (refine' AllocO.mk ?k ?_; (case k => assumption); intro _ _ _ _))
local macro_rules | `(tactic| walk_at "up") => `(tactic| (refine' UpdO.mk ?k ?h ?m ?_; (case k => assumption); (case h => walk_at "ul"); (case m => walk_at "own"); intro _ _))
local macro_rules | `(tactic| walk_at "st") => `(tactic| first
  | ((with_reducible refine' r_var ?h ?_); (case h => walk_at "ga"))
  | (with_reducible refine' r_seq ?_) | (with_reducible refine' r_next ?_) | (with_reducible refine' r_asg ?_) | (with_reducible refine' r_drop ?_) | (with_reducible refine' r_ret ?_) | (with_reducible refine' r_retN ?_)
  | (with_reducible refine' r_ifs ?_) | (with_reducible refine' r_cont ?_) | (with_reducible refine' r_break ?_) | (with_reducible refine' r_c ?_) | (with_reducible refine' r_op ?_) | (with_reducible refine' r_un ?_)
  | (with_reducible refine' r_test ?_) | (with_reducible refine' r_tB ?_) | (with_reducible refine' r_not ?_) | (with_reducible refine' r_and ?_) | (with_reducible refine' r_or ?_) | (with_reducible refine' r_notV ?_)
  | (with_reducible refine' r_andV ?_) | (with_reducible refine' r_orV ?_) | (with_reducible refine' r_ifE ?_) | (with_reducible refine' r_bl ?_) | (with_reducible refine' r_nil ?_) | (with_reducible refine' r_cons ?_)
  | (with_reducible refine' r_tup ?_) | (with_reducible refine' r_lst ?_) | (with_reducible refine' r_cb ?_) | (with_reducible refine' r_call ?_) | ((with_reducible refine' r_name ?h ?_); (case h => walk_at "sa")) | (with_reducible refine' r_gnil ?_)
  | (with_reducible refine' r_gcons ?_) | (with_reducible refine' r_gsub ?_) | (with_reducible refine' r_par ?_) | (with_reducible refine' r_par2 ?_) | (with_reducible refine' r_I0 ?_) | (with_reducible refine' r_U ?_)
  | ((with_reducible refine' r_eq ?h ?_); (case h => rfl)) | ((with_reducible refine' r_ne ?h ?_); (case h => rfl))
  | ((with_reducible refine' r_ixL ?h ?a ?_); (case h => walk_at "sql"); (case a => rfl))
  | ((with_reducible refine' r_ixT ?h ?a ?_); (case h => walk_at "sqt"); (case a => rfl))
  | ((with_reducible refine' r_setL ?h ?a ?_); (case h => walk_at "hp"); (case a => rfl))
  | ((with_reducible refine' r_I ?c ?_); (case c => walk_at "side"))
  | (with_reducible refine' r_sl ?_) | (with_reducible refine' r_part ?_) | (with_reducible refine' r_nopart ?_) | (with_reducible refine' r_ii ?_)
  | ((with_reducible refine' r_slL ?h ?_); (case h => walk_at "sql"))
  | (with_reducible refine' r_bm ?_) | (with_reducible refine' r_bm0 ?_) | (with_reducible refine' r_int1 ?_) | (with_reducible refine' r_int1b ?_)
  | ((with_reducible refine' r_aug ?h ?_); (case h => walk_at "ga"))
  | ((with_reducible refine' r_cat ?a ?b ?z ?_); (case a => walk_at "hp"); (case b => walk_at "hp"); (case z => walk_at "siz"))
  | ((with_reducible refine' r_append ?a ?z ?_); (case a => walk_at "hp"); (case z => walk_at "siz"))
  | ((with_reducible refine' And.intro ?z ?_); (case z => first | walk_at "siz" | exact Or.inl ⟨rfl, _, by walk_at "sql"⟩))
  | ((with_reducible refine' r_gtup ?h ?l ?_); (case h => walk_at "sqt"); (case l => rfl))
  | (with_reducible refine' r_forL ?_) | (with_reducible refine' r_forE ?_) | (with_reducible refine' r_forR ?_) | ((with_reducible refine' r_forL2 ?h ?_); (case h => walk_at "sql")) | ((with_reducible refine' r_forE2 ?h ?_); (case h => walk_at "sql"))
  | (with_reducible refine' r_lcR ?_) | ((with_reducible refine' r_iteT ?h ?_); (case h => rfl)) | ((with_reducible refine' r_iteF ?h ?_); (case h => rfl))
  | (with_reducible refine' r_dnew ?_) | (with_reducible refine' r_vei ?_) | (with_reducible refine' r_ost ?_) | (with_reducible refine' r_mkV ?_) | (with_reducible refine' r_mkX ?_) | (with_reducible refine' r_xfld ?_)
  | ((with_reducible refine' MkG.mk ?o ?n ?k ?_); (case o => exact ErrOk.o (by assumption)); (case n => exact ErrOk.no (by assumption)); (case k => assumption); intro _ _ _ _)
  | ((with_reducible refine' AllocX.mk ?k ?_); (case k => assumption); intro _ _ _ _)
  | (with_reducible refine' r_chain ?_) | (with_reducible refine' r_lcS ?_) | (with_reducible refine' r_lcS2 ?_) | (with_reducible refine' r_lcL ?_) | (with_reducible refine' r_lcT ?_) | (with_reducible refine' r_lcI ?_) | (with_reducible refine' r_yes ?_)
  | (with_reducible refine' r_fld ?_) | (with_reducible refine' r_sfld ?_) | (with_reducible refine' r_meth ?_) | (with_reducible refine' r_make ?_) | (with_reducible refine' r_dget ?_) | (with_reducible refine' r_din ?_) | (with_reducible refine' r_dput ?_)
  | ((with_reducible refine' r_disp ?k ?_); (case k => assumption); intro _ _ _ _) | (with_reducible refine' r_pnil ?_) | (with_reducible refine' r_pcons ?_)
  | (walk_at "al") | (walk_at "up"))
local macro_rules | `(tactic| walk_at "go") => `(tactic| repeat walk_at "st")

section
variable {P : Program} {w : World} {K : PySem.W.Frag} {mg : Str → Option Value} {base : Heap} {f : Addr} {fd : FuncData}
abbrev FnI (K : PySem.W.Frag) (q : Str) (st : Stmt) (f : Addr) (fd : FuncData) : Prop := FunD K "__init__" q (defArgs st) (defBody st) (defScope st) [] [] f fd
theorem ok_init_NoWorld {C Wa : Addr} (F : FnI K "NoWorld.__init__" s_NoWorld_init f fd) (W : BaseIn K Wa) (gW : mg "WorldError" = some (.ref Wa)) : FnOk P w K mg base CX0 1 f fd ["self", "world"] (spInit K C "world") := by
  refine F.ok sc_NoWorld_init (fun vs H Q E h => ?_) (fun cdv A outer s H vs Q E hr h => ?_)
  · obtain ⟨a, v, rfl, _⟩ := h
    rfl
  · refine ⟨_, PSs.nox (pss_cons (ps_expr (pe_winit (by rfl) gW W (pa_cons (pv 0) (pa_cons pe_str pa_nil))))
      (pss_one (ps_ost (pv 0) (pv 1)))), ?_⟩
    obtain ⟨a, v, rfl, ha, o, no, k⟩ := h
    walk_at "go"
    refine ⟨a, C, _, rfl, by simp, o, ha, ?_⟩
    walk_at "go"
    exact ⟨a, C, rfl, o, no, .inl ⟨ha, fun d hd ne => k d hd ne⟩⟩
theorem ok_init_NoClass {C Wa : Addr} (F : FnI K "NoClass.__init__" s_NoClass_init f fd) (W : BaseIn K Wa) (gW : mg "WorldError" = some (.ref Wa)) : FnOk P w K mg base CX0 1 f fd ["self", "name"] (spInit K C "name") := by
  refine F.ok sc_NoClass_init (fun vs H Q E h => ?_) (fun cdv A outer s H vs Q E hr h => ?_)
  · obtain ⟨a, v, rfl, _⟩ := h
    rfl
  · refine ⟨_, PSs.nox (pss_cons (ps_expr (pe_winit (by rfl) gW W (pa_cons (pv 0) (pa_cons pe_str pa_nil))))
      (pss_one (ps_ost (pv 0) (pv 1)))), ?_⟩
    obtain ⟨a, v, rfl, ha, o, no, k⟩ := h
    walk_at "go"
    refine ⟨a, C, _, rfl, by simp, o, ha, ?_⟩
    walk_at "go"
    exact ⟨a, C, rfl, o, no, .inl ⟨ha, fun d hd ne => k d hd ne⟩⟩
theorem ok_init_Taken {C Wa : Addr} (F : FnI K "Taken.__init__" s_Taken_init f fd) (W : BaseIn K Wa) (gW : mg "WorldError" = some (.ref Wa)) : FnOk P w K mg base CX0 1 f fd ["self", "name"] (spInit K C "name") := by
  refine F.ok sc_Taken_init (fun vs H Q E h => ?_) (fun cdv A outer s H vs Q E hr h => ?_)
  · obtain ⟨a, v, rfl, _⟩ := h
    rfl
  · refine ⟨_, PSs.nox (pss_cons (ps_expr (pe_winit (by rfl) gW W (pa_cons (pv 0) (pa_cons pe_str pa_nil))))
      (pss_one (ps_ost (pv 0) (pv 1)))), ?_⟩
    obtain ⟨a, v, rfl, ha, o, no, k⟩ := h
    walk_at "go"
    refine ⟨a, C, _, rfl, by simp, o, ha, ?_⟩
    walk_at "go"
    exact ⟨a, C, rfl, o, no, .inl ⟨ha, fun d hd ne => k d hd ne⟩⟩
theorem ok_init_NoField {C Wa : Addr} (F : FnI K "NoField.__init__" s_NoField_init f fd) (W : BaseIn K Wa) (gW : mg "WorldError" = some (.ref Wa)) : FnOk P w K mg base CX0 1 f fd ["self", "field"] (spInit K C "field") := by
  refine F.ok sc_NoField_init (fun vs H Q E h => ?_) (fun cdv A outer s H vs Q E hr h => ?_)
  · obtain ⟨a, v, rfl, _⟩ := h
    rfl
  · refine ⟨_, PSs.nox (pss_cons (ps_expr (pe_winit (by rfl) gW W (pa_cons (pv 0) (pa_cons pe_str pa_nil))))
      (pss_one (ps_ost (pv 0) (pv 1)))), ?_⟩
    obtain ⟨a, v, rfl, ha, o, no, k⟩ := h
    walk_at "go"
    refine ⟨a, C, _, rfl, by simp, o, ha, ?_⟩
    walk_at "go"
    exact ⟨a, C, rfl, o, no, .inl ⟨ha, fun d hd ne => k d hd ne⟩⟩
theorem ok_init_NoCount {C Wa : Addr} (F : FnI K "NoCount.__init__" s_NoCount_init f fd) (W : BaseIn K Wa) (gW : mg "WorldError" = some (.ref Wa)) : FnOk P w K mg base CX0 1 f fd ["self", "count"] (spInit K C "count") := by
  refine F.ok sc_NoCount_init (fun vs H Q E h => ?_) (fun cdv A outer s H vs Q E hr h => ?_)
  · obtain ⟨a, v, rfl, _⟩ := h
    rfl
  · refine ⟨_, PSs.nox (pss_cons (ps_expr (pe_winit (by rfl) gW W (pa_cons (pv 0) (pa_cons pe_str pa_nil))))
      (pss_one (ps_ost (pv 0) (pv 1)))), ?_⟩
    obtain ⟨a, v, rfl, ha, o, no, k⟩ := h
    walk_at "go"
    refine ⟨a, C, _, rfl, by simp, o, ha, ?_⟩
    walk_at "go"
    exact ⟨a, C, rfl, o, no, .inl ⟨ha, fun d hd ne => k d hd ne⟩⟩
theorem ok_init_NoBody {C Wa : Addr} (F : FnI K "NoBody.__init__" s_NoBody_init f fd) (W : BaseIn K Wa) (gW : mg "WorldError" = some (.ref Wa)) : FnOk P w K mg base CX0 1 f fd ["self", "path"] (spInit K C "path") := by
  refine F.ok sc_NoBody_init (fun vs H Q E h => ?_) (fun cdv A outer s H vs Q E hr h => ?_)
  · obtain ⟨a, v, rfl, _⟩ := h
    rfl
  · refine ⟨_, PSs.nox (pss_cons (ps_expr (pe_winit (by rfl) gW W (pa_cons (pv 0) (pa_cons pe_str pa_nil))))
      (pss_one (ps_ost (pv 0) (pv 1)))), ?_⟩
    obtain ⟨a, v, rfl, ha, o, no, k⟩ := h
    walk_at "go"
    refine ⟨a, C, _, rfl, by simp, o, ha, ?_⟩
    walk_at "go"
    exact ⟨a, C, rfl, o, no, .inl ⟨ha, fun d hd ne => k d hd ne⟩⟩
theorem ok_init_NoFunction {C Wa : Addr} (F : FnI K "NoFunction.__init__" s_NoFunction_init f fd) (W : BaseIn K Wa) (gW : mg "WorldError" = some (.ref Wa)) : FnOk P w K mg base CX0 1 f fd ["self", "function"] (spInit K C "function") := by
  refine F.ok sc_NoFunction_init (fun vs H Q E h => ?_) (fun cdv A outer s H vs Q E hr h => ?_)
  · obtain ⟨a, v, rfl, _⟩ := h
    rfl
  · refine ⟨_, PSs.nox (pss_cons (ps_expr (pe_winit (by rfl) gW W (pa_cons (pv 0) (pa_cons pe_str pa_nil))))
      (pss_one (ps_ost (pv 0) (pv 1)))), ?_⟩
    obtain ⟨a, v, rfl, ha, o, no, k⟩ := h
    walk_at "go"
    refine ⟨a, C, _, rfl, by simp, o, ha, ?_⟩
    walk_at "go"
    exact ⟨a, C, rfl, o, no, .inl ⟨ha, fun d hd ne => k d hd ne⟩⟩
theorem ok_init_NoSignature {C Wa : Addr} (F : FnI K "NoSignature.__init__" s_NoSignature_init f fd) (W : BaseIn K Wa) (gW : mg "WorldError" = some (.ref Wa)) : FnOk P w K mg base CX0 1 f fd ["self", "signature"] (spInit K C "signature") := by
  refine F.ok sc_NoSignature_init (fun vs H Q E h => ?_) (fun cdv A outer s H vs Q E hr h => ?_)
  · obtain ⟨a, v, rfl, _⟩ := h
    rfl
  · refine ⟨_, PSs.nox (pss_cons (ps_expr (pe_winit (by rfl) gW W (pa_cons (pv 0) (pa_cons pe_str pa_nil))))
      (pss_one (ps_ost (pv 0) (pv 1)))), ?_⟩
    obtain ⟨a, v, rfl, ha, o, no, k⟩ := h
    walk_at "go"
    refine ⟨a, C, _, rfl, by simp, o, ha, ?_⟩
    walk_at "go"
    exact ⟨a, C, rfl, o, no, .inl ⟨ha, fun d hd ne => k d hd ne⟩⟩
theorem ok_init_NotThere {C Wa : Addr} (F : FnI K "NotThere.__init__" s_NotThere_init f fd) (W : BaseIn K Wa) (gW : mg "WorldError" = some (.ref Wa)) : FnOk P w K mg base CX0 1 f fd ["self", "signature"] (spInit K C "signature") := by
  refine F.ok sc_NotThere_init (fun vs H Q E h => ?_) (fun cdv A outer s H vs Q E hr h => ?_)
  · obtain ⟨a, v, rfl, _⟩ := h
    rfl
  · refine ⟨_, PSs.nox (pss_cons (ps_expr (pe_winit (by rfl) gW W (pa_cons (pv 0) (pa_cons pe_str pa_nil))))
      (pss_one (ps_ost (pv 0) (pv 1)))), ?_⟩
    obtain ⟨a, v, rfl, ha, o, no, k⟩ := h
    walk_at "go"
    refine ⟨a, C, _, rfl, by simp, o, ha, ?_⟩
    walk_at "go"
    exact ⟨a, C, rfl, o, no, .inl ⟨ha, fun d hd ne => k d hd ne⟩⟩
end
theorem assoc_map {α β : Type} (g : α → β) (l : List (Str × α)) (z : Str) : assocV (l.map fun p => (p.1, g p.2)) z = (assocV l z).map g := by
  unfold assocV
  induction l with
  | nil => rfl
  | cons p l ih =>
    rw [List.map_cons, List.find?_cons, List.find?_cons]
    by_cases h : p.1 = z
    · rw [decide_eq_true h]
      rfl
    · rw [decide_eq_false h]
      exact ih
theorem lens_eq : c_LENGTHS = LENS.map fun p => (p.1, V.int ((p.2 : Nat) : Int)) := rfl
theorem with_eq : c_WITHIN = WITH.map fun p => (p.1, p.2.map fun n => V.int ((n : Nat) : Int)) := rfl
theorem facts {P : Program} {w : World} {K : PySem.W.Frag} {h : Heap} {mg : Str → Option Value} {f : Addr} (X : K.In h) (G : h.Ns mainGlobals mg) (hfa : mg ("law" : Str) = some (.ref f)) (c : SaysZ fa fn ts tf ex w h K) :
    ∃ fd : FuncData, (∀ (s : Shared) (v : Value), BindsTo s fd ⟨[v], []⟩ [("_law_script", v)]) ∧ ∀ base : Heap, K.In base → base.Ns mainGlobals mg → FnOk P w K mg base CX0 30 f fd ["_law_script"] (spLaw K) := by
  have inF : ∀ {f : He.Fa}, f ∈ fa → f.ok K = true := fun hf => c.fact hf
  have glo : ∀ x : Str, x ∈ gloL → mg x = some (.ref (He.ga K x)) := fun x hx => He.glo_ok X G (inF (List.mem_append_left _ (List.mem_map_of_mem hx)))
  have free : ∀ x : Str, x ∈ freeL → mg x = none := fun x hx => He.free_ok X G (inF (List.mem_append_right _ (List.mem_append_left _ (List.mem_map_of_mem hx))))
  have intc : ∀ (x : Str) (i : Int), (x, i) ∈ intL → ∃ t, mg x = some (.int i t) := fun x i hx => He.int_ok X G (inF (List.mem_append_right _ (List.mem_append_right _ (List.mem_append_right _ (List.mem_append_left _ (List.mem_map_of_mem (f := fun p : Str × Int => He.Fa.int p.1 p.2) hx))))))
  have strc : ∀ (x z : Str), (x, z) ∈ strL → ∃ t, mg x = some (.str z t) := fun x z hx => He.str_ok X G (inF (List.mem_append_right _ (List.mem_append_right _ (List.mem_append_right _ (List.mem_append_right _ (List.mem_append_left _ (List.mem_map_of_mem (f := fun p : Str × Str => He.Fa.str p.1 p.2) hx)))))))
  have cl : ∀ x : Str, x ∈ clsL → Cls K (He.ga K x) := fun x hx => He.cls_ok (inF (List.mem_append_right _ (List.mem_append_right _ (List.mem_append_right _ (List.mem_append_right _ (List.mem_append_right _ (List.mem_append_left _ (List.mem_map_of_mem hx))))))))
  have mkr : ∀ x : Str, x ∈ clsL → Mk K (He.ga K x) (He.ma K (He.ga K x) "__init__") := fun x hx => He.mkr_ok (inF (List.mem_append_right _ (List.mem_append_right _ (List.mem_append_right _ (List.mem_append_right _ (List.mem_append_right _ (List.mem_append_right _ (List.mem_append_left _ (List.mem_map_of_mem hx)))))))))
  have na : ∀ x y : Str, (x, y) ∈ noatL → NoAttr K (He.ga K x) y := fun x y hx => He.noat_ok (inF (List.mem_append_right _ (List.mem_append_right _ (List.mem_append_right _ (List.mem_append_right _ (List.mem_append_right _ (List.mem_append_right _ (List.mem_append_right _ (List.mem_append_left _ (List.mem_map_of_mem (f := fun p : Str × Str => He.Fa.noat p.1 p.2) hx))))))))))
  have mth : ∀ x y : Str, (x, y) ∈ methL → Meth K (He.ga K x) y (He.ma K (He.ga K x) y) := fun x y hx => He.meth_ok (inF (List.mem_append_right _ (List.mem_append_right _ (List.mem_append_right _ (List.mem_append_right _ (List.mem_append_right _ (List.mem_append_right _ (List.mem_append_right _ (List.mem_append_right _ (List.mem_map_of_mem (f := fun p : Str × Str => He.Fa.meth p.1 p.2) hx))))))))))
  obtain ⟨x1, x2⟩ := He.ba c.more
  obtain ⟨x2, x3⟩ := He.ba x2
  obtain ⟨x3, x4⟩ := He.ba x3
  have W := baseB_ok x1
  have up : ∀ x, x ∈ kinds → _ := fun x hx => List.all_eq_true.mp x3 x hx
  have kit : ∀ (x y : Str) (b : Bool), x ∈ kinds → y ∈ kinds → decide (x = y) = b → PySem.W.exmOne K (.ref (He.ga K x)) (.ref (He.ga K y)) = some b := fun x y b hx hy e => by
    rw [← e]
    exact of_decide_eq_true (List.all_eq_true.mp (List.all_eq_true.mp x2 x hx) y hy)
  have xf : ∀ x : Str, x ∈ kinds → XfC K (He.ga K x) := fun x hx => by
    obtain ⟨u1, u2⟩ := He.ba (up x hx)
    obtain ⟨u2, u3⟩ := He.ba u2
    obtain ⟨u3, u4⟩ := He.ba u3
    have r := exRdB_ok u3
    exact ⟨r.ga, r.gg, of_decide_eq_true u1, r.hd⟩
  have we : ∀ x : Str, x ∈ kinds → PySem.W.exmOne K (.ref (He.ga K x)) (.ref (He.ga K "WorldError")) = some true := fun x hx => of_decide_eq_true (He.ba (He.ba (He.ba (up x hx)).2).2).2
  have gW := glo "WorldError" (by decide +kernel)
  have T : Bt mg := ⟨free _ (by decide +kernel), free _ (by decide +kernel), free _ (by decide +kernel), free _ (by decide +kernel), free _ (by decide +kernel), free _ (by decide +kernel), free _ (by decide +kernel), free _ (by decide +kernel), free _ (by decide +kernel), free _ (by decide +kernel), strc "LETTERS" _ (by decide +kernel), intc "MOST_FIELDS" _ (by decide +kernel)⟩
  have C : Cs K (He.ga K "Kind") (He.ga K "Runtime") := ⟨cl "Kind" (by decide +kernel), cl "Runtime" (by decide +kernel), na "Kind" "parent" (by decide +kernel), na "Kind" "fields" (by decide +kernel), na "Kind" "since" (by decide +kernel), na "Runtime" "kinds" (by decide +kernel), na "Runtime" "tables" (by decide +kernel)⟩
  have C2 : Cs2 K (He.ga K "Runtime") := ⟨na "Runtime" "entries" (by decide +kernel), na "Runtime" "tasks" (by decide +kernel), na "Runtime" "solutions" (by decide +kernel), na "Runtime" "shapes" (by decide +kernel), na "Runtime" "made" (by decide +kernel)⟩
  generalize eCK : He.ga K "Kind" = CK at C
  generalize eCR : He.ga K "Runtime" = CR at C C2
  obtain ⟨x4, x5⟩ := He.ba x4
  obtain ⟨x5, x6⟩ := He.ba x5
  obtain ⟨x6, x7⟩ := He.ba x6
  obtain ⟨x7, x8⟩ := He.ba x7
  have T3 : Bt3 mg := ⟨free _ (by decide +kernel)⟩
  have T2 : Bt2 mg := ⟨free _ (by decide +kernel)⟩
  have own_ : ∀ p, p ∈ own → OexC K (He.ga K p.1) ∧ ExIn K (He.ga K p.1) (He.ma K (He.ga K p.1) "__init__") ∧ PySem.W.findIn K (.ref (He.ga K p.1)) p.2 = some none := fun p hp => by
    obtain ⟨z1, z2⟩ := He.ba (List.all_eq_true.mp x4 p hp)
    obtain ⟨z2, z3⟩ := He.ba z2
    exact ⟨exB_ok z1, exInB_ok z2, of_decide_eq_true z3⟩
  have hD := free "dict" (by decide +kernel)
  have B : Bd K w mg (He.ga K "LENGTHS") (He.ga K "WITHIN") (He.ga K "CALLS") := by
    refine ⟨glo "LENGTHS" (by decide +kernel), glo "WITHIN" (by decide +kernel), glo "CALLS" (by decide +kernel), intc "GREATEST" _ (by decide +kernel), intc "MOST_PARTS" _ (by decide +kernel), ?_, ?_, fun H => seqB_ok x7 H⟩
    · obtain ⟨e1, e2⟩ := kd_of (c.tab 0) x5
      refine ⟨e1, fun z => ?_⟩
      obtain ⟨r, h1, h2⟩ := e2 z
      rw [lens_eq, assoc_map (fun n : Nat => V.int ((n : Nat) : Int))] at h2
      exact ⟨r, h1, h2⟩
    · obtain ⟨e1, e2⟩ := kdT_of (c.tab 1) x6
      refine ⟨e1, fun z => ?_⟩
      obtain ⟨r, h1, h2⟩ := e2 z
      rw [with_eq, assoc_map (fun l : List Nat => l.map fun n => V.int ((n : Nat) : Int))] at h2
      refine ⟨r, h1, ?_⟩
      cases q : assocV WITH z with
      | none => rw [q] at h2; exact h2
      | some l => rw [q] at h2; exact h2
  have CPl : CsP K (He.ga K "Place") := ⟨cl "Place" (by decide +kernel), na "Place" "piece" (by decide +kernel), na "Place" "path" (by decide +kernel), na "Place" "count" (by decide +kernel), na "Place" "names" (by decide +kernel)⟩
  generalize eCP : He.ga K "Place" = CP at CPl
  obtain ⟨fd_NoWorld, F_NoWorld⟩ := c.def_ (d := d_NoWorld_init) (by simp [fn])
  have E_NoWorld : ∀ base, ErrOk P w K mg base "NoWorld" (He.ga K "NoWorld") "world" := fun base => ⟨glo "NoWorld" (by decide +kernel), (own_ ("NoWorld", "world") (by decide +kernel)).1, (own_ ("NoWorld", "world") (by decide +kernel)).2.2, _, fd_NoWorld, ["self", "world"], (own_ ("NoWorld", "world") (by decide +kernel)).2.1,
    FunD.bindsN F_NoWorld (fun _ _ _ _ _ _ us hl => match us, hl with | [_, _], _ => rfl), ok_init_NoWorld F_NoWorld W gW⟩
  obtain ⟨fd_NoClass, F_NoClass⟩ := c.def_ (d := d_NoClass_init) (by simp [fn])
  have E_NoClass : ∀ base, ErrOk P w K mg base "NoClass" (He.ga K "NoClass") "name" := fun base => ⟨glo "NoClass" (by decide +kernel), (own_ ("NoClass", "name") (by decide +kernel)).1, (own_ ("NoClass", "name") (by decide +kernel)).2.2, _, fd_NoClass, ["self", "name"], (own_ ("NoClass", "name") (by decide +kernel)).2.1,
    FunD.bindsN F_NoClass (fun _ _ _ _ _ _ us hl => match us, hl with | [_, _], _ => rfl), ok_init_NoClass F_NoClass W gW⟩
  obtain ⟨fd_Taken, F_Taken⟩ := c.def_ (d := d_Taken_init) (by simp [fn])
  have E_Taken : ∀ base, ErrOk P w K mg base "Taken" (He.ga K "Taken") "name" := fun base => ⟨glo "Taken" (by decide +kernel), (own_ ("Taken", "name") (by decide +kernel)).1, (own_ ("Taken", "name") (by decide +kernel)).2.2, _, fd_Taken, ["self", "name"], (own_ ("Taken", "name") (by decide +kernel)).2.1,
    FunD.bindsN F_Taken (fun _ _ _ _ _ _ us hl => match us, hl with | [_, _], _ => rfl), ok_init_Taken F_Taken W gW⟩
  obtain ⟨fd_NoField, F_NoField⟩ := c.def_ (d := d_NoField_init) (by simp [fn])
  have E_NoField : ∀ base, ErrOk P w K mg base "NoField" (He.ga K "NoField") "field" := fun base => ⟨glo "NoField" (by decide +kernel), (own_ ("NoField", "field") (by decide +kernel)).1, (own_ ("NoField", "field") (by decide +kernel)).2.2, _, fd_NoField, ["self", "field"], (own_ ("NoField", "field") (by decide +kernel)).2.1,
    FunD.bindsN F_NoField (fun _ _ _ _ _ _ us hl => match us, hl with | [_, _], _ => rfl), ok_init_NoField F_NoField W gW⟩
  obtain ⟨fd_NoCount, F_NoCount⟩ := c.def_ (d := d_NoCount_init) (by simp [fn])
  have E_NoCount : ∀ base, ErrOk P w K mg base "NoCount" (He.ga K "NoCount") "count" := fun base => ⟨glo "NoCount" (by decide +kernel), (own_ ("NoCount", "count") (by decide +kernel)).1, (own_ ("NoCount", "count") (by decide +kernel)).2.2, _, fd_NoCount, ["self", "count"], (own_ ("NoCount", "count") (by decide +kernel)).2.1,
    FunD.bindsN F_NoCount (fun _ _ _ _ _ _ us hl => match us, hl with | [_, _], _ => rfl), ok_init_NoCount F_NoCount W gW⟩
  obtain ⟨fd_NoBody, F_NoBody⟩ := c.def_ (d := d_NoBody_init) (by simp [fn])
  have E_NoBody : ∀ base, ErrOk P w K mg base "NoBody" (He.ga K "NoBody") "path" := fun base => ⟨glo "NoBody" (by decide +kernel), (own_ ("NoBody", "path") (by decide +kernel)).1, (own_ ("NoBody", "path") (by decide +kernel)).2.2, _, fd_NoBody, ["self", "path"], (own_ ("NoBody", "path") (by decide +kernel)).2.1,
    FunD.bindsN F_NoBody (fun _ _ _ _ _ _ us hl => match us, hl with | [_, _], _ => rfl), ok_init_NoBody F_NoBody W gW⟩
  obtain ⟨fd_NoFunction, F_NoFunction⟩ := c.def_ (d := d_NoFunction_init) (by simp [fn])
  have E_NoFunction : ∀ base, ErrOk P w K mg base "NoFunction" (He.ga K "NoFunction") "function" := fun base => ⟨glo "NoFunction" (by decide +kernel), (own_ ("NoFunction", "function") (by decide +kernel)).1, (own_ ("NoFunction", "function") (by decide +kernel)).2.2, _, fd_NoFunction, ["self", "function"], (own_ ("NoFunction", "function") (by decide +kernel)).2.1,
    FunD.bindsN F_NoFunction (fun _ _ _ _ _ _ us hl => match us, hl with | [_, _], _ => rfl), ok_init_NoFunction F_NoFunction W gW⟩
  obtain ⟨fd_NoSignature, F_NoSignature⟩ := c.def_ (d := d_NoSignature_init) (by simp [fn])
  have E_NoSignature : ∀ base, ErrOk P w K mg base "NoSignature" (He.ga K "NoSignature") "signature" := fun base => ⟨glo "NoSignature" (by decide +kernel), (own_ ("NoSignature", "signature") (by decide +kernel)).1, (own_ ("NoSignature", "signature") (by decide +kernel)).2.2, _, fd_NoSignature, ["self", "signature"], (own_ ("NoSignature", "signature") (by decide +kernel)).2.1,
    FunD.bindsN F_NoSignature (fun _ _ _ _ _ _ us hl => match us, hl with | [_, _], _ => rfl), ok_init_NoSignature F_NoSignature W gW⟩
  obtain ⟨fd_NotThere, F_NotThere⟩ := c.def_ (d := d_NotThere_init) (by simp [fn])
  have E_NotThere : ∀ base, ErrOk P w K mg base "NotThere" (He.ga K "NotThere") "signature" := fun base => ⟨glo "NotThere" (by decide +kernel), (own_ ("NotThere", "signature") (by decide +kernel)).1, (own_ ("NotThere", "signature") (by decide +kernel)).2.2, _, fd_NotThere, ["self", "signature"], (own_ ("NotThere", "signature") (by decide +kernel)).2.1,
    FunD.bindsN F_NotThere (fun _ _ _ _ _ _ us hl => match us, hl with | [_, _], _ => rfl), ok_init_NotThere F_NotThere W gW⟩
  obtain ⟨fd_is_name, F_is_name⟩ := c.def_ (d := d_is_name) (by simp [fn])
  have D_is_name : ∀ base, DfOk P w K mg base CX0 1 "is_name" ["thing"] (spIsName K) := fun base => ⟨_, fd_is_name, glo "is_name" (by decide +kernel), F_is_name.kp, FunD.bindsN F_is_name (fun _ _ _ _ _ _ us hl => match us, hl with | [_], _ => rfl), ok_is_name F_is_name T⟩
  obtain ⟨fd_is_class, F_is_class⟩ := c.def_ (d := d_is_class) (by simp [fn])
  have D_is_class : ∀ base, DfOk P w K mg base CX0 2 "is_class" ["runtime", "name"] (spIsClass K CK CR) := fun base => ⟨_, fd_is_class, glo "is_class" (by decide +kernel), F_is_class.kp, FunD.bindsN F_is_class (fun _ _ _ _ _ _ us hl => match us, hl with | [_, _], _ => rfl), ok_is_class F_is_class T C (D_is_name base)⟩
  obtain ⟨fd_check_class, F_check_class⟩ := c.def_ (d := d_check_class) (by simp [fn])
  have D_check_class : ∀ base, DfOk P w K mg base (L2.CX P w) 3 "check_class" ["runtime", "name"] (spCheck K CK CR (He.ga K "NoClass")) := fun base => ⟨_, fd_check_class, glo "check_class" (by decide +kernel), F_check_class.kp, FunD.bindsN F_check_class (fun _ _ _ _ _ _ us hl => match us, hl with | [_, _], _ => rfl), ok_check_class F_check_class T C (E_NoClass base) (D_is_class base)⟩
  obtain ⟨fd_Kind_init, F_Kind_init⟩ := c.def_ (d := d_Kind_init) (by simp [fn])
  have K_Kind : ∀ base, MkOk P w K mg base CX0 1 "Kind" CK ["self", "parent", "fields", "since"] (spKind CK) := fun base => ⟨by rw [← eCK]; exact glo "Kind" (by decide +kernel), _, fd_Kind_init, by rw [← eCK]; exact mkr "Kind" (by decide +kernel), FunD.bindsN F_Kind_init (fun _ _ _ _ _ _ us hl => match us, hl with | [_, _, _, _], _ => rfl), ok_kind F_Kind_init C⟩
  obtain ⟨fd_Runtime_init, F_Runtime_init⟩ := c.def_ (d := d_Runtime_init) (by simp [fn])
  have K_Runtime : ∀ base, MkOk P w K mg base CX0 3 "Runtime" CR ["self"] (spRuntime K CK CR) := fun base => ⟨by rw [← eCR]; exact glo "Runtime" (by decide +kernel), _, fd_Runtime_init, by rw [← eCR]; exact mkr "Runtime" (by decide +kernel), FunD.bindsN F_Runtime_init (fun _ _ _ _ _ _ us hl => match us, hl with | [_], _ => rfl), ok_runtime F_Runtime_init C C2 (K_Kind base)⟩
  obtain ⟨fd_Place_init, F_Place_init⟩ := c.def_ (d := d_Place_init) (by simp [fn])
  have K_Place : ∀ base, MkOk P w K mg base CX0 1 "Place" CP ["self", "part", "path", "count", "names"] (spPlace CP) := fun base => ⟨by rw [← eCP]; exact glo "Place" (by decide +kernel), _, fd_Place_init, by rw [← eCP]; exact mkr "Place" (by decide +kernel), FunD.bindsN F_Place_init (fun _ _ _ _ _ _ us hl => match us, hl with | [_, _, _, _, _], _ => rfl), ok_place F_Place_init CPl⟩
  obtain ⟨fd_Runtime_newest, F_Runtime_newest⟩ := c.def_ (d := d_Runtime_newest) (by simp [fn])
  have M_newest : ∀ base, MtOk P w K mg base CX0 1 CR "newest" ["self"] (spNewest K CK CR) := fun base => ⟨by rw [← eCR]; exact cl "Runtime" (by decide +kernel), _, fd_Runtime_newest, by rw [← eCR]; exact mth "Runtime" "newest" (by decide +kernel), FunD.bindsN F_Runtime_newest (fun _ _ _ _ _ _ us hl => match us, hl with | [_], _ => rfl), ok_newest F_Runtime_newest T C⟩
  obtain ⟨fd_Runtime_table, F_Runtime_table⟩ := c.def_ (d := d_Runtime_table) (by simp [fn])
  have M_table : ∀ base, MtOk P w K mg base CX0 1 CR "table" ["self", "world"] (spTable K CK CR) := fun base => ⟨by rw [← eCR]; exact cl "Runtime" (by decide +kernel), _, fd_Runtime_table, by rw [← eCR]; exact mth "Runtime" "table" (by decide +kernel), FunD.bindsN F_Runtime_table (fun _ _ _ _ _ _ us hl => match us, hl with | [_, _], _ => rfl), ok_table F_Runtime_table T C⟩
  obtain ⟨fd_Runtime_add_world, F_Runtime_add_world⟩ := c.def_ (d := d_Runtime_add_world) (by simp [fn])
  have M_add_world : ∀ base, MtOk P w K mg base CX0 2 CR "add_world" ["self", "table"] (spAddWorld K CK CR) := fun base => ⟨by rw [← eCR]; exact cl "Runtime" (by decide +kernel), _, fd_Runtime_add_world, by rw [← eCR]; exact mth "Runtime" "add_world" (by decide +kernel), FunD.bindsN F_Runtime_add_world (fun _ _ _ _ _ _ us hl => match us, hl with | [_, _], _ => rfl), ok_add_world F_Runtime_add_world T C (M_newest base)⟩
  obtain ⟨fd_is_integer, F_is_integer⟩ := c.def_ (d := d_is_integer) (by simp [fn])
  have D_is_integer : ∀ base, DfOk P w K mg base CX0 1 "is_integer" ["thing"] (spIsInt K) := fun base => ⟨_, fd_is_integer, glo "is_integer" (by decide +kernel), F_is_integer.kp, FunD.bindsN F_is_integer (fun _ _ _ _ _ _ us hl => match us, hl with | [_], _ => rfl), ok_is_integer F_is_integer T⟩
  obtain ⟨fd_is_between, F_is_between⟩ := c.def_ (d := d_is_between) (by simp [fn])
  have D_is_between : ∀ base, DfOk P w K mg base CX0 2 "is_between" ["thing", "low", "high"] (spBetween K) := fun base => ⟨_, fd_is_between, glo "is_between" (by decide +kernel), F_is_between.kp, FunD.bindsN F_is_between (fun _ _ _ _ _ _ us hl => match us, hl with | [_, _, _], _ => rfl), ok_is_between F_is_between T (D_is_integer base)⟩
  obtain ⟨fd_world_of, F_world_of⟩ := c.def_ (d := d_world_of) (by simp [fn])
  have D_world_of : ∀ base, DfOk P w K mg base (L2.CX P w) 3 "world_of" ["runtime", "world"] (spWorld K CK CR (He.ga K "NoWorld")) := fun base => ⟨_, fd_world_of, glo "world_of" (by decide +kernel), F_world_of.kp, FunD.bindsN F_world_of (fun _ _ _ _ _ _ us hl => match us, hl with | [_, _], _ => rfl), ok_world_of F_world_of (E_NoWorld base) (M_newest base) (D_is_between base)⟩
  obtain ⟨fd_own_fields, F_own_fields⟩ := c.def_ (d := d_own_fields) (by simp [fn])
  have D_own_fields : ∀ base, DfOk P w K mg base (L2.CX P w) 3 "own_fields" ["runtime", "parent", "fields"] (spOwn K CK CR (He.ga K "NoField")) := fun base => ⟨_, fd_own_fields, glo "own_fields" (by decide +kernel), F_own_fields.kp, FunD.bindsN F_own_fields (fun _ _ _ _ _ _ us hl => match us, hl with | [_, _, _], _ => rfl), ok_own_fields F_own_fields T C (E_NoField base) (D_is_name base) (D_is_class base)⟩
  obtain ⟨fd_is_signature, F_is_signature⟩ := c.def_ (d := d_is_signature) (by simp [fn])
  have D_is_signature : ∀ base, DfOk P w K mg base CX0 3 "is_signature" ["runtime", "thing"] (spIsSig K CK CR) := fun base => ⟨_, fd_is_signature, glo "is_signature" (by decide +kernel), F_is_signature.kp, FunD.bindsN F_is_signature (fun _ _ _ _ _ _ us hl => match us, hl with | [_, _], _ => rfl), ok_is_signature F_is_signature T (D_is_class base)⟩
  obtain ⟨fd_indexes_within, F_indexes_within⟩ := c.def_ (d := d_indexes_within) (by simp [fn])
  have D_indexes_within : ∀ base, DfOk P w K mg base CX0 1 "indexes_within" ["part"] (spIndexes K) := fun base => ⟨_, fd_indexes_within, glo "indexes_within" (by decide +kernel), F_indexes_within.kp, FunD.bindsN F_indexes_within (fun _ _ _ _ _ _ us hl => match us, hl with | [_], _ => rfl), ok_indexes_within F_indexes_within T B⟩
  obtain ⟨fd_is_call_part, F_is_call_part⟩ := c.def_ (d := d_is_call_part) (by simp [fn])
  have D_is_call_part : ∀ base, DfOk P w K mg base CX0 2 "is_call_part" ["part"] (spCallPart K) := fun base => ⟨_, fd_is_call_part, glo "is_call_part" (by decide +kernel), F_is_call_part.kp, FunD.bindsN F_is_call_part (fun _ _ _ _ _ _ us hl => match us, hl with | [_], _ => rfl), ok_is_call_part F_is_call_part T B (D_is_name base)⟩
  obtain ⟨fd_is_new_part, F_is_new_part⟩ := c.def_ (d := d_is_new_part) (by simp [fn])
  have D_is_new_part : ∀ base, DfOk P w K mg base CX0 3 "is_new_part" ["runtime", "part"] (spNewPart K CK CR) := fun base => ⟨_, fd_is_new_part, glo "is_new_part" (by decide +kernel), F_is_new_part.kp, FunD.bindsN F_is_new_part (fun _ _ _ _ _ _ us hl => match us, hl with | [_, _], _ => rfl), ok_is_new_part F_is_new_part T C (D_is_class base)⟩
  obtain ⟨fd_is_leaf_part, F_is_leaf_part⟩ := c.def_ (d := d_is_leaf_part) (by simp [fn])
  have D_is_leaf_part : ∀ base, DfOk P w K mg base CX0 3 "is_leaf_part" ["place"] (spLeaf K CP) := fun base => ⟨_, fd_is_leaf_part, glo "is_leaf_part" (by decide +kernel), F_is_leaf_part.kp, FunD.bindsN F_is_leaf_part (fun _ _ _ _ _ _ us hl => match us, hl with | [_], _ => rfl), ok_is_leaf_part F_is_leaf_part T B CPl (D_is_between base) (D_is_name base)⟩
  obtain ⟨fd_is_valid_part, F_is_valid_part⟩ := c.def_ (d := d_is_valid_part) (by simp [fn])
  have D_is_valid_part : ∀ base, DfOk P w K mg base CX0 4 "is_valid_part" ["runtime", "place"] (spValid K CK CR CP) := fun base => ⟨_, fd_is_valid_part, glo "is_valid_part" (by decide +kernel), F_is_valid_part.kp, FunD.bindsN F_is_valid_part (fun _ _ _ _ _ _ us hl => match us, hl with | [_, _], _ => rfl), ok_is_valid_part F_is_valid_part T B CPl (D_is_name base) (D_is_class base) (D_is_signature base) (D_is_call_part base) (D_is_new_part base) (D_is_leaf_part base)⟩
  obtain ⟨fd_places_within, F_places_within⟩ := c.def_ (d := d_places_within) (by simp [fn])
  have D_places_within : ∀ base, DfOk P w K mg base CX0 3 "places_within" ["place"] (spPlaces K CP) := fun base => ⟨_, fd_places_within, glo "places_within" (by decide +kernel), F_places_within.kp, FunD.bindsN F_places_within (fun _ _ _ _ _ _ us hl => match us, hl with | [_], _ => rfl), ok_places_within F_places_within T CPl (D_indexes_within base) (K_Place base)⟩
  obtain ⟨fd_check_valid, F_check_valid⟩ := c.def_ (d := d_check_valid) (by simp [fn])
  have D_check_valid : ∀ base, DfOk P w K mg base (L2.CX P w) 5 "check_valid" ["runtime", "body", "count"] (spCV K CK CR (He.ga K "NoBody")) := fun base => ⟨_, fd_check_valid, glo "check_valid" (by decide +kernel), F_check_valid.kp, FunD.bindsN F_check_valid (fun _ _ _ _ _ _ us hl => match us, hl with | [_, _, _], _ => rfl), ok_check_valid F_check_valid T B CPl (E_NoBody base) (K_Place base) (D_is_valid_part base) (D_places_within base)⟩
  obtain ⟨fd_check_body, F_check_body⟩ := c.def_ (d := d_check_body) (by simp [fn])
  have D_check_body : ∀ base, DfOk P w K mg base (L2.CX P w) 6 "check_body" ["runtime", "body", "count"] (spCB K CK CR (He.ga K "NoBody") (He.ga K "NoCount")) := fun base => ⟨_, fd_check_body, glo "check_body" (by decide +kernel), F_check_body.kp, FunD.bindsN F_check_body (fun _ _ _ _ _ _ us hl => match us, hl with | [_, _, _], _ => rfl), ok_check_body F_check_body T (E_NoCount base) (D_is_between base) (D_check_valid base)⟩
  obtain ⟨fdA, F_add_class⟩ := c.def_ (d := d_add_class) (by simp [fn])
  have FA : ∀ base, FnOk P w K mg base (L2.CX P w) 4 (He.fAd K ("add_class", none)) fdA ["runtime", "name", "parent", "fields"] (spAdd K CK CR (He.ga K "NoClass") (He.ga K "Taken") (He.ga K "NoField")) := fun base => ok_add_class F_add_class T C (E_NoClass base) (E_Taken base) (D_is_name base) (D_check_class base) (D_own_fields base) (M_newest base) (M_table base) (M_add_world base) (K_Kind base)
  have KBA : KBn K fdA ["runtime", "name", "parent", "fields"] 3 ["fields"] (fun us ws => us ++ ws) (fun vs zs => vs ++ zs) := by
    obtain ⟨oc, od, dV, kV, doc, pm, an, cdv, ct, osl, rfl, lk, hcd, hD0, _⟩ := F_add_class.ex
    obtain rfl : dV = .none := hD0.elim (fun z => z.2) fun z => absurd rfl z.1
    exact ⟨fun s us ws _ h1 h2 => match us, ws, h1, h2 with | [_, _, _], [_], _, _ => BindsTo.of_eq rfl, fun a b => Vals.append a b⟩
  obtain ⟨fd_check_function, F_check_function⟩ := c.def_ (d := d_check_function) (by simp [fn])
  have D_check_function : ∀ base, DfOk P w K mg base (L2.CX P w) 3 "check_function" ["function"] (spCFn K (He.ga K "NoFunction")) := fun base => ⟨_, fd_check_function, glo "check_function" (by decide +kernel), F_check_function.kp, FunD.bindsN F_check_function (fun _ _ _ _ _ _ us hl => match us, hl with | [_], _ => rfl), ok_check_function F_check_function (E_NoFunction base) (D_is_name base)⟩
  obtain ⟨fd_check_signature, F_check_signature⟩ := c.def_ (d := d_check_signature) (by simp [fn])
  have D_check_signature : ∀ base, DfOk P w K mg base (L2.CX P w) 4 "check_signature" ["runtime", "signature"] (spCSg K CK CR (He.ga K "NoSignature")) := fun base => ⟨_, fd_check_signature, glo "check_signature" (by decide +kernel), F_check_signature.kp, FunD.bindsN F_check_signature (fun _ _ _ _ _ _ us hl => match us, hl with | [_, _], _ => rfl), ok_check_signature F_check_signature (E_NoSignature base) (D_is_signature base)⟩
  obtain ⟨fd_define_in, F_define_in⟩ := c.def_ (d := d_define_in) (by simp [fn])
  have D_define_in : ∀ base, DfOk P w K mg base CX0 3 "define_in" ["runtime", "function", "signature", "body"] (spDefIn P w K CK CR) := fun base => ⟨_, fd_define_in, glo "define_in" (by decide +kernel), F_define_in.kp, FunD.bindsN F_define_in (fun _ _ _ _ _ _ us hl => match us, hl with | [_, _, _, _], _ => rfl), ok_define_in F_define_in T C hD (M_newest base) (M_table base) (M_add_world base)⟩
  obtain ⟨fd_define, F_define⟩ := c.def_ (d := d_define) (by simp [fn])
  have D_define : ∀ base, DfOk P w K mg base (L2.CX P w) 6 "define" ["runtime", "function", "signature", "body"] (spDefine P w K CK CR (He.ga K "NoBody")) := fun base => ⟨_, fd_define, glo "define" (by decide +kernel), F_define.kp, FunD.bindsN F_define (fun _ _ _ _ _ _ us hl => match us, hl with | [_, _, _, _], _ => rfl), ok_define F_define T (D_check_function base) (D_check_signature base) (D_check_valid base) (D_define_in base)⟩
  obtain ⟨fdB, F_body⟩ := c.def_ (d := d_body) (by simp [fn])
  have FB : ∀ base, FnOk P w K mg base (L2.CX P w) 5 (He.fAd K ("body", none)) fdB ["runtime", "function", "signature", "world"] (spBody P w K CK CR) := fun base => ok_mbody F_body T (E_NotThere base) (D_check_function base) (D_check_signature base) (M_table base) (D_world_of base)
  have KBB : KBn K fdB ["runtime", "function", "signature", "world"] 3 ["world"] (fun us ws => us ++ ws) (fun vs zs => vs ++ zs) := by
    obtain ⟨oc, od, dV, kV, doc, pm, an, cdv, ct, osl, rfl, lk, hcd, hD0, _⟩ := F_body.ex
    obtain rfl : dV = .none := hD0.elim (fun z => z.2) fun z => absurd rfl z.1
    exact ⟨fun s us ws _ h1 h2 => match us, ws, h1, h2 with | [_, _, _], [_], _, _ => BindsTo.of_eq rfl, fun a b => Vals.append a b⟩
  obtain ⟨fdM, F_methods⟩ := c.def_ (d := d_methods) (by simp [fn])
  have FM : ∀ base, FnOk P w K mg base (L2.CX P w) 4 (He.fAd K ("methods", none)) fdM ["runtime", "world"] (spMethods P w K CK CR) := fun base => ok_methods F_methods T (M_table base) (D_world_of base)
  have KBM : KBn K fdM ["runtime", "world"] 1 ["world"] (fun us ws => us ++ ws) (fun vs zs => vs ++ zs) := by
    obtain ⟨oc, od, dV, kV, doc, pm, an, cdv, ct, osl, rfl, lk, hcd, hD0, _⟩ := F_methods.ex
    obtain rfl : dV = .none := hD0.elim (fun z => z.2) fun z => absurd rfl z.1
    exact ⟨fun s us ws _ h1 h2 => match us, ws, h1, h2 with | [_], [_], _, _ => BindsTo.of_eq rfl, fun a b => Vals.append a b⟩
  have D_body : ∀ base, DfOkD P w K mg base (L2.CX P w) 5 "body" ["runtime", "function", "signature", "world"] [.non] (spBody P w K CK CR) := fun base => by
    obtain ⟨ds, hv, hb⟩ := FunD.binds0 (ps := ["runtime", "function", "signature", "world"]) F_body 3 (by intro z; cases z) rfl (fun D doc pm an cdv ct us ks h1 h2 => match us, ks, h1, h2 with | [_, _, _], [_], _, _ => ⟨_, _, _, _, _, _, rfl, rfl, rfl⟩)
    exact ⟨_, _, ds, glo "body" (by decide +kernel), F_body.kp, hv, hb, FB base⟩
  have D_methods : ∀ base, DfOkD P w K mg base (L2.CX P w) 4 "methods" ["runtime", "world"] [.non] (spMethods P w K CK CR) := fun base => by
    obtain ⟨ds, hv, hb⟩ := FunD.binds0 (ps := ["runtime", "world"]) F_methods 1 (by intro z; cases z) rfl (fun D doc pm an cdv ct us ks h1 h2 => match us, ks, h1, h2 with | [_], [_], _, _ => ⟨_, _, _, _, _, _, rfl, rfl, rfl⟩)
    exact ⟨_, _, ds, glo "methods" (by decide +kernel), F_methods.kp, hv, hb, FM base⟩
  obtain ⟨fd_l_well, F_l_well⟩ := c.def_ (d := d_l_well) (by simp [fn])
  have D_l_well : ∀ base, DfOk P w K mg base CX0 1 "_law_well" ["_law_cell"] spWell := fun base => ⟨_, fd_l_well, glo "_law_well" (by decide +kernel), F_l_well.kp, FunD.bindsN F_l_well (fun _ _ _ _ _ _ us hl => match us, hl with | [_], _ => rfl), ok_well F_l_well T⟩
  obtain ⟨fd_l_draw, F_l_draw⟩ := c.def_ (d := d_l_draw) (by simp [fn])
  have D_l_draw : ∀ base, DfOk P w K mg base CX0 1 "_law_draw" ["_law_well_here", "_law_many"] spDraw := fun base => ⟨_, fd_l_draw, glo "_law_draw" (by decide +kernel), F_l_draw.kp, FunD.bindsN F_l_draw (fun _ _ _ _ _ _ us hl => match us, hl with | [_, _], _ => rfl), ok_draw F_l_draw T⟩
  obtain ⟨fd_l_one, F_l_one⟩ := c.def_ (d := d_l_one) (by simp [fn])
  have D_l_one : ∀ base, DfOk P w K mg base CX0 2 "_law_one" ["_law_well_here", "_law_some"] (spOne K) := fun base => ⟨_, fd_l_one, glo "_law_one" (by decide +kernel), F_l_one.kp, FunD.bindsN F_l_one (fun _ _ _ _ _ _ us hl => match us, hl with | [_, _], _ => rfl), ok_one F_l_one T (D_l_draw base)⟩
  have gA := glo "add_class" (by decide +kernel)
  obtain ⟨fd_l_runtime, F_l_runtime⟩ := c.def_ (d := d_l_runtime) (by simp [fn])
  have D_l_runtime : ∀ base, DfOk P w K mg base CX0 5 "_law_runtime" ["_law_well_here"] (spLRt K CK CR) := fun base => ⟨_, fd_l_runtime, glo "_law_runtime" (by decide +kernel), F_l_runtime.kp, FunD.bindsN F_l_runtime (fun _ _ _ _ _ _ us hl => match us, hl with | [_], _ => rfl), ok_lruntime F_l_runtime T T2 (K_Runtime base) (D_l_draw base) (D_l_one base) gA F_add_class.kp KBA (FA base)⟩
  obtain ⟨fd_l_shares, F_l_shares⟩ := c.def_ (d := d_l_shares) (by simp [fn])
  have D_l_shares : ∀ base, DfOk P w K mg base CX0 2 "_law_shares" ["_law_well_here", "_law_many", "_law_wide"] spShares := fun base => ⟨_, fd_l_shares, glo "_law_shares" (by decide +kernel), F_l_shares.kp, FunD.bindsN F_l_shares (fun _ _ _ _ _ _ us hl => match us, hl with | [_, _, _], _ => rfl), ok_shares F_l_shares T (D_l_draw base)⟩
  obtain ⟨fd_l_signature, F_l_signature⟩ := c.def_ (d := d_l_signature) (by simp [fn])
  have D_l_signature : ∀ base, DfOk P w K mg base CX0 3 "_law_signature" ["_law_well_here", "_law_book"] (spSig K) := fun base => ⟨_, fd_l_signature, glo "_law_signature" (by decide +kernel), F_l_signature.kp, FunD.bindsN F_l_signature (fun _ _ _ _ _ _ us hl => match us, hl with | [_, _], _ => rfl), ok_signature F_l_signature T (D_l_draw base) (D_l_one base)⟩
  obtain ⟨fd_l_leaf, F_l_leaf⟩ := c.def_ (d := d_l_leaf) (by simp [fn])
  have D_l_leaf : ∀ base, DfOk P w K mg base CX0 3 "_law_leaf" ["_law_well_here", "_law_book", "_law_wide", "_law_names"] (spLLeaf K) := fun base => ⟨_, fd_l_leaf, glo "_law_leaf" (by decide +kernel), F_l_leaf.kp, FunD.bindsN F_l_leaf (fun _ _ _ _ _ _ us hl => match us, hl with | [_, _, _, _], _ => rfl), ok_leaf F_l_leaf T (D_l_draw base) (D_l_one base)⟩
  obtain ⟨fd_l_head, F_l_head⟩ := c.def_ (d := d_l_head) (by simp [fn])
  have D_l_head : ∀ base, DfOk P w K mg base CX0 4 "_law_head" ["_law_well_here", "_law_book", "_law_most"] (spLHead K) := fun base => ⟨_, fd_l_head, glo "_law_head" (by decide +kernel), F_l_head.kp, FunD.bindsN F_l_head (fun _ _ _ _ _ _ us hl => match us, hl with | [_, _, _], _ => rfl), ok_head F_l_head T (D_l_one base) (D_l_signature base)⟩
  obtain ⟨fdY, F_l_body⟩ := c.def_ (d := d_l_body) (by simp [fn])
  have D_l_body : ∀ base, DfOk P w K mg base CX0 28 "_law_body" ["_law_well_here", "_law_book", "_law_many", "_law_wide", "_law_names"] (spLBody K 24) := fun base => body_all F_l_body (glo "_law_body" (by decide +kernel)) F_l_body.kp (FunD.bindsN F_l_body (fun _ _ _ _ _ _ us hl => match us, hl with | [_, _, _, _, _], _ => rfl)) T T3 (D_l_leaf base) (D_l_head base) (D_l_shares base) 24
  obtain ⟨fd_now, F_now⟩ := c.def_ (d := d_now) (by simp [fn])
  have D_now : ∀ base, DfOk P w K mg base CX0 2 "now" ["runtime"] (spNow K CK CR) := fun base => ⟨_, fd_now, glo "now" (by decide +kernel), F_now.kp, FunD.bindsN F_now (fun _ _ _ _ _ _ us hl => match us, hl with | [_], _ => rfl), ok_now F_now (M_newest base)⟩
  obtain ⟨fd_l_spots, F_l_spots⟩ := c.def_ (d := d_l_spots) (by simp [fn])
  have D_l_spots : ∀ base, DfOk P w K mg base CX0 1 "_law_spots" ["_law_part"] (spLSpots K) := fun base => ⟨_, fd_l_spots, glo "_law_spots" (by decide +kernel), F_l_spots.kp, FunD.bindsN F_l_spots (fun _ _ _ _ _ _ us hl => match us, hl with | [_], _ => rfl), ok_spots F_l_spots T⟩
  obtain ⟨fd_l_at, F_l_at⟩ := c.def_ (d := d_l_at) (by simp [fn])
  have D_l_at : ∀ base, DfOk P w K mg base CX0 1 "_law_at" ["_law_text", "_law_path"] (spLAt K) := fun base => ⟨_, fd_l_at, glo "_law_at" (by decide +kernel), F_l_at.kp, FunD.bindsN F_l_at (fun _ _ _ _ _ _ us hl => match us, hl with | [_, _], _ => rfl), ok_at F_l_at T⟩
  obtain ⟨fd_l_paths, F_l_paths⟩ := c.def_ (d := d_l_paths) (by simp [fn])
  have D_l_paths : ∀ base, DfOk P w K mg base CX0 2 "_law_paths" ["_law_text"] (spLPaths K) := fun base => ⟨_, fd_l_paths, glo "_law_paths" (by decide +kernel), F_l_paths.kp, FunD.bindsN F_l_paths (fun _ _ _ _ _ _ us hl => match us, hl with | [_], _ => rfl), ok_paths F_l_paths T (D_l_at base) (D_l_spots base)⟩
  obtain ⟨fd_l_with, F_l_with⟩ := c.def_ (d := d_l_with) (by simp [fn])
  have D_l_with : ∀ base, DfOk P w K mg base CX0 2 "_law_with" ["_law_text", "_law_path", "_law_part"] (spLWith K) := fun base => ⟨_, fd_l_with, glo "_law_with" (by decide +kernel), F_l_with.kp, FunD.bindsN F_l_with (fun _ _ _ _ _ _ us hl => match us, hl with | [_, _, _], _ => rfl), ok_with F_l_with T (D_l_at base)⟩
  obtain ⟨fdW, F_l_anew⟩ := c.def_ (d := d_l_anew) (by simp [fn])
  have D_l_anew : ∀ base, DfOk P w K mg base CX0 25 "_law_anew" ["_law_part"] (spAnew K 24) := fun base => anew_all F_l_anew (glo "_law_anew" (by decide +kernel)) F_l_anew.kp (FunD.bindsN F_l_anew (fun _ _ _ _ _ _ us hl => match us, hl with | [_], _ => rfl)) T 24
  obtain ⟨fd_l_right, F_l_right⟩ := c.def_ (d := d_l_right) (by simp [fn])
  have D_l_right : ∀ base, DfOk P w K mg base CX0 29 "_law_right" ["_law_well_here"] (spRight K) := fun base => ⟨_, fd_l_right, glo "_law_right" (by decide +kernel), F_l_right.kp, FunD.bindsN F_l_right (fun _ _ _ _ _ _ us hl => match us, hl with | [_], _ => rfl), ok_right F_l_right (glo "body" (by decide +kernel)) F_body.kp KBB (FB base) (glo "methods" (by decide +kernel)) F_methods.kp KBM (FM base) T (D_l_draw base) (D_l_one base) (D_l_runtime base) (D_l_signature base) (D_l_body base) (D_l_at base) (D_l_paths base) (D_l_with base) (D_l_anew base) (D_now base) (D_check_body base) (D_define base) (D_body base) (D_methods base)⟩
  obtain ⟨fd, F⟩ := c.def_ (d := d_law) (by simp [fn])
  have e := hfa.symm.trans (glo "law" (by decide +kernel))
  cases e
  have b := FunD.bindsA (ps := ["_law_script"]) F fun _ _ _ _ _ _ us hl => match us, hl with | [_], _ => rfl
  refine ⟨fd, fun s v => b s [v] rfl, fun base _ _ => ?_⟩
  exact ok_law F T (D_l_well base) (D_l_right base)
end K10
open PySem PySem.W PySem.Calls PyProof.Rows
theorem PySem.Challenge.cw_worldcalls_k10_valid_bodies_holds : PySem.Challenge.rw_worldcalls_k10_valid_bodies.Holds := by
  w_on; o_law
  refine HandSHeadRun.head_any (r := OpenLaw.row PySem.Challenge.rw_worldcalls_k10_valid_bodies) (q := view (OpenLaw.row PySem.Challenge.rw_worldcalls_k10_valid_bodies).prog [68]) (H := K10.hk) (ob := K10.ob) (M := 20000) (loose := K10.loose) (d := HandSHeadRun.topDef (OpenLaw.row PySem.Challenge.rw_worldcalls_k10_valid_bodies).prog 68) (kwd := []) K10.ob_eq
    (by kernel_rfl) (fun s => by kernel_rfl) K10.run (by kernel_rfl) (by kernel_rfl) (by kernel_rfl) (by rfl) (by first | assumption | decide +kernel) (by decide +kernel) ⟨rfl, rfl, rfl, rfl, rfl, by decide +kernel⟩ ?hw ?hc
  case hw => w_witness2
  case hc =>
    refine LamX.walk_ofTsE (l := PySem.Challenge.rw_worldcalls_k10_valid_bodies) (n := 63) (k := 30) (x := "_law_script") (CX := fun _ => L2.CX0) rfl (by decide) (by kernel_rfl) ⟨rfl, by decide, by decide⟩ ?F (fun _ _ _ _ _ z => z)
    intro w mg fa h Y G hmg0
    obtain ⟨K, KX, c⟩ := Y
    have hmg : mg ("law" : PySem.Str) = some (.ref fa) := by
      have e : (HandSHeadRun.topDef (OpenLaw.row PySem.Challenge.rw_worldcalls_k10_valid_bodies).prog 68).name = ("law" : PySem.Str) := by kernel_rfl
      rw [← e]
      exact hmg0
    obtain ⟨fd, hb, hF⟩ := K10.facts (P := (PySem.Challenge.rw_worldcalls_k10_valid_bodies).prog) (w := w) KX G hmg c
    refine ⟨K, KX, fd, K10.tf.map (He.cT K), K10.spLaw K, fun p hp => ?_, fun p hp => ?_, fun p hp => ?_, hb, fun H a ns hl _ hT hS => ⟨a, ns, rfl, hS, hl, fun _ => rfl⟩, fun base hK hN hT => hF base hK hN⟩
    · obtain ⟨q, hq, rfl⟩ := List.mem_map.mp hp
      exact c.empty q hq
    · obtain ⟨q, hq, rfl⟩ := List.mem_map.mp hp
      exact c.out q hq
    · obtain ⟨q, hq, rfl⟩ := List.mem_map.mp hp
      exact PySem.W.codeHd_of_K KX (c.hd q hq)
#print axioms PySem.Challenge.cw_worldcalls_k10_valid_bodies_holds

