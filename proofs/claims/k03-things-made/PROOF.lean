import PyProof.Rows.All
import Wide.All
import OpenK.AllK
import Wide.FinOn
import KE.KExcIs
import HandS.ForExc
import HandS.ForMost
import HandS.More
import HandS.Defaults
import HandS.ExcInit
import HandS.ExcValue
import HandS.RaiseMore
import HandS.IsInst
import HandS.ClsMeth
import HandS.Head0
import HandS.Head1
import HandS.Head2
import HandS.HeadEnd
import HandS.HeadHook1
import HandS.HeadHook2
import HandS.HeadHook3
import HandS.HeadHook4
import HandS.Lambda
import HandS.HeadWalk
import HandS.EndTab
import HandS.TryMany
import HandS.TupAny
import HandS.Walk
import HandS.ExcField
import HandS.ExcOwn
import HandS.Style
import HandS.DeepEq
import HandS.OwnEq
import HandS.SetKeys
import HandS.BoundDict
import PyProof.DictMoreH
import KE.KDictKeyed
import KE.KDictCopyH
import KE.KeyNested
import KE.KDictOf
import PyProof.NeKinds
import HandS.TupMul
import HandS.Zip
import KE.GoesMore
import KE.GoesEnum
import HandS.SortKw
import KE.GoesEnumKw
import KE.KMinBuiltin
import HandS.TupLen
import HandS.Deep
import PySem.Challenge.RW_worldcalls_k03_things_made
set_option Elab.async false
set_option linter.all false
set_option maxRecDepth 100000
set_option maxHeartbeats 4000000
namespace Wc
open PySem PySem.Spec PyProof.Rows L2
/-! ### what the written part says of an own exception class, as one Bool -/
def excClsB (K : PySem.W.Frag) (C : Addr) : Bool := match K.lookup C with
  | some ⟨.type t, dd, .cls cd, sl⟩ => decide (t = "type") && (match cd.mro, sl.toList with
    | .ref C' :: bm, [_, _, _, _, some (.builtin n), _] => decide (C' = C) && (decide (n = "ValueError.__new__") && (!cd.hasDel && (cd.hasDict && PySem.HandSPX.refsVE bm)))
    | _, _ => false)
  | _ => false
def exB (K : PySem.W.Frag) (C : Addr) : Bool := excClsB K C && (decide (PySem.W.findIn K (.ref C) "__setattr__" = some (some (.builtin "object.__setattr__"))) &&
  (decide (PySem.W.subIn K (.ref C) (.type "BaseException") = some true) && (decide (PySem.W.typeIn K (.ref C) = some (.type "type")) && PySem.W.keepIn K (.ref C))))
theorem excClsB_ok {K : PySem.W.Frag} {C : Addr} (h : excClsB K C = true) : ∃ nm q N bs bm sn sub ab col dd k0 k1 k2 k3 k5, K.lookup C = some (excClassObj nm q C N bs bm true sn sub ab col dd k0 k1 k2 k3 k5 "ValueError.__new__") ∧ PySem.HandSPX.refsVE bm = true := by
  unfold excClsB at h
  split at h
  · rename_i t dd cd sl lk
    obtain ⟨h1, h2⟩ := He.ba h
    have et := of_decide_eq_true h1
    subst et
    split at h2
    · rename_i C' bm k0 k1 k2 k3 n k5 hm hs
      obtain ⟨h3, h4⟩ := He.ba h2
      obtain ⟨h5, h6⟩ := He.ba h4
      obtain ⟨h7, h8⟩ := He.ba h6
      obtain ⟨h9, h10⟩ := He.ba h8
      have e1 := of_decide_eq_true h3
      have e2 := of_decide_eq_true h5
      subst e1 e2
      obtain ⟨nm, bs, mro, ns, qn, hd, sn, sub, ab, col, del⟩ := cd
      dsimp only at hm h7 h9
      subst hm
      have e3 : del = false := by simpa using h7
      subst e3 h9
      have hsl : sl = #[k0, k1, k2, k3, some (.builtin "ValueError.__new__"), k5] := by
        obtain ⟨l⟩ := sl
        simp only at hs
        rw [hs]
      subst hsl
      exact ⟨nm, qn, ns, bs, bm, sn, sub, ab, col, dd, k0, k1, k2, k3, k5, lk, h10⟩
    · cases h2
  · cases h
theorem exB_ok {K : PySem.W.Frag} {C : Addr} (h : exB K C = true) : OexC K C := by
  obtain ⟨h1, h⟩ := He.ba h
  obtain ⟨h2, h⟩ := He.ba h
  obtain ⟨h3, h⟩ := He.ba h
  obtain ⟨h4, h5⟩ := He.ba h
  exact ⟨excClsB_ok h1, of_decide_eq_true h2, of_decide_eq_true h3, of_decide_eq_true h4, h5⟩
/-- reading an attribute of an exception: no hooks -/
structure ExRd (K : PySem.W.Frag) (C : Addr) : Prop where
  ga : PySem.W.findIn K (.ref C) "__getattribute__" = some (some (.builtin "BaseException.__getattribute__"))
  gg : PySem.W.findIn K (.ref C) "__getattr__" = some none
  hd : PySem.W.hasDictIn K C = true
def exRdB (K : PySem.W.Frag) (C : Addr) : Bool := decide (PySem.W.findIn K (.ref C) "__getattribute__" = some (some (.builtin "BaseException.__getattribute__"))) &&
  (decide (PySem.W.findIn K (.ref C) "__getattr__" = some none) && PySem.W.hasDictIn K C)
theorem exRdB_ok {K : PySem.W.Frag} {C : Addr} (h : exRdB K C = true) : ExRd K C := by
  obtain ⟨h1, h⟩ := He.ba h
  obtain ⟨h2, h3⟩ := He.ba h
  exact ⟨of_decide_eq_true h1, of_decide_eq_true h2, h3⟩
/-- its own __init__ is the def at f -/
structure ExIn (K : PySem.W.Frag) (C f : Addr) : Prop where
  at_ : PySem.W.findIn K (.ref C) "__init__" = some (some (.ref f))
  ty : PySem.W.typeIn K (.ref f) = some (.type "function")
def exInB (K : PySem.W.Frag) (C f : Addr) : Bool := decide (PySem.W.findIn K (.ref C) "__init__" = some (some (.ref f))) && decide (PySem.W.typeIn K (.ref f) = some (.type "function"))
theorem exInB_ok {K : PySem.W.Frag} {C f : Addr} (h : exInB K C f = true) : ExIn K C f := by
  obtain ⟨h1, h2⟩ := He.ba h
  exact ⟨of_decide_eq_true h1, of_decide_eq_true h2⟩
/-- the base class's __init__ read off the class -/
structure BaseIn (K : PySem.W.Frag) (W : Addr) : Prop where
  sp : PySem.W.specialIn K (.ref W) "__getattribute__" = some (some (.builtin "type.__getattribute__"))
  rd : PySem.W.readsIn K W (.type "type") = true
  at_ : PySem.W.findCls K (.ref W) (.type "type") "__init__" = some (.val (.builtin "ValueError.__init__"))
def baseB (K : PySem.W.Frag) (W : Addr) : Bool := decide (PySem.W.specialIn K (.ref W) "__getattribute__" = some (some (.builtin "type.__getattribute__"))) &&
  (PySem.W.readsIn K W (.type "type") && (match PySem.W.findCls K (.ref W) (.type "type") "__init__" with
    | some (.val (.builtin n)) => decide (n = "ValueError.__init__")
    | _ => false))
theorem baseB_ok {K : PySem.W.Frag} {W : Addr} (h : baseB K W = true) : BaseIn K W := by
  obtain ⟨h1, h⟩ := He.ba h
  obtain ⟨h2, h3⟩ := He.ba h
  refine ⟨of_decide_eq_true h1, h2, ?_⟩
  split at h3
  · rename_i n e
    rw [e, of_decide_eq_true h3]
  · cases h3
/-- isinstance of such an exception -/
structure ExIs (K : PySem.W.Frag) (C : Addr) : Prop where
  cl : (PySem.W.clsIn K C).isSome = true
  at_ : PySem.W.findIn K (.ref C) "__class__" = some (some (.builtin "object.__class__"))
  sp : PySem.W.specialIn K (.builtin "object.__class__") "__get__" = some (some (.builtin "getset_descriptor.__get__"))
  tk : PySem.W.takesIn K (.builtin "object.__class__") = some true
  ob : PySem.W.mroIn K C (.type "object") = some true
def exIsB (K : PySem.W.Frag) (C : Addr) : Bool := (PySem.W.clsIn K C).isSome && (decide (PySem.W.findIn K (.ref C) "__class__" = some (some (.builtin "object.__class__"))) &&
  (decide (PySem.W.specialIn K (.builtin "object.__class__") "__get__" = some (some (.builtin "getset_descriptor.__get__"))) && (decide (PySem.W.takesIn K (.builtin "object.__class__") = some true) &&
  decide (PySem.W.mroIn K C (.type "object") = some true))))
theorem exIsB_ok {K : PySem.W.Frag} {C : Addr} (h : exIsB K C = true) : ExIs K C := by
  obtain ⟨h1, h⟩ := He.ba h
  obtain ⟨h2, h⟩ := He.ba h
  obtain ⟨h3, h⟩ := He.ba h
  obtain ⟨h4, h5⟩ := He.ba h
  exact ⟨h1, of_decide_eq_true h2, of_decide_eq_true h3, of_decide_eq_true h4, of_decide_eq_true h5⟩

/-! ### the head's look: the module's names and the model's own table of statics, so many steps; facts, defs, one Bool more -/
def asC (g : Addr → Option Obj) (n : Nat) : List Addr := cStatics :: He.asD g n
abbrev AlC : Type := He.AlD × Bool
def obsC (n : Nat) (fa : List He.Fa) (fn : List He.DefD) (ex : PySem.W.Frag → Bool) (g : Addr → Option Obj) : AlC := (He.obsD fa fn (He.frG g (asC g n)), ex (He.frG g (asC g n)))
def valC (fn : List He.DefD) : AlC := (He.valD fn, true)
structure SaysC (fa : List He.Fa) (fn : List He.DefD) (ex : PySem.W.Frag → Bool) (K : PySem.W.Frag) : Prop where
  d : He.SaysD fa fn K
  more : ex K = true
theorem saysC_of {fa : List He.Fa} {fn : List He.DefD} {ex : PySem.W.Frag → Bool} {n : Nat} {g : Addr → Option Obj} (e : obsC n fa fn ex g = valC fn) : SaysC fa fn ex (He.frG g (asC g n)) :=
  ⟨congrArg (fun z : AlC => z.1) e, congrArg (fun z : AlC => z.2) e⟩
def hookC (n : Nat) (fa : List He.Fa) (fn : List He.DefD) (ex : PySem.W.Frag → Bool) : PySem.W.Hook where
  α := AlC
  obs := fun s => obsC n fa fn ex s.heap.get?
  val := fun _ => valC fn
  says := fun _ h => ∃ K : PySem.W.Frag, K.In h ∧ SaysC fa fn ex K
  of := fun _ _ e => ⟨_, He.frG_in, saysC_of e⟩
  keeps := fun _ _ _ ⟨K, hK, c⟩ k => ⟨K, PySem.W.Frag.In.keeps hK k, c⟩
theorem obsC_eq {n : Nat} {fa : List He.Fa} {fn : List He.DefD} {ex : PySem.W.Frag → Bool} {g : Addr → Option Obj} {s : Shared} (h : ∀ a, g a = s.heap.get? a) : obsC n fa fn ex g = (hookC n fa fn ex).obs s := by
  have e : g = s.heap.get? := funext h
  rw [e] <;> rfl
theorem SaysC.fact {fa : List He.Fa} {fn : List He.DefD} {ex : PySem.W.Frag → Bool} {K : PySem.W.Frag} (c : SaysC fa fn ex K) {f : He.Fa} (h : f ∈ fa) : f.ok K = true := by
  obtain ⟨i, hi, e⟩ := List.mem_iff_getElem.mp h
  exact c.d.fact i (f := f) (by rw [List.getElem?_eq_getElem hi, e])
theorem SaysC.def_ {fa : List He.Fa} {fn : List He.DefD} {ex : PySem.W.Frag → Bool} {K : PySem.W.Frag} (c : SaysC fa fn ex K) {d : He.DefD} (h : d ∈ fn) : ∃ fd, FunD K d.name d.qual d.params d.body d.scope (d.dvs K) (d.kws K) (He.fAd K d.at_) fd := by
  obtain ⟨i, hi, e⟩ := List.mem_iff_getElem.mp h
  exact c.d.def_ i (d := d) (by rw [List.getElem?_eq_getElem hi, e])
end Wc

set_option Elab.async false
set_option linter.all false
set_option maxRecDepth 100000
set_option maxHeartbeats 4000000
/-! own exceptions held as values: making, reading, isinstance, str -/
namespace Wc
open PySem PySem.Spec PyProof.Rows L2
section
variable {X : Cx} {o e : Expr} {es : List Expr} {to te : TE} {ta : TA} {f : Str} {p p' p1 p2 pos : Pos}
/-- W.__init__(self, ..), W an own class over ValueError -/
theorem pe_winit {x : Str} {W : Addr} {pl : Sem Bool} (hg : Gl X x) (hm : X.mg x = some (.ref W)) (B : BaseIn X.K W) (ha : PA X (e :: es) ta) (hdb : (x == ("__debug__" : Str)) = false := by decide)
    (hc : eval (.Call (.Attribute (.Name x p1) "__init__" p2) (e :: es) [] pos) X.env = (do
      let ov ← eval (.Name x p1) X.env
      standAt p2.atName
      let (f, first) ← holding [ov] (getMethod ov "__init__" pl)
      callWith pos f first (backTo pos (starEach (e :: es) X.env)) (backToKw pos (keywordEach [] X.env))) := by rfl)
    (he : starEach (e :: es) X.env = (false, eval e X.env) :: starEach es X.env := by rfl) (hpl : (backTo pos (starEach es X.env)).any (·.1) = false := by rfl) :
    PE X (.Call (.Attribute (.Name x p1) "__init__" p2) (e :: es) [] pos) (tVeI X.K ta) := by
  refine ⟨fun pins s σ H Q I h => ?_⟩
  refine PySem.W.methodCall_KW (ld_glob I hg hm ?_ hdb) hc
  refine PySem.W.method_cls I.kIn B.sp ?_
  refine PySem.W.cls_value I.kIn B.rd B.at_ (by rfl) ?_
  show wpAny _ _ (callWith pos (Value.builtin "ValueError.__init__") [] (backTo pos (starEach (e :: es) X.env)) []) _ _ _
  refine PyProof.Rows.callWith_method1 (thn (ha.run pos pins _ σ H _ (I.tok _) h) fun us s1 ⟨vs, H1, I1, r1, a, C, ws, ev, hl, T, ea, q⟩ => ?_) he hpl
  subst ev
  cases r1 with
  | @cons _ u0 _ ur ra rw' =>
    obtain rfl : u0 = Value.ref a := ra
    have hlen : ur.length ≤ sizeLine := by
      rw [← Paired.length rw', sizeLine_eq]
      omega
    exact oinit_ok T I1 ea hlen fun s' J => ⟨.non, H1, J, rfl, q⟩
/-- C(e, ..) as a value, C's own __init__ keeping sp -/
def tMkV (C : Addr) (sp : Sp) (ta : TA) : TE := fun σ H Q => ta σ H fun vs H1 => vs.length ≤ 1000 ∧ ∀ a, H1 a = none → sp (.ref a :: vs) (upd H1 a (exo a C none)) (fun v H2 => v = .non ∧ Q (.ref a) H2) E0
theorem pe_mkv {CX : CXT} {x : Str} {C fI : Addr} {k : Nat} {fd : FuncData} {ps : List Str} {sp : Sp} (T : OexC X.K C) (J : ExIn X.K C fI)
    (F1 : FnOk X.prog X.w X.K X.mg X.base CX k fI fd ps sp) (hr : Room (k + 1) X.A) (hb : Binds X.K fd ps []) (hx : Passes CX X E0) (hg : Gl X x) (hm : X.mg x = some (.ref C)) (ha : PA X (e :: es) ta)
    (hdb : (x == ("__debug__" : Str)) = false := by decide) (he : starEach (e :: es) X.env = (false, eval e X.env) :: starEach es X.env := by rfl) (hpl : (backTo pos (starEach es X.env)).any (·.1) = false := by rfl) :
    PE X (.Call (.Name x p) (e :: es) [] pos) (tMkV C sp ta) := by
  refine ⟨fun pins s σ H Q I h => ?_⟩
  obtain ⟨nm, q, N, bs, bm, sn, sub, ab, col, dd, k0, k1, k2, k3, k5, hC, hbm⟩ := T.cls
  refine wpAny_Call_Name_kw (ld_glob I hg hm ?_ hdb)
  refine PySem.W.callWith_K (h₀ := X.base) I.ok.mod.kin T.kC (thn (ha.run pos pins s σ H _ I h) fun us s1 ⟨vs, H1, I1, r1, hz, q1⟩ => ⟨I1.kIn, ?_⟩) he hpl
  show wpAny _ _ (call (.ref C) us) _ _ _
  obtain ⟨hp, g, dr, tk, os⟩ := s1
  have hsz : hp.objs.size ≤ hp.objs.size + 1 := Nat.le_succ _
  have hn : H1 (hp.objs.size + 1) = none := I1.hok.fresh hsz
  have hq := q1 (hp.objs.size + 1) hn
  have kk : ∀ b o, hp.get? b = some o → ((hp.push (PySem.W.kdv_tup us)).push (PySem.HandSPX.excO C hp.objs.size)).get? b = some o := fun b o e => Heap.get?_push_of_some _ (Heap.get?_push_of_some _ e)
  have hget : ((hp.push (PySem.W.kdv_tup us)).push (PySem.HandSPX.excO C hp.objs.size)).get? (hp.objs.size + 1) = some (PySem.HandSPX.excO C hp.objs.size) := by heap_get
  have I2 : Inv X pins σ (upd H1 (hp.objs.size + 1) (exo (hp.objs.size + 1) C none)) ⟨(hp.push (PySem.W.kdv_tup us)).push (PySem.HandSPX.excO C hp.objs.size), g, dr, tk, os⟩ :=
    I1.laid (t' := tk) (a := hp.objs.size + 1) (o := exo (hp.objs.size + 1) C none) (h' := (hp.push (PySem.W.kdv_tup us)).push (PySem.HandSPX.excO C hp.objs.size)) kk hsz (exo_ok hget)
  have r2 : Vals (V.ref (hp.objs.size + 1) :: vs) (Value.ref (hp.objs.size + 1) :: us) := .cons rfl r1
  have hl : (Value.ref (hp.objs.size + 1) :: us).length = ps.length := by
    have e := r2.length
    rw [F1.len _ _ _ _ hq] at e
    exact e.symm
  have hus : us.length ≤ sizeLine := by
    rw [← Paired.length r1, sizeLine_eq]
    omega
  have b := hb _ (Value.ref (hp.objs.size + 1) :: us) I2.kIn (by rw [List.append_nil]; exact hl)
  rw [List.append_nil] at b
  refine wpAny_call (PySem.HandSPX.call_own F.excBase_ValueError (fun Y => PySem.HandSPX.refsVE_contains Y bm hbm) (I1.kIn _ _ hC) (PySem.W.looks_findIn I1.kIn J.at_) (fun self => PySem.W.bind_fn I1.kIn self J.ty) hus
    (codeAny_mono (F1.run _ X.stack _ _ ⟨Value.ref (hp.objs.size + 1) :: us, []⟩ (Value.ref (hp.objs.size + 1) :: us) _ _ E0 (hr.make C us []) (I2.env0.make C us []) b r2 hq) fun r s' hq' => ?_))
  cases r with
  | error er => exact hx pins σ _ _ er s' I2 hq'
  | ok fl =>
    cases fl with
    | ret u =>
      obtain ⟨v, H2, I3, rv, ev, q2⟩ := I2.after hq'
      subst ev
      exact ⟨rv, .ref (hp.objs.size + 1), H2, I3, rfl, q2⟩
    | next => exact False.elim hq'
    | brk => exact False.elim hq'
    | cont => exact False.elim hq'
/-- e.f, e an exception with a dict of its own -/
def tXfld (K : PySem.W.Frag) (te : TE) (f : Str) : TE := fun σ H Q => te σ H fun x H1 => ∃ (a C d : Addr) (fs : List (Str × V)) (v : V), x = .ref a ∧ H1 a = some (exo a C (some d)) ∧ H1 d = some (exd d fs) ∧ ExRd K C ∧ OexC K C ∧ NoAttr K C f ∧ fs.lookup f = some v ∧ Q v H1
theorem pe_xfld (he : PE X e te) (hb : attributeBase e f X.env (eval e X.env) = eval e X.env) : PE X (.Attribute e f pos) (tXfld X.K te f) := by
  refine ⟨fun pins s σ H Q I h => ?_⟩
  refine attr_of hb (thn (he.run pins s σ H _ I h) fun u s1 hh => ?_)
  obtain ⟨x, H1, I1, rx, a, C, d, fs, v, ex, ea, ed, R, T, n, l, q⟩ := hh
  subst ex
  obtain rfl : u = Value.ref a := rx
  obtain ⟨t1, ho⟩ := exo_at I1.hok ea
  obtain ⟨mA, hns, rel⟩ := exd_at I1.hok ed
  obtain ⟨od, hod, hl⟩ := lookIn_ns hns
  obtain ⟨u, hu, ru⟩ := RelO.some_of (v := v) (o := mA f) (by rw [← l]; exact rel f)
  have J : PySem.W.InstAt s1.heap a _ C (some od) := ⟨ho, rfl, rfl, hod⟩
  exact PySem.HandSPX.exc_get I1.kIn J R.ga R.gg T.exC (PySem.W.findObj_own R.hd n rfl (by rw [hl, hu])) (handed_of ru) ⟨v, H1, I1.tok _, ru, q⟩
/-- an exception made with arguments (the tuple at t), no dict -/
def exo1 (e C t : Addr) : HO := .ext fun h => h.get? e = some ({ cls := .ref C, dict := none, data := .fields #[.ref t, .none, .none, .none, .bool false, .none] } : Obj)
theorem exo1_ok {P : Program} {w : World} {H : Hp} {h : Heap} {e C t : Addr} (he : h.get? e = some ({ cls := .ref C, dict := none, data := .fields #[.ref t, .none, .none, .none, .bool false, .none] } : Obj)) : ObjOk P w H h e (exo1 e C t) :=
  ⟨he, ⟨_, he⟩, fun h1 h2 z k => k _ z⟩
theorem exo1_at {P : Program} {w : World} {H : Hp} {h : Heap} {e C t : Addr} (hok : HOk P w H h) (he : H e = some (exo1 e C t)) : h.get? e = some ({ cls := .ref C, dict := none, data := .fields #[.ref t, .none, .none, .none, .bool false, .none] } : Obj) := by
  have x : ObjOk P w H h e (.ext _) := hok e _ he
  exact x.1
/-- an exception of the class at C stands at a -/
def ExAt (H : Hp) (a C : Addr) : Prop := (∃ d fs, H a = some (exo a C (some d)) ∧ H d = some (exd d fs)) ∨ ∃ t, H a = some (exo1 a C t)
theorem ExAt.inst {P : Program} {w : World} {H : Hp} {h : Heap} {a C : Addr} (x : ExAt H a C) (hok : HOk P w H h) : ∃ ox od, PySem.W.InstAt h a ox C od := by
  rcases x with ⟨d, fs, ea, ed⟩ | ⟨t, ea⟩
  · obtain ⟨t1, ho⟩ := exo_at hok ea
    obtain ⟨mA, hns, rel⟩ := exd_at hok ed
    obtain ⟨od, hod, hl⟩ := lookIn_ns hns
    exact ⟨_, some od, ho, rfl, rfl, hod⟩
  · exact ⟨_, none, exo1_at hok ea, rfl, rfl, trivial⟩
/-- isinstance(e, c), e such an exception -/
def rIsiE (K : PySem.W.Frag) : List V → Hp → VK → Prop := fun xs H Q => ∃ (a C : Addr) (c : V) (u : Value) (b : Bool), xs = [.ref a, c] ∧ ClsV c u ∧ ExAt H a C ∧ ExIs K C ∧ ExRd K C ∧ PySem.W.subIn K (.ref C) (.type "BaseException") = some true ∧ PySem.W.kitOne K (.ref C) u = some b ∧ Q (.bl b) H
theorem call_isiE : CallR X (.builtin "isinstance") (rIsiE X.K) := by
  intro pins s σ H xs us Q I r h
  obtain ⟨a, C, c, u, b, rfl, k, ex, S, R, sb, e, q⟩ := h
  obtain ⟨u1, u2, rfl, r1, r2⟩ := vals2 r
  obtain rfl : u1 = Value.ref a := r1
  have e2 := k.eq r2
  subst e2
  obtain ⟨ox, od, J⟩ := ex.inst I.hok
  exact PySem.W.kia_one (PySem.W.kitx_exc (x := a) (ox := ox) (od := od) S.cl R.ga R.gg sb S.at_ S.sp S.tk S.ob) I.kIn J e (by intro z; cases z) fun tk => ⟨.bl b, H, I.tok tk, rfl, q⟩
/-- X(e), an own exception class without own __init__, as a value: a new exception object and its tuple of arguments -/
theorem pe_exc1t {C : Addr} {bmB : List Value} {B newId initId : String} {x : Str} {p pos : Pos} (F : ExcBaseFacts B newId initId bmB) (q : PySem.W.excIn X.K C bmB newId = true) (gC : X.mg x = some (.ref C)) (kC : PySem.W.keepIn X.K (.ref C) = true) (hg : Gl X x)
    (he : PE X e te) (hs : starEach [e] X.env = (false, eval e X.env) :: starEach [] X.env := by rfl) (hdb : (x == ("__debug__" : Str)) = false := by decide) :
    PE X (.Call (.Name x p) [e] [] pos) (fun σ H Q => te σ H fun v H1 => ∀ a t, H1 a = none → H1 t = none → a ≠ t → Q (.ref a) (upd (upd H1 t (.tup [v])) a (exo1 a C t))) := by
  refine ⟨fun pins s σ H Q I h => ?_⟩
  refine wpAny_Call_Name_kw (ld_glob I hg gC ?_ hdb)
  refine PySem.W.callWith_K (h₀ := X.base) I.ok.mod.kin kC ?_ hs (by rfl)
  rw [hs]
  show wpAny _ _ (spliced ((false, eval e X.env) :: backTo pos (starEach [] X.env))) _ _ s
  refine Calls.spliced_cons (thn (he.run pins s σ H _ I h) fun u s1 ⟨v, H1, I1, r1, q1⟩ => ?_)
  refine Calls.spliced_nil ⟨I1.kIn, ?_⟩
  show wpAny _ _ (call (.ref C) [u]) _ _ _
  obtain ⟨bm, N, nm, qn, bs, hdct, sn, sub, ab, col, dd, k0, k1, k2, k3, k5, mN, hC, hN, hni, T⟩ := exc_obj I1.kIn q
  refine wpAny_call_exc_subT F T hC hN hni (fun h' a hm => ?_) (by show 1 ≤ sizeLine; rw [sizeLine_eq]; omega)
  obtain ⟨t, ht, ht0, htup⟩ := hm.there
  have hna : H1 a = none := I1.hok.gone hm.new
  have hnt : H1 t = none := I1.hok.gone ht0
  have hne : t ≠ a := fun z => by
    rw [z, ht] at htup
    cases htup
  obtain ⟨G, g1, g2⟩ := restrict h' fun b => decide (b ≠ a)
  have gk : ∀ b, b ≠ a → G.get? b = h'.get? b := fun b hb => g1 b (decide_eq_true hb)
  have ge : G.get? a = none := g2 a (by simp)
  have gs : ∀ b o, G.get? b = some o → h'.get? b = some o := fun b o e => by
    by_cases hb : b = a
    · rw [hb, ge] at e
      cases e
    · rw [← gk b hb]
      exact e
  have k1 : ∀ b o, s1.heap.get? b = some o → G.get? b = some o := fun b o e => by
    have hb : b ≠ a := fun z => by
      have z2 := hm.new
      rw [← z] at z2
      have e' : s1.heap.get? b = some o := e
      have z3 : s1.heap.get? b = none := z2
      rw [z3] at e'
      cases e'
    rw [gk b hb]
    exact hm.keeps b o e
  have ob1 : ObjOk X.prog X.w (upd H1 t (.tup [v])) G t (.tup [v]) := ⟨by show 1 ≤ sizeLine; rw [sizeLine_eq]; omega, [u], .cons r1 .nil, _, (gk t hne).trans htup, rfl, _, rfl⟩
  have J1 : Inv X pins σ (upd H1 t (.tup [v])) { s1 with heap := G } := I1.laidN (t' := s1.toks) k1 ht0 hnt ob1
  have hna2 : upd H1 t (.tup [v]) a = none := by
    rw [upd_ne (Ne.symm hne)]
    exact hna
  have J2 : Inv X pins σ (upd (upd H1 t (.tup [v])) a (exo1 a C t)) { s1 with heap := h' } := J1.laidN (t' := s1.toks) gs ge hna2 (exo1_ok ht)
  exact ⟨.ref a, _, J2, rfl, q1 a t hna hnt (Ne.symm hne)⟩
/-- str(e), e made with one text -/
theorem call_str_exc (hu : X.A.units + 2 < cLine) : CallR X (.type "str") (fun xs H Q => ∃ (a C t : Addr) (m : Str), xs = [.ref a] ∧ H a = some (exo1 a C t) ∧ H t = some (.tup [.str m]) ∧ PySem.W.findIn X.K (.ref C) "__str__" = some (some (.builtin "BaseException.__str__")) ∧
    PySem.W.subIn X.K (.ref C) (.type "BaseException") = some true ∧ Q (.str m) H) := by
  intro pins s σ H xs us Q I r h
  obtain ⟨a, C, t, m, rfl, ea, et, fs, sb, q⟩ := h
  obtain ⟨u1, rfl, r1⟩ := vals1 r
  obtain rfl : u1 = Value.ref a := r1
  have ho := exo1_at I.hok ea
  obtain ⟨_, its, rv, o, h1, h2, n, h3⟩ := (show ObjOk X.prog X.w H s.heap t (.tup [.str m]) from I.hok t _ et)
  cases rv with
  | cons ra rn =>
    cases rn
    obtain ⟨tk, rfl⟩ := ra
    exact PySem.P.str_of_C_one hu ⟨I.kIn, _, _, ho, rfl, rfl, rfl⟩ ⟨o, n, h1, h2, by simpa using h3⟩ fs sb ⟨.str m, H, I, ⟨_, rfl⟩, q⟩
end
end Wc

set_option Elab.async false
set_option linter.all false
set_option maxRecDepth 100000
set_option maxHeartbeats 4000000
/-! steps through readings; what is known of the heap as a list -/
namespace Wc
open PySem PySem.Spec PyProof.Rows L2
abbrev Ext (H H' : Hp) : Prop := ∀ a o, H a = some o → H' a = some o
theorem Ext.refl (H : Hp) : Ext H H := fun _ _ h => h
theorem Ext.trans {H H1 H2 : Hp} (a : Ext H H1) (b : Ext H1 H2) : Ext H H2 := fun x o h => b x o (a x o h)
theorem Ext.new {H : Hp} {p : Addr} {o : HO} (h : H p = none) : Ext H (upd H p o) := fun a u e => by
  rw [upd_ne (ne_of_none e h)]
  exact e
theorem Ext.free {H H' : Hp} (e : Ext H H') {l : Addr} (h : H' l = none) : H l = none := by
  cases q : H l with
  | none => rfl
  | some o =>
    rw [e l o q] at h
    cases h
theorem Ext.l {K : PySem.W.Frag} {H H' : Hp} {a : Addr} {xs : List V} (e : Ext H H') (h : SqL K H a xs) : SqL K H' a xs := by
  rcases h with (h | ⟨o, h⟩) | h
  · exact .inl (.inl (e _ _ h))
  · exact .inl (.inr ⟨o, e _ _ h⟩)
  · exact .inr h
theorem Ext.t {K : PySem.W.Frag} {H H' : Hp} {a : Addr} {xs : List V} (e : Ext H H') (h : SqT K H a xs) : SqT K H' a xs := by
  rcases h with (h | ⟨o, h⟩) | h
  · exact .inl (.inl (e _ _ h))
  · exact .inl (.inr ⟨o, e _ _ h⟩)
  · exact .inr h
/-- the heap beside the addresses A is as it was -/
def Fr (A : List Addr) (H H' : Hp) : Prop := ∀ a o, a ∉ A → H a = some o → H' a = some o
theorem Ext.fr {H H' : Hp} {A : List Addr} (e : Ext H H') : Fr A H H' := fun a o _ h => e a o h
theorem Fr.trans {A : List Addr} {H H1 H2 : Hp} (a : Fr A H H1) (b : Fr A H1 H2) : Fr A H H2 := fun x o n h => b x o n (a x o n h)
theorem Fr.updE {A : List Addr} {H : Hp} {p : Addr} {o : HO} (h : p ∈ A) : Fr A H (upd H p o) := fun a u n e => by
  rw [upd_ne (fun z => n (by rw [z]; exact h))]
  exact e
theorem Fr.refl (A : List Addr) (H : Hp) : Fr A H H := fun _ _ _ h => h
theorem Fr.sql {K : PySem.W.Frag} {A : List Addr} {H H' : Hp} {a : Addr} {xs : List V} (e : Fr A H H') (n : a ∉ A) (h : SqL K H a xs) : SqL K H' a xs := by
  rcases h with (h | ⟨o, h⟩) | h
  · exact .inl (.inl (e _ _ n h))
  · exact .inl (.inr ⟨o, e _ _ n h⟩)
  · exact .inr h
theorem Fr.mono {A B : List Addr} {H H' : Hp} (e : Fr A H H') (h : ∀ a, a ∈ A → a ∈ B) : Fr B H H' := fun a o n x => e a o (fun z => n (h a z)) x
/-- what is known: these addresses, no two alike, hold these; what H0 held stands but at M -/
structure KH (H0 : Hp) (M : List Addr) (L : List (Addr × HO)) (H : Hp) : Prop where
  at_ : ∀ (j : Nat) (p : Addr) (o : HO), L[j]? = some (p, o) → H p = some o
  nd : (L.map (·.1)).Nodup
  fr : Fr M H0 H
  md : ∀ a, a ∈ M → ∃ o, H a = some o
section
variable {H0 H H' : Hp} {M : List Addr} {L : List (Addr × HO)} {p : Addr} {o o' : HO}
theorem KH.start : KH H [] [] H := ⟨fun j p o h => by simp at h, List.nodup_nil, Fr.refl _ _, fun a h => by simp at h⟩
theorem KH.start1 (h : H p = some o) : KH H [p] [(p, o)] H := ⟨fun j q u e => by
    cases j with
    | zero =>
      simp at e
      obtain ⟨rfl, rfl⟩ := e
      exact h
    | succ j => simp at e, by simp, Fr.refl _ _, fun a q => by
    have e : a = p := by simpa using q
    exact ⟨o, by rw [e]; exact h⟩⟩
theorem KH.get (k : KH H0 M L H) (j : Nat) (h : L[j]? = some (p, o)) : H p = some o := k.at_ j p o h
theorem KH.mem (k : KH H0 M L H) (h : p ∈ L.map (·.1)) : ∃ o, H p = some o := by
  obtain ⟨q, hq, rfl⟩ := List.mem_map.mp h
  obtain ⟨j, hj⟩ := List.getElem?_of_mem hq
  exact ⟨q.2, k.at_ j q.1 q.2 hj⟩
theorem KH.ext (k : KH H0 M L H) (e : Ext H H') : KH H0 M L H' := ⟨fun j p o h => e p o (k.at_ j p o h), k.nd, k.fr.trans e.fr, fun a h => by
  obtain ⟨o, z⟩ := k.md a h
  exact ⟨o, e _ _ z⟩⟩
theorem KH.fresh (k : KH H0 M L H) (h : H p = none) : H0 p = none := by
  cases q : H0 p with
  | none => rfl
  | some o =>
    have n : p ∉ M := fun z => by
      obtain ⟨u, e⟩ := k.md p z
      rw [h] at e
      cases e
    have z := k.fr p o n q
    rw [h] at z
    cases z
theorem KH.cons (k : KH H0 M L H) (h : H p = some o) (n : p ∉ L.map (·.1)) : KH H0 M ((p, o) :: L) H := by
  refine ⟨fun j q u e => ?_, ?_, k.fr, k.md⟩
  · cases j with
    | zero =>
      simp at e
      obtain ⟨rfl, rfl⟩ := e
      exact h
    | succ j =>
      simp at e
      exact k.at_ j q u e
  · rw [List.map_cons, List.nodup_cons]
    exact ⟨n, k.nd⟩
theorem KH.new (k : KH H0 M L H) (h : H p = none) : KH H0 M ((p, o) :: L) (upd H p o) := by
  refine (k.ext (Ext.new h)).cons upd_same fun m => ?_
  obtain ⟨o', z⟩ := k.mem m
  rw [h] at z
  cases z
theorem KH.tail {q : Addr × HO} (k : KH H0 M (q :: L) H) : KH H0 M L H :=
  ⟨fun j q u e => k.at_ (j + 1) q u (by simpa using e), by have z := k.nd; rw [List.map_cons, List.nodup_cons] at z; exact z.2, k.fr, k.md⟩
theorem KH.forget (k : KH H0 M L H) : KH H0 M [] H := ⟨fun j p o h => by simp at h, List.nodup_nil, k.fr, k.md⟩
theorem KH.take (k : KH H0 M L H) (n : Nat) : KH H0 M (L.take n) H := by
  refine ⟨fun j q u e => k.at_ j q u ?_, ?_, k.fr, k.md⟩
  · rw [List.getElem?_take] at e
    split at e
    · exact e
    · cases e
  · rw [List.map_take]
    exact List.Nodup.sublist (List.take_sublist _ _) k.nd
theorem KH.consN (k : KH H0 M L H) (e : Ext H H') (n : H p = none) (h : H' p = some o) : KH H0 M ((p, o) :: L) H' := (k.ext e).cons h fun m => by
  obtain ⟨u, z⟩ := k.mem m
  rw [n] at z
  cases z
theorem KH.rebaseM (k : KH H0 M L H) (M' : List Addr) (h : ∀ a, a ∈ M' → ∃ o, H a = some o) : KH H M' L H := ⟨k.at_, k.nd, Fr.refl _ _, h⟩
theorem KH.rebase1 (k : KH H0 M L H) {q : Addr} {u : HO} (h : H q = some u) : KH H [q] L H := ⟨k.at_, k.nd, Fr.refl _ _, fun a z => by
  have e : a = q := by simpa using z
  exact ⟨u, by rw [e]; exact h⟩⟩
theorem KH.rebase (k : KH H0 M L H) : KH H [] L H := ⟨k.at_, k.nd, Fr.refl _ _, fun a h => by simp at h⟩
theorem KH.ne (k : KH H0 M L H) (i j : Nat) {p q : Addr} {o u : HO} (hi : L[i]? = some (p, o)) (hj : L[j]? = some (q, u)) (hn : i ≠ j) : p ≠ q := fun e => by
  have h1 : (L.map (·.1))[i]? = some p := by rw [List.getElem?_map, hi] <;> rfl
  have h2 : (L.map (·.1))[j]? = some q := by rw [List.getElem?_map, hj] <;> rfl
  rw [← e] at h2
  exact hn (nd_ix k.nd h1 h2)
theorem map_set_fst {j : Nat} (hj : L[j]? = some (p, o)) : (L.set j (p, o')).map (·.1) = L.map (·.1) := by
  apply List.ext_getElem?
  intro i
  rw [List.getElem?_map, List.getElem?_map, List.getElem?_set]
  by_cases e : j = i
  · subst e
    rw [if_pos rfl]
    obtain ⟨hlt, _⟩ := List.getElem?_eq_some_iff.mp hj
    rw [if_pos hlt, hj]
    rfl
  · rw [if_neg e]
/-- behind a change of one known address (one of M, or a new one) -/
theorem KH.setE (k : KH H0 M L H) (j : Nat) (hj : L[j]? = some (p, o)) (f : Fr [p] H H') (h : H' p = some o') (hm : p ∈ M ∨ H0 p = none) : KH H0 M (L.set j (p, o')) H' := by
  refine ⟨fun i q u e => ?_, by rw [map_set_fst hj]; exact k.nd, fun a u n z => ?_, fun a ha => ?_⟩
  · rw [List.getElem?_set] at e
    by_cases c : j = i
    · subst c
      obtain ⟨hlt, _⟩ := List.getElem?_eq_some_iff.mp hj
      rw [if_pos rfl, if_pos hlt] at e
      have e2 := Option.some.inj e
      injection e2 with e3 e4
      subst e3 e4
      exact h
    · rw [if_neg c] at e
      have ne := k.ne i j e hj (fun z => c z.symm)
      exact f q u (by simpa using ne) (k.at_ i q u e)
  · have ne : a ≠ p := fun q => by
      rcases hm with m | m
      · exact n (by rw [q]; exact m)
      · rw [q, m] at z
        cases z
    exact f a u (by simpa using ne) (k.fr a u n z)
  · by_cases c : a = p
    · exact ⟨o', by rw [c]; exact h⟩
    · obtain ⟨u, z⟩ := k.md a ha
      exact ⟨u, f a u (by simpa using c) z⟩
theorem KH.set (k : KH H0 M L H) (j : Nat) (hj : L[j]? = some (p, o)) (hm : p ∈ M ∨ H0 p = none) : KH H0 M (L.set j (p, o')) (upd H p o') := k.setE j hj (Fr.updE (by simp)) upd_same hm
end
/-- where it stands, found step by step -/
inductive Look : List (Addr × HO) → Addr → HO → Prop where
  | here {L : List (Addr × HO)} {p : Addr} {o : HO} : Look ((p, o) :: L) p o
  | there {q : Addr × HO} {L : List (Addr × HO)} {p : Addr} {o : HO} (h : Look L p o) : Look (q :: L) p o
theorem Look.ix {L : List (Addr × HO)} {p : Addr} {o : HO} (l : Look L p o) : ∃ j : Nat, L[j]? = some (p, o) := by
  induction l with
  | here => exact ⟨0, rfl⟩
  | there _ ih =>
    obtain ⟨j, e⟩ := ih
    exact ⟨j + 1, by simpa using e⟩
theorem KH.find {H0 H : Hp} {M : List Addr} {L : List (Addr × HO)} {p : Addr} {o : HO} (k : KH H0 M L H) (l : Look L p o) : H p = some o := by
  obtain ⟨j, e⟩ := l.ix
  exact k.get j e
inductive UpL : List (Addr × HO) → Addr → HO → HO → List (Addr × HO) → Prop where
  | here {L : List (Addr × HO)} {p : Addr} {o o' : HO} : UpL ((p, o) :: L) p o o' ((p, o') :: L)
  | there {q : Addr × HO} {L L' : List (Addr × HO)} {p : Addr} {o o' : HO} (h : UpL L p o o' L') : UpL (q :: L) p o o' (q :: L')
theorem UpL.ix {L L' : List (Addr × HO)} {p : Addr} {o o' : HO} (l : UpL L p o o' L') : ∃ j : Nat, L[j]? = some (p, o) ∧ L' = L.set j (p, o') := by
  induction l with
  | here => exact ⟨0, rfl, rfl⟩
  | there _ ih =>
    obtain ⟨j, e, e2⟩ := ih
    exact ⟨j + 1, by simpa using e, by rw [e2] <;> rfl⟩
theorem KH.up {H0 H H' : Hp} {M : List Addr} {L L' : List (Addr × HO)} {p : Addr} {o o' : HO} (k : KH H0 M L H) (l : UpL L p o o' L') (f : Fr [p] H H') (h : H' p = some o') (hm : p ∈ M ∨ H0 p = none) : KH H0 M L' H' := by
  obtain ⟨j, e, e2⟩ := l.ix
  rw [e2]
  exact k.setE j e f h hm
inductive SetAt : List (Option V) → Nat → V → List (Option V) → Prop where
  | here {x : Option V} {l : List (Option V)} {v : V} : SetAt (x :: l) 0 v (some v :: l)
  | there {x : Option V} {l l' : List (Option V)} {i : Nat} {v : V} (h : SetAt l i v l') : SetAt (x :: l) (i + 1) v (x :: l')
theorem SetAt.eq {l l' : List (Option V)} {i : Nat} {v : V} (h : SetAt l i v l') : l.set i (some v) = l' := by
  induction h with
  | here => rfl
  | there _ ih => rw [List.set_cons_succ, ih]
inductive GetAt : List (Option V) → Nat → V → Prop where
  | here {l : List (Option V)} {v : V} : GetAt (some v :: l) 0 v
  | there {x : Option V} {l : List (Option V)} {i : Nat} {v : V} (h : GetAt l i v) : GetAt (x :: l) (i + 1) v
theorem GetAt.eq {l : List (Option V)} {i : Nat} {v : V} (h : GetAt l i v) : l[i]? = some (some v) := by
  induction h with
  | here => rfl
  | there _ ih => simpa using ih
/-- a new object o is laid and handed on; an object of ours becomes o -/
def AllocO (o : HO) (Q : VK) (H : Hp) : Prop := ∀ p, H p = none → Q (.ref p) (upd H p o)
def UpdO (p : Addr) (o : HO) (R : Hp → Prop) (H : Hp) : Prop := R (upd H p o)
theorem AllocO.mk {o : HO} {Q : VK} {H0 H : Hp} {M : List Addr} {L : List (Addr × HO)} (k : KH H0 M L H) (h : ∀ p H', H0 p = none → KH H0 M ((p, o) :: L) H' → Q (.ref p) H') : AllocO o Q H := fun p hp => h p _ (k.fresh hp) (k.new hp)
theorem UpdO.mk {o o' : HO} {p : Addr} {R : Hp → Prop} {H0 H : Hp} {M : List Addr} {L L' : List (Addr × HO)} (k : KH H0 M L H) (hj : UpL L p o o' L') (hm : p ∈ M ∨ H0 p = none) (h : ∀ H', KH H0 M L' H' → R H') : UpdO p o' R H := h _ (k.up hj (Fr.updE (by simp)) upd_same hm)
theorem sz_of {n : Nat} (h : n ≤ 100000) : n ≤ sizeLine := Nat.le_trans h (by decide)
theorem sz_lt {n : Nat} (h : n < 100000) : n < sizeLine := Nat.lt_of_lt_of_le h (by decide)
section
variable {D : Ends} {σ : L2.St} {H : Hp} {Q : VK} {K : PySem.W.Frag}
theorem r_iteT {c : Bool} {A B : Prop} (hc : c = true) (h : A) : if c = true then A else B := by
  rw [if_pos hc]
  exact h
theorem r_iteF {c : Bool} {A B : Prop} (hc : c = false) (h : B) : if c = true then A else B := by
  rw [hc, if_neg Bool.false_ne_true]
  exact h
theorem r_seq {t u : TS} (h : t { D with nx := u D } σ H) : tSeq t u D σ H := h
theorem r_next (h : D.nx σ H) : tNext D σ H := h
theorem r_asg {te : TE} {g : TG} (h : te σ H fun x H1 => g x σ H1 D.nx) : tAsg te g D σ H := h
theorem r_drop {te : TE} (h : te σ H fun _ H1 => D.nx σ H1) : tDrop te D σ H := h
theorem r_ret {te : TE} (h : te σ H D.rt) : tRet te D σ H := h
theorem r_retN (h : D.rt .non H) : tRetN D σ H := h
theorem r_ifs {c : TT} {t u : TS} (h : c σ H fun b H1 => if b = true then t D σ H1 else u D σ H1) : tIfS c t u D σ H := h
theorem r_cont (h : D.ct σ H) : tCont D σ H := h
theorem r_break (h : D.bk σ H) : tBreak D σ H := h
theorem r_var {i : Nat} {v : V} (h : GetAt σ i v) (q : Q v H) : tVar i σ H Q := ⟨v, h.eq, q⟩
theorem r_c {v : V} (q : Q v H) : tC v σ H Q := q
theorem r_op {r : R2} {ta tb : TE} (h : ta σ H fun x H1 => tb σ H1 fun y H2 => r x y H2 Q) : tOp r ta tb σ H Q := h
theorem r_un {r : V → Hp → VK → Prop} {ta : TE} (h : ta σ H fun x H1 => r x H1 Q) : tUn r ta σ H Q := h
theorem r_test {te : TE} {R : Bool → Hp → Prop} (h : te σ H fun x H' => ∃ k, x = .bl k ∧ R k H') : tTest te σ H R := h
theorem r_tB {te : TE} {R : Bool → Hp → Prop} (h : te σ H fun x H' => ∃ k, x = .bl k ∧ R k H') : tB te σ H R := h
theorem r_not {t : TT} {R : Bool → Hp → Prop} (h : t σ H fun c H1 => R (!c) H1) : tNot t σ H R := h
theorem r_and {t u : TT} {R : Bool → Hp → Prop} (h : t σ H fun c H1 => if c = true then u σ H1 R else R false H1) : tAnd t u σ H R := h
theorem r_or {t u : TT} {R : Bool → Hp → Prop} (h : t σ H fun c H1 => if c = true then R true H1 else u σ H1 R) : tOr t u σ H R := h
theorem r_notV {ta : TE} (h : ta σ H fun x H1 => ∃ c, x = .bl c ∧ Q (.bl (!c)) H1) : tNotV ta σ H Q := h
theorem r_andV {ta tb : TE} (h : ta σ H fun x H1 => ∃ c, x = .bl c ∧ if c = true then tb σ H1 Q else Q (.bl false) H1) : tAndV ta tb σ H Q := h
theorem r_orV {ta tb : TE} (h : ta σ H fun x H1 => ∃ c, x = .bl c ∧ if c = true then Q (.bl true) H1 else tb σ H1 Q) : tOrV ta tb σ H Q := h
theorem r_ifE {t : TT} {ta tb : TE} (h : t σ H fun c H1 => if c = true then ta σ H1 Q else tb σ H1 Q) : tIf t ta tb σ H Q := h
theorem r_bl {k : Bool} {R : Bool → Prop} (h : R k) : ∃ k', V.bl k = .bl k' ∧ R k' := ⟨k, rfl, h⟩
theorem r_nil {R : List V → Hp → Prop} (h : R [] H) : tNil σ H R := h
theorem r_cons {ta : TE} {tr : TA} {R : List V → Hp → Prop} (h : ta σ H fun x H1 => tr σ H1 fun xs H2 => R (x :: xs) H2) : tCons ta tr σ H R := h
theorem r_tup {ta : TA} (h : ta σ H fun xs H1 => xs.length ≤ sizeLine ∧ AllocO (.tup xs) Q H1) : tTup ta σ H Q := h
theorem r_lst {ta : TA} (h : ta σ H fun xs H1 => xs.length ≤ sizeLine ∧ AllocO (.lst xs) Q H1) : tLst ta σ H Q := h
theorem r_cb {r : List V → Hp → VK → Prop} {ta : TA} (h : ta σ H fun vs H1 => r vs H1 Q) : tCB r ta σ H Q := h
theorem r_call {sp : Sp} {dvs : List V} {E : XK} {ta : TA} (h : ta σ H fun vs H1 => sp (vs ++ dvs) H1 Q E) : tCall sp dvs E ta σ H Q := h
theorem r_name {i : Nat} {v : V} {σ' : L2.St} {R : L2.St → Hp → Prop} (hs : SetAt σ i v σ') (h : R σ' H) : gName i v σ H R := by
  show R (σ.set i (some v)) H
  rw [hs.eq]
  exact h
theorem r_gnil {R : L2.St → Hp → Prop} (h : R σ H) : gNil [] σ H R := ⟨rfl, h⟩
theorem r_gcons {t : TG} {u : TGs} {v : V} {r : List V} {R : L2.St → Hp → Prop} (h : t v σ H fun σ' H' => u r σ' H' R) : gCons t u (v :: r) σ H R := ⟨v, r, rfl, h⟩
theorem r_gtup {n : Nat} {t : TGs} {a : Addr} {xs : List V} {R : L2.St → Hp → Prop} (hx : SqT K H a xs) (hl : xs.length = n) (h : t xs σ H R) : gTup K n t (.ref a) σ H R := ⟨a, xs, rfl, hx, hl, h⟩
theorem r_gsub {to ti : TE} {t : TSet} {v : V} {R : L2.St → Hp → Prop} (h : to σ H fun o H1 => ti σ H1 fun i H2 => t o i v H2 fun H3 => R σ H3) : gSub to ti t v σ H R := h
theorem r_par {i j : Nat} {ta : TA} (h : ta σ H fun vs H1 => ∃ v w, vs = [v, w] ∧ D.nx ((σ.set i (some v)).set j (some w)) H1) : tPar i j ta D σ H := h
theorem r_par2 {v w : V} {R : V → V → Prop} (h : R v w) : ∃ v' w', [v, w] = [v', w'] ∧ R v' w' := ⟨v, w, rfl, h⟩
theorem r_aug {i : Nat} {te : TE} {ti : TIp} {x : V} (hx : GetAt σ i x) (h : te σ H fun y H1 => ti x y H1 fun z H2 => D.nx (σ.set i (some z)) H2) : tAug i te ti D σ H := ⟨x, hx.eq, h⟩
theorem r_I0 {g : Int → Int → V} {i j : Int} (h : Q (g i j) H) : rI0 g (.int i) (.int j) H Q := ⟨i, j, rfl, rfl, h⟩
theorem r_I {C : Int → Int → Prop} {g : Int → Int → V} {i j : Int} (hc : C i j) (h : Q (g i j) H) : rI C g (.int i) (.int j) H Q := ⟨i, j, rfl, rfl, hc, h⟩
theorem r_U {g : Int → V} {i : Int} (h : Q (g i) H) : rU g (.int i) H Q := ⟨i, rfl, h⟩
theorem r_eq {x y : V} (hs : scal x y = true) (h : Q (.bl (decide (x = y))) H) : rEq x y H Q := ⟨hs, h⟩
theorem r_ne {x y : V} (hs : scal x y = true) (h : Q (.bl (!decide (x = y))) H) : rNe x y H Q := ⟨hs, h⟩
theorem r_ixL {p : Addr} {xs : List V} {i : Int} {v : V} (h : SqL K H p xs) (ha : atI xs i = some v) (q : Q v H) : rIxL K (.ref p) (.int i) H Q := ⟨p, xs, i, v, rfl, rfl, h, ha, q⟩
theorem r_ixT {p : Addr} {xs : List V} {i : Int} {v : V} (h : SqT K H p xs) (ha : atI xs i = some v) (q : Q v H) : rIxT K (.ref p) (.int i) H Q := ⟨p, xs, i, v, rfl, rfl, h, ha, q⟩
theorem r_setL {p : Addr} {xs : List V} {i : Int} {j : Nat} {v : V} {R : Hp → Prop} (h : H p = some (.lst xs)) (hj : ixN xs.length i = some j) (q : UpdO p (.lst (xs.set j v)) R H) : rSetL (.ref p) (.int i) v H R := ⟨p, xs, i, j, rfl, rfl, h, hj, q⟩
theorem r_part {te : TE} {R : Option Int → Hp → Prop} (h : te σ H fun x H1 => ∃ i, x = .int i ∧ R (some i) H1) : tPart te σ H R := h
theorem r_nopart {R : Option Int → Hp → Prop} (h : R none H) : tNoPart σ H R := h
theorem r_ii {i : Int} {R : Int → Prop} (h : R i) : ∃ i', V.int i = .int i' ∧ R i' := ⟨i, rfl, h⟩
theorem r_sl {r : V → Option Int → Option Int → Hp → VK → Prop} {te : TE} {tl th : TO} (h : te σ H fun x H1 => tl σ H1 fun l H2 => th σ H2 fun u H3 => r x l u H3 Q) : tSl r te tl th σ H Q := h
theorem r_slL {a : Addr} {xs : List V} {lo hi : Option Int} (h : SqL K H a xs) (q : AllocO (.lst (cutV xs lo hi)) Q H) : rSlL K (.ref a) lo hi H Q := ⟨a, xs, rfl, h, q⟩
theorem r_cat {a b : Addr} {xs ys : List V} (h1 : H a = some (.lst xs)) (h2 : H b = some (.lst ys)) (hz : xs.length + ys.length ≤ sizeLine) (q : AllocO (.lst (xs ++ ys)) Q H) : rCat (.ref a) (.ref b) H Q := ⟨a, b, xs, ys, rfl, rfl, h1, h2, hz, q⟩
theorem r_bm {T : String} {r : V → List V → Hp → VK → Prop} {to : TE} {t : TA} (h : to σ H fun x H1 => tyV K T x H1 ∧ t σ H1 fun xs H2 => r x xs H2 Q) : tBM K T r to t σ H Q := h
theorem r_bm0 {T : String} {r : V → List V → Hp → VK → Prop} {to : TE} (h : to σ H fun x H1 => tyV K T x H1 ∧ r x [] H1 Q) : tBM0 K T r to σ H Q := h
theorem r_append {l : Addr} {xs : List V} {y : V} (h : H l = some (.lst xs)) (hz : xs.length < sizeLine) (q : UpdO l (.lst (xs ++ [y])) (Q .non) H) : rAppend (.ref l) [y] H Q := ⟨l, xs, y, rfl, rfl, h, hz, q⟩
theorem r_int1 {i : Int} {k : Prop} {R : Int → Prop} (h : R i) : (∃ i', [V.int i] = [.int i'] ∧ R i') ∨ k := .inl ⟨i, rfl, h⟩
theorem r_int1b {b : Bool} {k : Prop} {R : Bool → Prop} (h : R b) : k ∨ (∃ b', [V.bl b] = [.bl b'] ∧ R b') := .inr ⟨b, rfl, h⟩
end
/-! ### loops -/
theorem for_enum {K : PySem.W.Frag} {a : Addr} {xs : List V} {g : TG} {tb : TS} {D : Ends} {σ : L2.St} {H : Hp} (Pv : Nat → L2.St → Hp → Prop) (h0 : Pv 0 σ H) (hl : ∀ i σ H, i ≤ xs.length → Pv i σ H → SqL K H a xs)
    (hs : ∀ (i : Nat) x σ H, xs[i]? = some x → Pv i σ H → AllocO (.tup [.int (i : Int), x]) (fun v H' => g v σ H' fun σ2 H2 => tb { D with nx := Pv (i + 1), ct := Pv (i + 1), bk := D.nx } σ2 H2) H) (hd : ∀ σ H, Pv xs.length σ H → D.nx σ H) :
    ∃ W : Nat → Nat → L2.St → Hp → Prop, (∃ m, W 0 m σ H) ∧ ∀ i m σ H, W i m σ H →
      ((Ite K a).stop i H ∧ D.nx σ H) ∨ ((Ite K a).go i H ∧ ∃ N : L2.St → Hp → Prop, (∀ σ' H', N σ' H' → ∃ m', m' < m ∧ W (i + 1) m' σ' H') ∧ ∀ x H', (Ite K a).yld i H x H' → g x σ H' fun σ2 H2 => tb { D with nx := N, ct := N, bk := D.nx } σ2 H2) := by
  refine ⟨fun i m σ H => m = xs.length - i ∧ i ≤ xs.length ∧ Pv i σ H, ⟨xs.length, by simp, Nat.zero_le _, h0⟩, ?_⟩
  rintro i m σ H ⟨rfl, hi, p⟩
  have q := hl i σ H hi p
  by_cases hlt : i < xs.length
  · refine .inr ⟨⟨xs, xs[i], q, by simp [hlt]⟩, Pv (i + 1), fun σ' H' p' => ⟨xs.length - (i + 1), by omega, rfl, hlt, p'⟩, fun x H' y => ?_⟩
    obtain ⟨T, z, rfl, hT, rfl, hz⟩ := y
    exact hs i z σ H (hz xs q) p T hT
  · have e : i = xs.length := by omega
    subst e
    exact .inl ⟨⟨xs, q, Nat.le_refl _⟩, hd σ H p⟩
/-- the turns of a for over a list, over enumerate(list), as one wish -/
def ForG (K : PySem.W.Frag) (a : Addr) (g : TG) (tb : TS) (D : Ends) (σ : L2.St) (H : Hp) : Prop := ∃ W : Nat → Nat → L2.St → Hp → Prop, (∃ m, W 0 m σ H) ∧ ∀ i m σ H, W i m σ H →
  ((Itl K a).stop i H ∧ D.nx σ H) ∨ ((Itl K a).go i H ∧ ∃ N : L2.St → Hp → Prop, (∀ σ' H', N σ' H' → ∃ m', m' < m ∧ W (i + 1) m' σ' H') ∧ ∀ x H', (Itl K a).yld i H x H' → g x σ H' fun σ2 H2 => tb { D with nx := N, ct := N, bk := D.nx } σ2 H2)
def ForE (K : PySem.W.Frag) (a : Addr) (g : TG) (tb : TS) (D : Ends) (σ : L2.St) (H : Hp) : Prop := ∃ W : Nat → Nat → L2.St → Hp → Prop, (∃ m, W 0 m σ H) ∧ ∀ i m σ H, W i m σ H →
  ((Ite K a).stop i H ∧ D.nx σ H) ∨ ((Ite K a).go i H ∧ ∃ N : L2.St → Hp → Prop, (∀ σ' H', N σ' H' → ∃ m', m' < m ∧ W (i + 1) m' σ' H') ∧ ∀ x H', (Ite K a).yld i H x H' → g x σ H' fun σ2 H2 => tb { D with nx := N, ct := N, bk := D.nx } σ2 H2)
def ForR (lo : Int) (n : Nat) (g : TG) (tb : TS) (D : Ends) (σ : L2.St) (H : Hp) : Prop := ∃ W : Nat → Nat → L2.St → Hp → Prop, (∃ m, W 0 m σ H) ∧ ∀ i m σ H, W i m σ H →
  ((Itr lo n).stop i H ∧ D.nx σ H) ∨ ((Itr lo n).go i H ∧ ∃ N : L2.St → Hp → Prop, (∀ σ' H', N σ' H' → ∃ m', m' < m ∧ W (i + 1) m' σ' H') ∧ ∀ x H', (Itr lo n).yld i H x H' → g x σ H' fun σ2 H2 => tb { D with nx := N, ct := N, bk := D.nx } σ2 H2)
section
variable {K : PySem.W.Frag} {D : Ends} {σ : L2.St} {H : Hp} {g : TG} {tb : TS}
theorem r_forL {tl : TE} (h : tl σ H fun x H1 => ∃ a, x = .ref a ∧ (∃ xs, SqL K H1 a xs) ∧ ForG K a g tb D σ H1) : tFor (iList K tl) g tb D σ H := h
theorem r_forE {ta : TA} (h : ta σ H fun vs H1 => ∃ a xs, vs = [.ref a] ∧ SqL K H1 a xs ∧ ForE K a g tb D σ H1) : tFor (iEnum K ta) g tb D σ H := h
theorem r_forR {ta : TA} (h : ta σ H fun vs H1 => ∃ j : Int, vs = [.int j] ∧ -(2 ^ 62) ≤ j ∧ j < 2 ^ 62 ∧ ForR 0 j.toNat g tb D σ H1) : tFor (iRng1 ta) g tb D σ H := h
theorem r_forL2 {a : Addr} {xs : List V} (h : SqL K H a xs) (q : ForG K a g tb D σ H) : ∃ a', V.ref a = .ref a' ∧ (∃ xs, SqL K H a' xs) ∧ ForG K a' g tb D σ H := ⟨a, rfl, ⟨xs, h⟩, q⟩
theorem r_forE2 {a : Addr} {xs : List V} (h : SqL K H a xs) (q : ForE K a g tb D σ H) : ∃ a' xs, [V.ref a] = [.ref a'] ∧ SqL K H a' xs ∧ ForE K a' g tb D σ H := ⟨a, xs, rfl, h, q⟩
end
theorem ForG.mk {K : PySem.W.Frag} {a : Addr} {xs : List V} {g : TG} {tb : TS} {D : Ends} {σ : L2.St} {H : Hp} (Pv : Nat → L2.St → Hp → Prop) (h0 : Pv 0 σ H) (hl : ∀ i σ H, i ≤ xs.length → Pv i σ H → SqL K H a xs)
    (hs : ∀ i x σ H, xs[i]? = some x → Pv i σ H → g x σ H fun σ2 H2 => tb { D with nx := Pv (i + 1), ct := Pv (i + 1), bk := D.nx } σ2 H2) (hd : ∀ σ H, Pv xs.length σ H → D.nx σ H) : ForG K a g tb D σ H := for_list Pv h0 hl hs hd
theorem ForE.mk {K : PySem.W.Frag} {a : Addr} {xs : List V} {g : TG} {tb : TS} {D : Ends} {σ : L2.St} {H : Hp} (Pv : Nat → L2.St → Hp → Prop) (h0 : Pv 0 σ H) (hl : ∀ i σ H, i ≤ xs.length → Pv i σ H → SqL K H a xs)
    (hs : ∀ (i : Nat) x σ H, xs[i]? = some x → Pv i σ H → AllocO (.tup [.int (i : Int), x]) (fun v H' => g v σ H' fun σ2 H2 => tb { D with nx := Pv (i + 1), ct := Pv (i + 1), bk := D.nx } σ2 H2) H) (hd : ∀ σ H, Pv xs.length σ H → D.nx σ H) : ForE K a g tb D σ H := for_enum Pv h0 hl hs hd
theorem ForR.mk {lo : Int} {n : Nat} {g : TG} {tb : TS} {D : Ends} {σ : L2.St} {H : Hp} (Pv : Nat → L2.St → Hp → Prop) (h0 : Pv 0 σ H)
    (hs : ∀ i σ H, i < n → Pv i σ H → g (.int (lo + i)) σ H fun σ2 H2 => tb { D with nx := Pv (i + 1), ct := Pv (i + 1), bk := D.nx } σ2 H2) (hd : ∀ σ H, Pv n σ H → D.nx σ H) : ForR lo n g tb D σ H := for_range Pv h0 hs hd
theorem mem_cutV {xs : List V} {lo hi : Option Int} {x : V} (h : x ∈ cutV xs lo hi) : x ∈ xs := by
  unfold cutV at h
  exact List.mem_of_mem_drop (List.mem_of_mem_take h)
theorem Ext.frN {H0 H H' : Hp} {p : Addr} (e : Ext H0 H) (f : Fr [p] H H') (n : H0 p = none) : Ext H0 H' := fun a o h => f a o (by
  have : a ≠ p := ne_of_none h n
  simpa using this) (e a o h)
/-- a comprehension over range(n), its element a value each -/
def LcR (lo : Int) (n : Nat) (g : TG) (tt : TT) (te : TE) (vs : List Nat) (σ : L2.St) (Q : VK) (H1 : Hp) : Prop := ∀ D, H1 D = none → ∃ W : Nat → Nat → Hp → Prop, (∃ m, W 0 m (upd H1 D (.lst []))) ∧ ∀ i m H, W i m H →
  ((Itr lo n).stop i H ∧ Q (.ref D) H) ∨ ((Itr lo n).go i H ∧ ∃ Nx : Hp → Prop, (∀ H', Nx H' → ∃ m', m' < m ∧ W (i + 1) m' H') ∧ ∀ x H', (Itr lo n).yld i H x H' → g x (wipe σ vs) H' fun σ2 H2 => wipe σ2 vs = wipe σ vs ∧ tt σ2 H2 fun b H3 =>
    if b = true then te σ2 H3 fun y H4 => ∃ acc, H4 D = some (.lst acc) ∧ acc.length < sizeLine ∧ Nx (upd H4 D (.lst (acc ++ [y]))) else Nx H3)
theorem r_lcR {g : TG} {tt : TT} {te : TE} {vs : List Nat} {ta : TA} {σ : L2.St} {H : Hp} {Q : VK} (h : ta σ H fun us H1 => ∃ j : Int, us = [.int j] ∧ -(2 ^ 62) ≤ j ∧ j < 2 ^ 62 ∧ LcR 0 j.toNat g tt te vs σ Q H1) : tLc (iRng1 ta) g tt te vs σ H Q := by
  show ta σ H _
  exact h
theorem lcR_pure {lo : Int} {n : Nat} {g : TG} {tt : TT} {te : TE} {vs : List Nat} {σ : L2.St} {Q : VK} {H : Hp} (f : Nat → V) (hn : n ≤ 100000)
    (hs : ∀ (i : Nat) (H' : Hp) (R : VK) (N : Hp → Prop), i < n → Ext H H' → (∀ H4, Ext H' H4 → R (f i) H4) → g (.int (lo + (i : Int))) (wipe σ vs) H' fun σ2 H2 => wipe σ2 vs = wipe σ vs ∧ tt σ2 H2 fun b H3 => if b = true then te σ2 H3 R else N H3)
    (q : ∀ p H', H p = none → Ext H H' → H' p = some (.lst ((List.range n).map f)) → Q (.ref p) H') : LcR lo n g tt te vs σ Q H := fun D hD =>
  lc_range (fun i H' => Ext H H' ∧ H' D = some (.lst ((List.range i).map f))) ⟨.new hD, upd_same⟩ (fun i H' hi ⟨e, hd⟩ => hs i H' _ _ hi e fun H4 e4 => by
      refine ⟨_, e4 _ _ hd, ?_, fun a o z => ?_, ?_⟩
      · refine sz_lt ?_
        rw [List.length_map, List.length_range]
        omega
      · rw [upd_ne (ne_of_none z hD)]
        exact e4 _ _ (e _ _ z)
      · rw [upd_same, List.range_succ, List.map_append]
        rfl) fun H' ⟨e, hd⟩ => q D H' hD e hd
theorem r_dnew {σ : L2.St} {H : Hp} {Q : VK} (h : AllocO (.dK []) Q H) : tDNewK σ H Q := h
theorem KH.extE {H0 H : Hp} {L : List (Addr × HO)} (k : KH H0 [] L H) : Ext H0 H := fun a o h => k.fr a o (by simp) h
/-! ### a def by its name -/
structure DfOk (P : Program) (w : World) (K : PySem.W.Frag) (mg : Str → Option Value) (base : Heap) (CX : CXT) (k : Nat) (x : Str) (ps : List Str) (sp : Sp) : Prop where
  ex : ∃ (f : Addr) (fd : FuncData), mg x = some (.ref f) ∧ PySem.W.keepIn K (.ref f) = true ∧ Binds K fd ps [] ∧ FnOk P w K mg base CX k f fd ps sp
theorem pe_callD {X : Cx} {CX : CXT} {k j : Nat} {x : Str} {ps : List Str} {sp : Sp} {p pos : Pos} {e : Expr} {es : List Expr} {t : TA} (Df : DfOk X.prog X.w X.K X.mg X.base CX k x ps sp) (hr : Room j X.A) (ha : PA X (e :: es) t)
    (hk : k ≤ j := by decide) (hx : Passes CX X E0 := by first | exact pass0 | exact passL) (hg : Gl X x := by rfl) (hdb : (x == ("__debug__" : Str)) = false := by decide)
    (he : starEach (e :: es) X.env = (false, eval e X.env) :: starEach es X.env := by rfl) (hpl : (backTo pos (starEach es X.env)).any (·.1) = false := by rfl) :
    PE X (.Call (.Name x p) (e :: es) [] pos) (tCall sp [] E0 t) := by
  obtain ⟨f, fd, hm, hkp, hb, F⟩ := Df.ex
  exact pe_call F (hr.mono hk) hg hm hkp hb .nil hx ha hdb he hpl
end Wc

set_option Elab.async false
set_option linter.all false
set_option maxRecDepth 100000
set_option maxHeartbeats 4000000
/-! own exceptions with one field, made as values; plain ones -/
namespace Wc
open PySem PySem.Spec PyProof.Rows L2
def spInit (K : PySem.W.Frag) (C : Addr) (fld : Str) : Sp := fun vs H Q _ => ∃ (a : Addr) (v : V), vs = [.ref a, v] ∧ H a = some (exo a C none) ∧ OexC K C ∧ PySem.W.findIn K (.ref C) fld = some none ∧
  ∀ d, H d = none → d ≠ a → Q .non (upd (upd H d (exd d [(fld, v)])) a (exo a C (some d)))
theorem r_vei {K : PySem.W.Frag} {ta : TA} {σ : L2.St} {H : Hp} {Q : VK} (h : ta σ H fun vs H1 => ∃ (a C : Addr) (ws : List V), vs = .ref a :: ws ∧ ws.length ≤ 1000 ∧ OexC K C ∧ H1 a = some (exo a C none) ∧ Q .non H1) : tVeI K ta σ H Q := h
theorem r_ost {K : PySem.W.Frag} {f : Str} {to te : TE} {D : Ends} {σ : L2.St} {H : Hp} (h : te σ H fun y H1 => to σ H1 fun x H2 => ∃ a C : Addr, x = .ref a ∧ OexC K C ∧ PySem.W.findIn K (.ref C) f = some none ∧
  ((H2 a = some (exo a C none) ∧ ∀ dx, H2 dx = none → dx ≠ a → D.nx σ (upd (upd H2 dx (exd dx [(f, y)])) a (exo a C (some dx)))) ∨
    ∃ (dx : Addr) (fs : List (Str × V)), H2 a = some (exo a C (some dx)) ∧ H2 dx = some (exd dx fs) ∧ fs.length ≤ 900 ∧ D.nx σ (upd H2 dx (exd dx ((f, y) :: fs))))) : tOst K f to te D σ H := h
/-- an exception of the class at C with its one field stands at a -/
def ExF (H : Hp) (a C : Addr) (f : Str) (v : V) : Prop := ∃ d, H a = some (exo a C (some d)) ∧ H d = some (exd d [(f, v)])
theorem ExF.at_ {H : Hp} {a C : Addr} {f : Str} {v : V} (h : ExF H a C f v) : ExAt H a C := by
  obtain ⟨d, h1, h2⟩ := h
  exact .inl ⟨d, _, h1, h2⟩
theorem ExF.ext {H H' : Hp} {a C : Addr} {f : Str} {v : V} (h : ExF H a C f v) (e : Ext H H') : ExF H' a C f v := by
  obtain ⟨d, h1, h2⟩ := h
  exact ⟨d, e _ _ h1, e _ _ h2⟩
theorem ExAt.ext {H H' : Hp} {a C : Addr} (h : ExAt H a C) (e : Ext H H') : ExAt H' a C := by
  rcases h with ⟨d, fs, h1, h2⟩ | ⟨t, h⟩
  · exact .inl ⟨d, fs, e _ _ h1, e _ _ h2⟩
  · exact .inr ⟨t, e _ _ h⟩
/-- .. where one list (or dict) changes -/
theorem ExAt.fr {H H' : Hp} {a C p : Addr} {xs : List V} (h : ExAt H a C) (hp : H p = some (.lst xs)) (e : Fr [p] H H') : ExAt H' a C := by
  have ne : ∀ {b : Addr} {φ : Heap → Prop}, H b = some (.ext φ) → b ∉ [p] := fun {b φ} hb => by
    have : b ≠ p := ne_of hb hp (by intro z; cases z)
    simpa using this
  rcases h with ⟨d, fs, h1, h2⟩ | ⟨t, h⟩
  · exact .inl ⟨d, fs, e _ _ (ne h1) h1, e _ _ (ne h2) h2⟩
  · exact .inr ⟨t, e _ _ (ne h) h⟩
/-- NoX(v) as a value -/
structure ErrOk (P : Program) (w : World) (K : PySem.W.Frag) (mg : Str → Option Value) (base : Heap) (x : Str) (C : Addr) (fld : Str) : Prop where
  g : mg x = some (.ref C)
  o : OexC K C
  no : PySem.W.findIn K (.ref C) fld = some none
  ex : ∃ (f : Addr) (fd : FuncData) (ps : List Str), ExIn K C f ∧ Binds K fd ps [] ∧ FnOk P w K mg base CX0 1 f fd ps (spInit K C fld)
/-- C(v): what is asked behind the argument -/
def MkG (K : PySem.W.Frag) (C : Addr) (fld : Str) (Q : VK) (vs : List V) (H : Hp) : Prop := vs.length ≤ 1000 ∧ ∀ a, H a = none → spInit K C fld (.ref a :: vs) (upd H a (exo a C none)) (fun v H2 => v = .non ∧ Q (.ref a) H2) E0
theorem MkG.mk {K : PySem.W.Frag} {C : Addr} {fld : Str} {v : V} {Q : VK} {H0 H : Hp} {M : List Addr} {L : List (Addr × HO)} (o : OexC K C) (no : PySem.W.findIn K (.ref C) fld = some none) (k : KH H0 M L H)
    (h : ∀ a d H', KH H0 M ((a, exo a C (some d)) :: (d, exd d [(fld, v)]) :: L) H' → Q (.ref a) H') : MkG K C fld Q [v] H := by
  refine ⟨by simp, fun a ha => ⟨a, v, rfl, upd_same, o, no, fun d hd ne => ⟨rfl, ?_⟩⟩⟩
  rw [upd_ne ne] at hd
  have e : upd (upd (upd H a (exo a C none)) d (exd d [(fld, v)])) a (exo a C (some d)) = upd (upd H d (exd d [(fld, v)])) a (exo a C (some d)) := by
    funext b
    by_cases c : b = a
    · rw [c, upd_same, upd_same]
    · rw [upd_ne c, upd_ne c]
      by_cases c2 : b = d
      · rw [c2, upd_same, upd_same]
      · rw [upd_ne c2, upd_ne c2, upd_ne c]
  rw [e]
  exact h a d _ ((k.new hd).new (by rw [upd_ne (Ne.symm ne)]; exact ha))
theorem r_mkV {K : PySem.W.Frag} {C : Addr} {fld : Str} {ta : TA} {σ : L2.St} {H : Hp} {Q : VK} (h : ta σ H fun vs H1 => MkG K C fld Q vs H1) : tMkV C (spInit K C fld) ta σ H Q := h
theorem pe_mkE {X : Cx} {x fld : Str} {C : Addr} {j : Nat} {p pos : Pos} {e : Expr} {te : TE} (Er : ErrOk X.prog X.w X.K X.mg X.base x C fld) (hr : Room j X.A) (he : PE X e te)
    (hk : 2 ≤ j := by decide) (hg : Gl X x := by rfl) (hdb : (x == ("__debug__" : Str)) = false := by decide)
    (hs : starEach [e] X.env = (false, eval e X.env) :: starEach [] X.env := by rfl) : PE X (.Call (.Name x p) [e] [] pos) (tMkV C (spInit X.K C fld) (tCons te tNil)) := by
  obtain ⟨f, fd, ps, I, b, F⟩ := Er.ex
  exact pe_mkv (p := p) (pos := pos) Er.o I F (hr.mono hk) b pass0 hg Er.g (pa_cons he pa_nil hs) hdb hs (by rfl)
/-- e.f -/
theorem r_xfld {K : PySem.W.Frag} {te : TE} {f : Str} {σ : L2.St} {H : Hp} {Q : VK} (h : te σ H fun x H1 => ∃ (a C d : Addr) (fs : List (Str × V)) (v : V), x = .ref a ∧ H1 a = some (exo a C (some d)) ∧ H1 d = some (exd d fs) ∧ ExRd K C ∧ OexC K C ∧ NoAttr K C f ∧ fs.lookup f = some v ∧ Q v H1) : tXfld K te f σ H Q := h
theorem r_xf {K : PySem.W.Frag} {f : Str} {H : Hp} {R : V → Prop} {a C d : Addr} {v : V} (h1 : H a = some (exo a C (some d))) (h2 : H d = some (exd d [(f, v)])) (hr : ExRd K C) (ho : OexC K C) (hn : PySem.W.findIn K (.ref C) f = some none) (q : R v) :
    ∃ (a' C d : Addr) (fs : List (Str × V)) (v : V), V.ref a = .ref a' ∧ H a' = some (exo a' C (some d)) ∧ H d = some (exd d fs) ∧ ExRd K C ∧ OexC K C ∧ NoAttr K C f ∧ fs.lookup f = some v ∧ R v :=
  ⟨a, C, d, _, v, rfl, h1, h2, hr, ho, hn, by simp [List.lookup], q⟩
/-- isinstance(e, c) -/
theorem r_isiE {K : PySem.W.Frag} {H : Hp} {Q : VK} {a C : Addr} {c : V} {u : Value} {b : Bool} (hc : ClsV c u) (hx : ExAt H a C) (S : ExIs K C) (R : ExRd K C) (sb : PySem.W.subIn K (.ref C) (.type "BaseException") = some true) (e : PySem.W.kitOne K (.ref C) u = some b) (q : Q (.bl b) H) :
    rIsiE K [.ref a, c] H Q := ⟨a, C, c, u, b, rfl, hc, hx, S, R, sb, e, q⟩
/-- a plain one: X(text) -/
structure PlainOk (K : PySem.W.Frag) (mg : Str → Option Value) (x : Str) (C : Addr) : Prop where
  g : mg x = some (.ref C)
  x : PySem.W.excIn K C He.veBase "ValueError.__new__" = true
  k : PySem.W.keepIn K (.ref C) = true
def AllocX (C : Addr) (v : V) (Q : VK) (H : Hp) : Prop := ∀ a t, H a = none → H t = none → a ≠ t → Q (.ref a) (upd (upd H t (.tup [v])) a (exo1 a C t))
def tMkX (C : Addr) (te : TE) : TE := fun σ H Q => te σ H fun v H1 => AllocX C v Q H1
theorem r_mkX {C : Addr} {te : TE} {σ : L2.St} {H : Hp} {Q : VK} (h : te σ H fun v H1 => AllocX C v Q H1) : tMkX C te σ H Q := h
theorem pe_mkX {X : Cx} {x : Str} {C : Addr} {p pos : Pos} {e : Expr} {te : TE} (Px : PlainOk X.K X.mg x C) (he : PE X e te) (hg : Gl X x := by rfl)
    (hdb : (x == ("__debug__" : Str)) = false := by decide) (hs : starEach [e] X.env = (false, eval e X.env) :: starEach [] X.env := by rfl) : PE X (.Call (.Name x p) [e] [] pos) (tMkX C te) :=
  pe_exc1t PySem.F.excBase_ValueError Px.x Px.g Px.k hg he hs hdb
def ExT (H : Hp) (a C : Addr) (v : V) : Prop := ∃ t, H a = some (exo1 a C t) ∧ H t = some (.tup [v])
theorem ExT.at_ {H : Hp} {a C : Addr} {v : V} (h : ExT H a C v) : ExAt H a C := by
  obtain ⟨t, h1, _⟩ := h
  exact .inr ⟨t, h1⟩
theorem ExT.ext {H H' : Hp} {a C : Addr} {v : V} (h : ExT H a C v) (e : Ext H H') : ExT H' a C v := by
  obtain ⟨d, h1, h2⟩ := h
  exact ⟨d, e _ _ h1, e _ _ h2⟩
theorem AllocX.mk {C : Addr} {v : V} {Q : VK} {H0 H : Hp} {M : List Addr} {L : List (Addr × HO)} (k : KH H0 M L H) (h : ∀ a t H', KH H0 M ((a, exo1 a C t) :: (t, .tup [v]) :: L) H' → Q (.ref a) H') : AllocX C v Q H := fun a t ha ht ne =>
  h a t _ ((k.new ht).new (by rw [upd_ne ne]; exact ha))
/-- x != y: data, or one empty dict with itself -/
def rNeT (K : PySem.W.Frag) : R2 := fun x y H Q => rNeD K x y H Q ∨ ∃ a, x = .ref a ∧ y = .ref a ∧ H a = some (.dK []) ∧ Q (.bl false) H
theorem op_neT {X : Cx} (hu : X.A.units + 64 < cLine) : OpR X (compareOp .NotEq) (rNeT X.K) := by
  intro pins s σ H x y v u Q I rx ry h
  rcases h with h | ⟨a, rfl, rfl, ha, q⟩
  · exact op_neD hu pins s σ H x y v u Q I rx ry h
  · obtain rfl : v = Value.ref a := rx
    obtain rfl : u = Value.ref a := ry
    obtain ⟨_, hm, vs, rv, hd⟩ := (show ObjOk X.prog X.w H s.heap a (.dK []) from I.hok a _ ha)
    cases rv
    exact PySem.W.keq_ne hm hm hd hd (by omega) (fun _ => .nil) ⟨.bl false, H, I, rfl, q⟩
end Wc

set_option Elab.async false
set_option linter.all false
set_option maxRecDepth 100000
set_option maxHeartbeats 4000000
/-! flat data -/
namespace Wc
open PySem PySem.Spec PyProof.Rows L2
def fD : V → PyData
  | .bl b => .bool b
  | .int i => .int i
  | .str s => .str s
  | _ => .none
def FlatOk (v : V) : Prop := v = .non ∨ (∃ b, v = .bl b) ∨ (∃ i, v = .int i) ∨ ∃ s, v = .str s ∧ PyData.strOk s = true
theorem flat_dp {K : PySem.W.Frag} {H : Hp} {v : V} (h : FlatOk v) : Dp K H v (fD v) := by
  rcases h with rfl | ⟨b, rfl⟩ | ⟨i, rfl⟩ | ⟨s, rfl, _⟩
  · exact .non
  · exact .bl b
  · exact .int i
  · exact .str s
theorem flat_lay {v : V} (h : FlatOk v) : (fD v).canLay0 = true ∧ (fD v).depth = 0 := by
  rcases h with rfl | ⟨b, rfl⟩ | ⟨i, rfl⟩ | ⟨s, rfl, hs⟩
  · exact ⟨rfl, rfl⟩
  · exact ⟨rfl, rfl⟩
  · exact ⟨rfl, rfl⟩
  · exact ⟨by simpa [fD, PyData.canLay0] using hs, rfl⟩
theorem flat_shaped {v : V} (h : FlatOk v) : SeqAt.shaped (fD v) = true := by
  obtain ⟨h1, h2⟩ := flat_lay h
  unfold SeqAt.shaped
  rw [h1, h2] <;> rfl
theorem flats_dp {K : PySem.W.Frag} {H : Hp} : ∀ {xs : List V}, (∀ v, v ∈ xs → FlatOk v) → DpAll K H xs (xs.map fD)
  | [], _ => .nil
  | v :: xs, h => .cons (flat_dp (h v (by simp))) (flats_dp fun u hu => h u (by simp [hu]))
theorem flats_lay : ∀ {xs : List V}, (∀ v, v ∈ xs → FlatOk v) → PyData.canLayAll0 (xs.map fD) = true ∧ PyData.depthAll (xs.map fD) = 0
  | [], _ => ⟨rfl, rfl⟩
  | v :: xs, h => by
    obtain ⟨h1, h2⟩ := flat_lay (h v (by simp))
    obtain ⟨h3, h4⟩ := flats_lay (xs := xs) fun u hu => h u (by simp [hu])
    refine ⟨?_, ?_⟩
    · show ((fD v).canLay0 && PyData.canLayAll0 (xs.map fD)) = true
      rw [h1, h3] <;> rfl
    · show max (fD v).depth (PyData.depthAll (xs.map fD)) = 0
      rw [h2, h4] <;> rfl
theorem lst_shaped {xs : List V} (h : ∀ v, v ∈ xs → FlatOk v) : SeqAt.shaped (.list (xs.map fD)) = true := by
  obtain ⟨h1, h2⟩ := flats_lay h
  show ((PyData.canLay0 (.list (xs.map fD))) && decide (PyData.depth (.list (xs.map fD)) ≤ 64)) = true
  have e1 : PyData.canLay0 (.list (xs.map fD)) = true := by simpa [PyData.canLay0] using h1
  have e2 : PyData.depth (.list (xs.map fD)) = 1 := by
    show PyData.depthAll (xs.map fD) + 1 = 1
    rw [h2]
  rw [e1, e2] <;> rfl
theorem tup_shaped {xs : List V} (h : ∀ v, v ∈ xs → FlatOk v) : SeqAt.shaped (.tuple (xs.map fD)) = true := by
  obtain ⟨h1, h2⟩ := flats_lay h
  show ((PyData.canLay0 (.tuple (xs.map fD))) && decide (PyData.depth (.tuple (xs.map fD)) ≤ 64)) = true
  have e1 : PyData.canLay0 (.tuple (xs.map fD)) = true := by simpa [PyData.canLay0] using h1
  have e2 : PyData.depth (.tuple (xs.map fD)) = 1 := by
    show PyData.depthAll (xs.map fD) + 1 = 1
    rw [h2]
  rw [e1, e2] <;> rfl
theorem shaped_refl {d : PyData} (h : SeqAt.shaped d = true) : PyData.eqv d d = true := SeqAt.eqv_refl d (SeqAt.canLay_of_shaped h)
theorem flat_bl (b : Bool) : FlatOk (.bl b) := .inr (.inl ⟨b, rfl⟩)
theorem flat_int (i : Int) : FlatOk (.int i) := .inr (.inr (.inl ⟨i, rfl⟩))
/-- data that != finds alike -/
theorem ne_same {K : PySem.W.Frag} {H : Hp} {x y : V} {d : PyData} {Q : VK} (h1 : Dp K H x d) (h2 : Dp K H y d) (hs : SeqAt.shaped d = true) (q : Q (.bl false) H) : rNeD K x y H Q := ⟨d, d, h1, h2, hs, hs, by rw [shaped_refl hs]; exact q⟩
end Wc

set_option Elab.async false
set_option linter.all false
set_option maxRecDepth 100000
set_option maxHeartbeats 4000000
/-! the head's look with the tables of code objects of some defs (those that make lambdas) -/
namespace Wc
open PySem PySem.Spec PyProof.Rows L2
def obsY (n : Nat) (fa : List He.Fa) (fn : List He.DefD) (tf : List He.Defn) (ex : PySem.W.Frag → Bool) (g : Addr → Option Obj) : AlC :=
  (He.obsD fa fn (He.frT g (asC g n)), ex (He.frT g (asC g n)) && He.tabsB g tf (He.frT g (asC g n)))
structure SaysY (fa : List He.Fa) (fn : List He.DefD) (tf : List He.Defn) (ex : PySem.W.Frag → Bool) (h : Heap) (K : PySem.W.Frag) : Prop where
  d : He.SaysD fa fn K
  more : ex K = true
  hd : ∀ p ∈ tf, PySem.W.codeHdIn K (He.cT K p).1 (He.cT K p).2 = true
  out : ∀ p ∈ tf, K.lookup (He.cT K p).2 = none
  empty : ∀ p ∈ tf, h.get? (He.cT K p).2 = some { cls := .none, data := .fields #[] }
theorem saysY_of {n : Nat} {fa : List He.Fa} {fn : List He.DefD} {tf : List He.Defn} {ex : PySem.W.Frag → Bool} {h : Heap} (e : obsY n fa fn tf ex h.get? = valC fn) : SaysY fa fn tf ex h (He.frT h.get? (asC h.get? n)) := by
  have e1 : He.obsD fa fn (He.frT h.get? (asC h.get? n)) = He.valD fn := congrArg (fun z : AlC => z.1) e
  have e2 : (ex (He.frT h.get? (asC h.get? n)) && He.tabsB h.get? tf (He.frT h.get? (asC h.get? n))) = true := congrArg (fun z : AlC => z.2) e
  obtain ⟨h1, h2⟩ := He.ba e2
  have key : ∀ p ∈ tf, PySem.W.codeHdIn (He.frT h.get? (asC h.get? n)) (He.cT (He.frT h.get? (asC h.get? n)) p).1 (He.cT (He.frT h.get? (asC h.get? n)) p).2 = true ∧ ∃ o, h.get? (He.cT (He.frT h.get? (asC h.get? n)) p).2 = some o ∧ He.emptyTab o = true := fun p hp => by
    obtain ⟨h3, h4⟩ := He.ba (List.all_eq_true.mp h2 p hp)
    refine ⟨h3, ?_⟩
    cases q : h.get? (He.cT (He.frT h.get? (asC h.get? n)) p).2 with
    | none =>
      rw [q] at h4
      cases h4
    | some o =>
      rw [q] at h4
      exact ⟨o, rfl, h4⟩
  exact ⟨e1, h1, fun p hp => (key p hp).1, fun p hp => by
    obtain ⟨_, o, q, z⟩ := key p hp
    exact He.frT_none q z, fun p hp => by
    obtain ⟨_, o, q, z⟩ := key p hp
    rw [q, He.emptyTab_eq z]⟩
def hookY (n : Nat) (fa : List He.Fa) (fn : List He.DefD) (tf : List He.Defn) (ex : PySem.W.Frag → Bool) : PySem.W.Hook where
  α := AlC
  obs := fun s => obsY n fa fn tf ex s.heap.get?
  val := fun _ => valC fn
  says := fun _ h => ∃ K : PySem.W.Frag, K.In h ∧ SaysY fa fn tf ex h K
  of := fun _ _ e => ⟨_, He.frT_in, saysY_of e⟩
  keeps := fun _ _ _ ⟨K, hK, c⟩ k => ⟨K, PySem.W.Frag.In.keeps hK k, ⟨c.d, c.more, c.hd, c.out, fun p hp => k _ _ (c.empty p hp)⟩⟩
theorem obsY_eq {n : Nat} {fa : List He.Fa} {fn : List He.DefD} {tf : List He.Defn} {ex : PySem.W.Frag → Bool} {g : Addr → Option Obj} {s : Shared} (h : ∀ a, g a = s.heap.get? a) : obsY n fa fn tf ex g = (hookY n fa fn tf ex).obs s := by
  have e : g = s.heap.get? := funext h
  rw [e] <;> rfl
theorem SaysY.fact {fa : List He.Fa} {fn : List He.DefD} {tf : List He.Defn} {ex : PySem.W.Frag → Bool} {h : Heap} {K : PySem.W.Frag} (c : SaysY fa fn tf ex h K) {f : He.Fa} (hf : f ∈ fa) : f.ok K = true := by
  obtain ⟨i, hi, e⟩ := List.mem_iff_getElem.mp hf
  exact c.d.fact i (f := f) (by rw [List.getElem?_eq_getElem hi, e])
theorem SaysY.def_ {fa : List He.Fa} {fn : List He.DefD} {tf : List He.Defn} {ex : PySem.W.Frag → Bool} {h : Heap} {K : PySem.W.Frag} (c : SaysY fa fn tf ex h K) {d : He.DefD} (hd : d ∈ fn) : ∃ fd, FunD K d.name d.qual d.params d.body d.scope (d.dvs K) (d.kws K) (He.fAd K d.at_) fd := by
  obtain ⟨i, hi, e⟩ := List.mem_iff_getElem.mp hd
  exact c.d.def_ i (d := d) (by rw [List.getElem?_eq_getElem hi, e])
end Wc

set_option Elab.async false
set_option linter.all false
set_option maxRecDepth 100000
set_option maxHeartbeats 4000000
/-! comprehensions over any walk; fields, methods, dicts; the runtime's classes on the heap -/
namespace Wc
open PySem PySem.Spec PyProof.Rows L2
theorem pAppend {α β : Type} {F : α → β → Prop} : ∀ {a : List α} {b : List β} {c : List α} {d : List β}, Paired F a b → Paired F c d → Paired F (a ++ c) (b ++ d)
  | _, _, _, _, .nil, h => h
  | _, _, _, _, .cons x y, h => .cons x (pAppend y h)
/-! ### comprehensions -/
def LcJ (J : It) (g : TG) (tt : TT) (te : TE) (vs : List Nat) (σ : L2.St) (Q : VK) (H1 : Hp) : Prop := ∀ D, H1 D = none → ∃ W : Nat → Nat → Hp → Prop, (∃ m, W 0 m (upd H1 D (.lst []))) ∧ ∀ i m H, W i m H →
  (J.stop i H ∧ Q (.ref D) H) ∨ (J.go i H ∧ ∃ Nx : Hp → Prop, (∀ H', Nx H' → ∃ m', m' < m ∧ W (i + 1) m' H') ∧ ∀ x H', J.yld i H x H' → g x (wipe σ vs) H' fun σ2 H2 => wipe σ2 vs = wipe σ vs ∧ tt σ2 H2 fun b H3 =>
    if b = true then te σ2 H3 fun y H4 => ∃ acc, H4 D = some (.lst acc) ∧ acc.length < sizeLine ∧ Nx (upd H4 D (.lst (acc ++ [y]))) else Nx H3)
theorem lcJ {J : It} {n : Nat} {G : Hp → Prop} {Y : Nat → Hp → V → Hp → Prop} {g : TG} {tt : TT} {te : TE} {vs : List Nat} {σ : L2.St} {Q : VK} {H : Hp} (w : Walk J n G Y) (f : Nat → Option V) (hn : n ≤ 100000) (hG : ∀ H', Ext H H' → G H')
    (hs : ∀ (i : Nat) (x : V) (H1 H2 : Hp) (R : VK) (N : Hp → Prop), i < n → Ext H H1 → Y i H1 x H2 → (∀ v H4, f i = some v → Ext H1 H4 → R v H4) → (∀ H4, f i = none → Ext H1 H4 → N H4) →
      g x (wipe σ vs) H2 fun σ2 H3 => wipe σ2 vs = wipe σ vs ∧ tt σ2 H3 fun b H4 => if b = true then te σ2 H4 R else N H4)
    (q : ∀ p H', H p = none → Ext H H' → H' p = some (.lst ((List.range n).filterMap f)) → Q (.ref p) H') : LcJ J g tt te vs σ Q H := fun D hD =>
  lc_it w (fun i H' => Ext H H' ∧ H' D = some (.lst ((List.range i).filterMap f))) ⟨.new hD, upd_same⟩ (fun i H' _ p => hG H' p.1)
    (fun i x H1 H2 hi ⟨e, hd⟩ y => hs i x H1 H2 _ _ hi e y (fun v H4 hv e4 => by
        refine ⟨_, e4 _ _ hd, ?_, fun a o z => ?_, ?_⟩
        · refine sz_lt ?_
          have h1 := List.length_filterMap_le f (List.range i)
          rw [List.length_range] at h1
          omega
        · rw [upd_ne (ne_of_none z hD)]
          exact e4 _ _ (e _ _ z)
        · rw [upd_same, List.range_succ, List.filterMap_append]
          simp [hv]) fun H4 hv e4 => by
        refine ⟨e.trans e4, ?_⟩
        rw [List.range_succ, List.filterMap_append]
        simp [hv]
        exact e4 _ _ hd) fun H' ⟨e, hd⟩ => q D H' hD e hd
theorem range_get {α : Type} (l : List α) : (List.range l.length).map (fun i => l[i]?) = l.map some := by
  apply List.ext_getElem?
  intro i
  by_cases h : i < l.length
  · simp [h]
  · simp [h]
theorem range_fm {α β : Type} (l : List α) (g : α → Option β) : (List.range l.length).filterMap (fun i => l[i]?.bind g) = l.filterMap g := by
  have e : (List.range l.length).filterMap (fun i => l[i]?.bind g) = ((List.range l.length).map (fun i => l[i]?)).filterMap (fun o => o.bind g) := by
    rw [List.filterMap_map] <;> rfl
  rw [e, range_get, List.filterMap_map] <;> rfl
section
variable {K : PySem.W.Frag} {D : Ends} {σ : L2.St} {H : Hp} {Q : VK} {g : TG} {tt : TT} {te td tl ta : TE} {vs : List Nat}
theorem r_lcS (h : td σ H fun v H1 => ∃ x, v = .str x ∧ LcJ (Its x) g tt te vs σ Q H1) : tLc (iStr td) g tt te vs σ H Q := h
theorem r_lcS2 {x : Str} {R : Str → Prop} (h : R x) : ∃ y, V.str x = .str y ∧ R y := ⟨x, rfl, h⟩
theorem r_lcL (h : tl σ H fun x H1 => ∃ a, x = .ref a ∧ (∃ xs, SqL K H1 a xs) ∧ LcJ (Itl K a) g tt te vs σ Q H1) : tLc (iList K tl) g tt te vs σ H Q := h
theorem r_lcT (h : tl σ H fun x H1 => ∃ a, x = .ref a ∧ (∃ xs, SqT K H1 a xs) ∧ LcJ (Itt K a) g tt te vs σ Q H1) : tLc (iTup K tl) g tt te vs σ H Q := h
theorem r_lcI (h : td σ H fun x H1 => ∃ d o kvs, x = .ref d ∧ H1 d = some (.frz o (.dK kvs)) ∧ LcJ (Iti d o kvs) g tt te vs σ Q H1) : tLc (iItems td) g tt te vs σ H Q := h
theorem r_yes {R : Bool → Hp → Prop} (h : R true H) : tYes σ H R := h
theorem r_chain {r r' : R2} {tc : TE} {tb : TE} (h : ta σ H fun x H1 => tb σ H1 fun y H2 => r x y H2 fun z H3 => ∃ k, z = .bl k ∧ (if k = true then tc σ H3 fun w' H4 => r' y w' H4 Q else Q (.bl false) H3)) : tChain r r' ta tb tc σ H Q := h
/-! ### fields -/
def FldAt (K : PySem.W.Frag) (f : Str) (x : V) (H : Hp) (Q : VK) : Prop := ∃ a C dx fs v, x = .ref a ∧ H a = some (.ins C dx fs) ∧ Cls K C ∧ NoAttr K C f ∧ fs.lookup f = some v ∧ Q v H
theorem r_fld {f : Str} (h : ta σ H fun x H1 => FldAt K f x H1 Q) : tFld K ta f σ H Q := h
theorem FldAt.mk {f : Str} {a C dx : Addr} {fs : List (Str × V)} {v : V} (h : H a = some (.ins C dx fs)) (c : Cls K C) (n : NoAttr K C f) (e : fs.lookup f = some v) (q : Q v H) : FldAt K f (.ref a) H Q := ⟨a, C, dx, fs, v, rfl, h, c, n, e, q⟩
def SFldAt (K : PySem.W.Frag) (f : Str) (y x : V) (H : Hp) (R : Hp → Prop) : Prop := ∃ a C dx fs, x = .ref a ∧ H a = some (.ins C dx fs) ∧ Cls K C ∧ NoAttr K C f ∧ fs.length < 1000 ∧ R (upd H a (.ins C dx (putF f y fs)))
theorem r_sfld {f : Str} {tv : TE} (h : tv σ H fun y H1 => ta σ H1 fun x H2 => SFldAt K f y x H2 (D.nx σ)) : sFld K ta tv f D σ H := h
theorem SFldAt.mk {f : Str} {a C dx : Addr} {y : V} {fs : List (Str × V)} {R : Hp → Prop} {H0 : Hp} {M : List Addr} {L L' : List (Addr × HO)} (k : KH H0 M L H) (l : UpL L a (.ins C dx fs) (.ins C dx (putF f y fs)) L') (c : Cls K C) (n : NoAttr K C f) (hz : fs.length < 1000) (hm : a ∈ M ∨ H0 a = none)
    (h : H a = some (.ins C dx fs)) (q : ∀ H', KH H0 M L' H' → R H') : SFldAt K f y (.ref a) H R := ⟨a, C, dx, fs, rfl, h, c, n, hz, q _ (k.up l (Fr.updE (by simp)) upd_same hm)⟩
/-! ### methods, instances -/
theorem r_meth {C : Addr} {m : Str} {sp : Sp} {dvs : List V} {E : XK} {t : TA} (h : ta σ H fun x H1 => ∃ a dx fs, x = .ref a ∧ H1 a = some (.ins C dx fs) ∧ fs.lookup m = none ∧ t σ H1 fun vs H2 => sp (x :: (vs ++ dvs)) H2 Q E) : tMeth C m sp dvs E ta t σ H Q := h
theorem r_methA {C a dx : Addr} {m : Str} {fs : List (Str × V)} {R : Prop} (h : H a = some (.ins C dx fs)) (l : fs.lookup m = none) (q : R) : ∃ a' dx fs, V.ref a = .ref a' ∧ H a' = some (.ins C dx fs) ∧ fs.lookup m = none ∧ R := ⟨a, dx, fs, rfl, h, l, q⟩
theorem r_make {C : Addr} {sp : Sp} {dvs : List V} {E : XK} {t : TA} (h : t σ H fun vs H1 => ∀ x dx, H1 x = none → H1 dx = none → dx ≠ x → sp (.ref x :: (vs ++ dvs)) (upd (upd H1 dx (.own x)) x (.ins C dx [])) (fun v H2 => v = .non ∧ Q (.ref x) H2) E) : tMake C sp dvs E t σ H Q := h
/-! ### dicts -/
theorem r_dget {ty : TE} (h : td σ H fun x H1 => ty σ H1 fun y H2 => ∃ a v, x = .ref a ∧ DGet H2 a y (some v) ∧ Q v H2) : tDGet td ty σ H Q := h
theorem r_din {ty : TE} (h : ty σ H fun y H1 => td σ H1 fun x H2 => ∃ a o, x = .ref a ∧ DGet H2 a y o ∧ Q (.bl o.isSome) H2) : tDIn ty td σ H Q := h
theorem r_dput {ty tv : TE} (h : tv σ H fun v H1 => td σ H1 fun x H2 => ty σ H2 fun y H3 => ∃ a H4, x = .ref a ∧ DPut H3 a y v H4 ∧ D.nx σ H4) : sDPut td ty tv D σ H := h
theorem dget_mk {a : Addr} {x : Str} {kvs : List (Key × V)} {v : V} (h : Rd H a (.dK kvs)) (e : valV kvs (.inr x) = some v) {R : V → Prop} (q : R v) : ∃ a' v, V.ref a = .ref a' ∧ DGet H a' (.str x) (some v) ∧ R v := ⟨a, v, rfl, .inl ⟨kvs, .inr x, h, rfl, e.symm⟩, q⟩
theorem dget_mk' {a : Addr} {y : V} {x : Str} {kvs : List (Key × V)} {v : V} (hy : y = .str x) (h : Rd H a (.dK kvs)) (e : valV kvs (.inr x) = some v) {R : V → Prop} (q : R v) : ∃ a' v, V.ref a = .ref a' ∧ DGet H a' y (some v) ∧ R v := by
  subst hy
  exact dget_mk h e q
theorem pe_fldK {X : Cx} (K : PySem.W.Frag) {e : Expr} {f : Str} {pos : Pos} (he : PE X e ta) (hb : attributeBase e f X.env (eval e X.env) = eval e X.env) (hK : X.K = K := by rfl) : PE X (.Attribute e f pos) (tFld K ta f) := by
  subst hK
  exact pe_fld he hb
theorem r_lockE {t : TE} {d : Addr} {u : HO} (h : H d = some u) (m : Mut (some u)) (q : ∀ od, t σ (upd H d (.frz od u)) fun v H' => H' d = some (.frz od u) ∧ Q v (upd H' d u)) : tLockE t σ H Q := ⟨d, u, h, m, q⟩
theorem din_mkR {a : Addr} {x : Str} {kvs : List (Key × V)} (h : Rd H a (.dK kvs)) {R : Option V → Prop} (q : R (valV kvs (.inr x))) : ∃ a' o, V.ref a = .ref a' ∧ DGet H a' (.str x) o ∧ R o := ⟨a, _, rfl, .inl ⟨kvs, .inr x, h, rfl, rfl⟩, q⟩
theorem din_mk {a : Addr} {x : Str} {kvs : List (Key × V)} (h : Rd H a (.dK kvs)) (q : Q (.bl (valV kvs (.inr x)).isSome) H) : ∃ a' o, V.ref a = .ref a' ∧ DGet H a' (.str x) o ∧ Q (.bl o.isSome) H := ⟨a, _, rfl, .inl ⟨kvs, .inr x, h, rfl, rfl⟩, q⟩
end
theorem rd_ext {H H' : Hp} {a : Addr} {o : HO} (h : Rd H a o) (e : Ext H H') : Rd H' a o := h.elim (fun h => .inl (e _ _ h)) fun ⟨p, h⟩ => .inr ⟨p, e _ _ h⟩
/-! ### what never changes -/
def Imm : HO → Bool
  | .tup _ => true
  | .ins _ _ _ => true
  | _ => false
def Mo (H H' : Hp) : Prop := ∀ a o, Imm o = true → H a = some o → H' a = some o
theorem Ext.mo {H H' : Hp} (e : Ext H H') : Mo H H' := fun a o _ h => e a o h
theorem Mo.trans {H H1 H2 : Hp} (a : Mo H H1) (b : Mo H1 H2) : Mo H H2 := fun x o i h => b x o i (a x o i h)
theorem Mo.upd {H : Hp} {p : Addr} {u o : HO} (h : H p = some u) (n : Imm u = false) : Mo H (L2.upd H p o) := fun a v i e => by
  rw [upd_ne (fun z => by rw [z, h] at e; cases e; rw [n] at i; cases i)]
  exact e
theorem Mo.fr {A : List Addr} {H H' : Hp} (f : Fr A H H') (n : ∀ a, a ∈ A → ∃ u, H a = some u ∧ Imm u = false) : Mo H H' := fun a o i h => f a o (fun m => by
  obtain ⟨u, hu, nu⟩ := n a m
  rw [hu] at h
  cases h
  rw [nu] at i
  cases i) h
theorem Mo.fr1 {p : Addr} {H H' : Hp} {u : HO} (f : Fr [p] H H') (h : H p = some u) (n : Imm u = false) : Mo H H' := Mo.fr f fun a m => by
  have e : a = p := by simpa using m
  rw [e]
  exact ⟨u, h, n⟩
theorem paired_get {α β : Type} {F : α → β → Prop} : ∀ {xs : List α} {ys : List β} {i : Nat} {y : β}, Paired F xs ys → ys[i]? = some y → ∃ x, xs[i]? = some x ∧ F x y
  | _, _, _, _, .nil, e => by simp at e
  | _, _, 0, _, .cons h _, e => by
    simp at e
    subst e
    exact ⟨_, rfl, h⟩
  | _, _, i + 1, y, .cons _ t, e => by
    obtain ⟨x, h1, h2⟩ := paired_get (i := i) (y := y) t (by simpa using e)
    exact ⟨x, by simpa using h1, h2⟩
/-! ### classes -/
structure Cl where
  name : Str
  par : Option Str
  own : List V
  all : List V
  since : Nat
def optV : Option Str → V
  | none => .non
  | some s => .str s
def findC (T : List Cl) (x : Str) : Option Cl := T.find? fun c => decide (c.name = x)
/-- a dict by the classes' names -/
def ByN (R : Cl → V → Prop) (T : List Cl) (kvs : List (Key × V)) : Prop := Paired (fun c (kv : Key × V) => kv.1 = .inr c.name ∧ R c kv.2) T kvs
theorem ByN.mono {R R' : Cl → V → Prop} {T : List Cl} {kvs : List (Key × V)} (h : ByN R T kvs) (f : ∀ c v, R c v → R' c v) : ByN R' T kvs := Paired.mapP h fun _ _ z => ⟨z.1, f _ _ z.2⟩
theorem ByN.some {R : Cl → V → Prop} {T : List Cl} {kvs : List (Key × V)} {x : Str} {c : Cl} (h : ByN R T kvs) (e : findC T x = some c) : ∃ v, valV kvs (.inr x) = some v ∧ R c v := by
  unfold ByN at h
  induction h with
  | nil => cases e
  | @cons a b as bs h t ih =>
    unfold findC at e
    rw [List.find?_cons] at e
    unfold valV
    rw [List.find?_cons]
    by_cases q : a.name = x
    · rw [decide_eq_true q] at e
      cases e
      have : decide (b.1 = Sum.inr x) = true := decide_eq_true (by rw [h.1, q])
      rw [this]
      exact ⟨_, rfl, h.2⟩
    · rw [decide_eq_false q] at e
      have : decide (b.1 = Sum.inr x) = false := decide_eq_false (by rw [h.1]; intro z; exact q (Sum.inr.inj z))
      rw [this]
      exact ih e
theorem ByN.none {R : Cl → V → Prop} {T : List Cl} {kvs : List (Key × V)} {x : Str} (h : ByN R T kvs) (e : findC T x = none) : valV kvs (.inr x) = none := by
  unfold ByN at h
  induction h with
  | nil => rfl
  | @cons a b as bs h t ih =>
    unfold findC at e
    rw [List.find?_cons] at e
    unfold valV
    rw [List.find?_cons]
    by_cases q : a.name = x
    · rw [decide_eq_true q] at e
      cases e
    · rw [decide_eq_false q] at e
      have : decide (b.1 = Sum.inr x) = false := decide_eq_false (by rw [h.1]; intro z; exact q (Sum.inr.inj z))
      rw [this]
      exact ih e
theorem ByN.isSome {R : Cl → V → Prop} {T : List Cl} {kvs : List (Key × V)} (h : ByN R T kvs) (x : Str) : (valV kvs (.inr x)).isSome = (findC T x).isSome := by
  cases e : findC T x with
  | none => rw [h.none e] <;> rfl
  | some c =>
    obtain ⟨v, hv, _⟩ := h.some e
    rw [hv] <;> rfl
/-- put a new class behind -/
theorem ByN.put {R : Cl → V → Prop} {T : List Cl} {kvs : List (Key × V)} {c : Cl} {v : V} (h : ByN R T kvs) (e : findC T c.name = Option.none) (hr : R c v) : ByN R (T ++ [c]) (putK kvs (.inr c.name) v) := by
  have n := h.none e
  unfold putK
  rw [if_neg]
  · exact pAppend h (.cons ⟨rfl, hr⟩ .nil)
  · intro z
    obtain ⟨kv, hm, hk⟩ := List.any_eq_true.mp z
    unfold valV at n
    rw [Option.map_eq_none_iff] at n
    exact List.find?_eq_none.mp n kv hm hk
theorem ByN.length {R : Cl → V → Prop} {T : List Cl} {kvs : List (Key × V)} (h : ByN R T kvs) : kvs.length = T.length := (Paired.length h).symm
theorem ByN.keys {R : Cl → V → Prop} {T : List Cl} {kvs : List (Key × V)} (h : ByN R T kvs) : kvs.map (·.1) = (T.map (·.name)).map Sum.inr := by
  unfold ByN at h
  induction h with
  | nil => rfl
  | cons h t ih => rw [List.map_cons, List.map_cons, List.map_cons, ih, h.1]
/-- a tuple, of ours or written at the top -/
def SqM (K : PySem.W.Frag) (H : Hp) (a : Addr) (xs : List V) : Prop := H a = some (.tup xs) ∨ ∃ (o : Obj) (its : Array Value) (n : Nat), K.lookup a = some o ∧ o.cls = .type "tuple" ∧ o.data = .seq its n ∧ its.size ≤ sizeLine ∧ Vals xs its.toList
theorem SqM.t {K : PySem.W.Frag} {H : Hp} {a : Addr} {xs : List V} (h : SqM K H a xs) : SqT K H a xs := by
  rcases h with h | h
  · exact SqT.of h
  · exact .inr h
theorem SqM.mo {K : PySem.W.Frag} {H H' : Hp} {a : Addr} {xs : List V} (h : SqM K H a xs) (e : Mo H H') : SqM K H' a xs := h.imp (fun z => e _ _ rfl z) id
theorem SqM.ext {K : PySem.W.Frag} {H H' : Hp} {a : Addr} {xs : List V} (h : SqM K H a xs) (e : Ext H H') : SqM K H' a xs := h.imp (fun z => e _ _ z) id
/-- a class's object: its parent, its fields (all), its world -/
def KindAt (K : PySem.W.Frag) (CK : Addr) (H : Hp) (c : Cl) (v : V) : Prop := ∃ k dx ft, v = .ref k ∧ H k = some (.ins CK dx [("parent", optV c.par), ("fields", .ref ft), ("since", .int c.since)]) ∧ SqM K H ft c.all
theorem KindAt.mo {K : PySem.W.Frag} {CK : Addr} {H H' : Hp} {c : Cl} {v : V} (h : KindAt K CK H c v) (e : Mo H H') : KindAt K CK H' c v := by
  obtain ⟨k, dx, ft, rfl, h1, h2⟩ := h
  exact ⟨k, dx, ft, rfl, e _ _ rfl h1, h2.mo e⟩
theorem KindAt.ext {K : PySem.W.Frag} {CK : Addr} {H H' : Hp} {c : Cl} {v : V} (h : KindAt K CK H c v) (e : Ext H H') : KindAt K CK H' c v := by
  obtain ⟨k, dx, ft, rfl, h1, h2⟩ := h
  exact ⟨k, dx, ft, rfl, e _ _ h1, h2.ext e⟩
/-- the runtime at r, its dict of classes at kd, its list of tables at tl: classes T, n the newest world -/
structure RtAt (K : PySem.W.Frag) (CK CR : Addr) (H : Hp) (r kd tl : Addr) (T : List Cl) (n : Nat) : Prop where
  rt : ∃ dx fs, H r = some (.ins CR dx (("kinds", .ref kd) :: ("tables", .ref tl) :: fs)) ∧ fs.lookup ("newest" : Str) = none ∧ fs.lookup ("table" : Str) = none ∧ fs.lookup ("add_world" : Str) = none
  kd : ∃ kvs, Rd H kd (.dK kvs) ∧ ByN (KindAt K CK H) T kvs
  tl : ∃ xs, H tl = some (.lst xs) ∧ xs.length = n + 1
theorem RtAt.ext {K : PySem.W.Frag} {CK CR : Addr} {H H' : Hp} {r kd tl : Addr} {T : List Cl} {n : Nat} (h : RtAt K CK CR H r kd tl T n) (e : Ext H H') : RtAt K CK CR H' r kd tl T n := by
  obtain ⟨⟨dx, fs, h1, h2⟩, ⟨kvs, h3, h4⟩, xs, h5, h6⟩ := h
  exact ⟨⟨dx, fs, e _ _ h1, h2⟩, ⟨kvs, rd_ext h3 e, h4.mono fun _ _ z => z.ext e⟩, xs, e _ _ h5, h6⟩
/-- a class and those above it -/
inductive Line (T : List Cl) : Option Str → List Str → Prop where
  | nil : Line T none []
  | cons {x : Str} {c : Cl} {l : List Str} (h : findC T x = some c) (t : Line T c.par l) : Line T (some x) (x :: l)
theorem Line.det {T : List Cl} {o : Option Str} {l l' : List Str} (a : Line T o l) (b : Line T o l') : l = l' := by
  induction a generalizing l' with
  | nil => cases b; rfl
  | cons h t ih =>
    cases b with
    | cons h2 t2 =>
      rw [h] at h2
      cases h2
      rw [ih t2]
end Wc

set_option Elab.async false
set_option linter.all false
set_option maxRecDepth 100000
set_option maxHeartbeats 4000000
/-! methods, makers, raising an own exception with its field -/
namespace Wc
open PySem PySem.Spec PyProof.Rows L2
structure MtOk (P : Program) (w : World) (K : PySem.W.Frag) (mg : Str → Option Value) (base : Heap) (CX : CXT) (k : Nat) (C : Addr) (m : Str) (ps : List Str) (sp : Sp) : Prop where
  c : Cls K C
  ex : ∃ (f : Addr) (fd : FuncData), Meth K C m f ∧ Binds K fd ps [] ∧ FnOk P w K mg base CX k f fd ps sp
structure MkOk (P : Program) (w : World) (K : PySem.W.Frag) (mg : Str → Option Value) (base : Heap) (CX : CXT) (k : Nat) (x : Str) (C : Addr) (ps : List Str) (sp : Sp) : Prop where
  g : mg x = some (.ref C)
  ex : ∃ (f : Addr) (fd : FuncData), Mk K C f ∧ Binds K fd ps [] ∧ FnOk P w K mg base CX k f fd ps sp
section
variable {X : Cx} {CX : CXT} {k j : Nat} {C : Addr} {m x : Str} {ps : List Str} {sp : Sp} {o e : Expr} {es : List Expr} {ta te : TE} {t : TA} {p apos pos : Pos}
theorem pe_methC0 {pl : Sem Bool} (Mt : MtOk X.prog X.w X.K X.mg X.base CX k C m ps sp) (hr : Room j X.A) (he : PE X o ta) (hk : k ≤ j := by decide) (hx : Passes CX X E0 := by first | exact pass0 | exact passL)
    (ht : eval (.Call (.Attribute o m apos) [] [] pos) X.env = (do
      let ov ← eval o X.env
      standAt apos.atName
      let (f, first) ← holding [ov] (getMethod ov m pl)
      callWith pos f first (backTo pos (starEach [] X.env)) (backToKw pos (keywordEach [] X.env))) := by rfl) :
    PE X (.Call (.Attribute o m apos) [] [] pos) (tMeth C m sp [] E0 ta tNil) := by
  obtain ⟨f, fd, hm, hb, F⟩ := Mt.ex
  exact pe_meth0 he Mt.c hm F (hr.mono hk) hb .nil hx ht
theorem pe_methC {pl : Sem Bool} (Mt : MtOk X.prog X.w X.K X.mg X.base CX k C m ps sp) (hr : Room j X.A) (he : PE X o ta) (ha : PA X (e :: es) t) (hk : k ≤ j := by decide) (hx : Passes CX X E0 := by first | exact pass0 | exact passL)
    (hst : starEach (e :: es) X.env = (false, eval e X.env) :: starEach es X.env := by rfl) (hpl : (backTo pos (starEach es X.env)).any (·.1) = false := by rfl)
    (ht : eval (.Call (.Attribute o m apos) (e :: es) [] pos) X.env = (do
      let ov ← eval o X.env
      standAt apos.atName
      let (f, first) ← holding [ov] (getMethod ov m pl)
      callWith pos f first (backTo pos (starEach (e :: es) X.env)) (backToKw pos (keywordEach [] X.env))) := by rfl) :
    PE X (.Call (.Attribute o m apos) (e :: es) [] pos) (tMeth C m sp [] E0 ta t) := by
  obtain ⟨f, fd, hm, hb, F⟩ := Mt.ex
  exact pe_meth he Mt.c hm F (hr.mono hk) hb .nil hx ha hst hpl ht
theorem pe_makeC0 (M : MkOk X.prog X.w X.K X.mg X.base CX k x C ps sp) (hr : Room j X.A) (hk : k + 1 ≤ j := by decide) (hx : Passes CX X E0 := by first | exact pass0 | exact passL) (hg : Gl X x := by rfl)
    (hdb : (x == ("__debug__" : Str)) = false := by decide) : PE X (.Call (.Name x p) [] [] pos) (tMake C sp [] E0 tNil) := by
  obtain ⟨f, fd, hm, hb, F⟩ := M.ex
  exact pe_make0 hm F (hr.mono hk) hg M.g hb .nil hx hdb
theorem pe_makeC (M : MkOk X.prog X.w X.K X.mg X.base CX k x C ps sp) (hr : Room j X.A) (ha : PA X (e :: es) t) (hk : k + 1 ≤ j := by decide) (hx : Passes CX X E0 := by first | exact pass0 | exact passL) (hg : Gl X x := by rfl)
    (hdb : (x == ("__debug__" : Str)) = false := by decide) (he : starEach (e :: es) X.env = (false, eval e X.env) :: starEach es X.env := by rfl) (hpl : (backTo pos (starEach es X.env)).any (·.1) = false := by rfl) :
    PE X (.Call (.Name x p) (e :: es) [] pos) (tMake C sp [] E0 t) := by
  obtain ⟨f, fd, hm, hb, F⟩ := M.ex
  exact pe_make hm F (hr.mono hk) hg M.g hb .nil hx ha hdb he hpl
/-- raise C(e) -/
def RsG (K : PySem.W.Frag) (C : Addr) (fld : Str) (v : V) (H1 : Hp) (Q : XK) : Prop := [v].length ≤ 1000 ∧ ∀ a, H1 a = none → spInit K C fld (.ref a :: ([v] ++ [])) (upd H1 a (exo a C none))
  (fun v H2 => v = .non ∧ ∃ (d : Addr) (fs : List (Str × V)), H2 a = some (exo a C (some d)) ∧ H2 d = some (exd d fs) ∧ H1 d = none ∧ Q (.ref C) (some d) (upd (del H2 a) d (.xd fs))) (fun _ _ _ => False)
theorem RsG.mk {K : PySem.W.Frag} {C : Addr} {fld : Str} {v : V} {H1 : Hp} {Q : XK} (o : OexC K C) (no : PySem.W.findIn K (.ref C) fld = some none) (q : ∀ d H', Ext H1 H' → H1 d = none → H' d = some (.xd [(fld, v)]) → Q (.ref C) (some d) H') : RsG K C fld v H1 Q := by
  refine ⟨by simp, fun a ha => ⟨a, v, rfl, upd_same, o, no, fun d hd ne => ⟨rfl, d, [(fld, v)], upd_same, ?_, ?_, ?_⟩⟩⟩
  · rw [upd_ne ne, upd_same]
  · rw [upd_ne ne] at hd
    exact hd
  · rw [upd_ne ne] at hd
    refine q d _ (fun b u hb => ?_) hd upd_same
    rw [upd_ne (ne_of_none hb hd), del_ne (ne_of_none hb ha), upd_ne (ne_of_none hb ha), upd_ne (ne_of_none hb hd), upd_ne (ne_of_none hb ha)]
    exact hb
theorem ps_raiseE {W : WX} {fld : Str} (hc : X.calm = true) (tk : Takes X W) (Er : ErrOk X.prog X.w X.K X.mg X.base x C fld) (hr : Room j X.A) (he : PE X e te)
    (hk : 2 ≤ j := by decide) (hg : Gl X x := by rfl) (hdb : (x == ("__debug__" : Str)) = false := by decide)
    (hs : starEach [e] X.env = (false, eval e X.env) :: starEach [] X.env := by rfl) {p2 : Pos} :
    PS X (.Raise (some (.Call (.Name x p) [e] [] pos)) none p2) (fun _ σ H => te σ H fun v H1 => RsG X.K C fld v H1 fun cls d H' => W cls d σ H') := by
  obtain ⟨f, fd, ps, I, b, F⟩ := Er.ex
  exact ps_raise (pos := p2) hc tk (pmk_oex (p := p) (pos := pos) Er.o I.at_ I.ty F (hr.mono hk) b .nil pass0 hg Er.g (pa_cons he pa_nil hs) hdb hs (by rfl))
theorem r_raise {W : Value → Option Addr → Hp → Prop} {K : PySem.W.Frag} {fld : Str} {σ : L2.St} {H : Hp} (h : te σ H fun v H1 => RsG K C fld v H1 W) : te σ H fun v H1 => RsG K C fld v H1 W := h
/-- f(e, ..), f may raise what this def lets out -/
theorem pe_callDX {E : XK} (Df : DfOk X.prog X.w X.K X.mg X.base CX k x ps sp) (hr : Room j X.A) (hx : Passes CX X E) (ha : PA X (e :: es) t)
    (hk : k ≤ j := by decide) (hg : Gl X x := by rfl) (hdb : (x == ("__debug__" : Str)) = false := by decide)
    (he : starEach (e :: es) X.env = (false, eval e X.env) :: starEach es X.env := by rfl) (hpl : (backTo pos (starEach es X.env)).any (·.1) = false := by rfl) :
    PE X (.Call (.Name x p) (e :: es) [] pos) (tCall sp [] E t) := by
  obtain ⟨f, fd, hm, hkp, hb, F⟩ := Df.ex
  exact pe_call F (hr.mono hk) hg hm hkp hb .nil hx ha hdb he hpl
end
end Wc

set_option Elab.async false
set_option linter.all false
set_option maxRecDepth 100000
set_option maxHeartbeats 4000000
/-! names; things of any kind -/
namespace Wc
open PySem PySem.Spec PyProof.Rows L2
def LET : Str := "abcdefghijklmnopqrstuvwxyz"
def letB (z : Str) : Bool := !(Builtin.Str.occurrences LET z 0 LET.length 1).isEmpty
def nameS (s : Str) : Bool := decide (1 ≤ (s.length : Int)) && (decide ((s.length : Int) ≤ 8) && (s.cps.toList.map fun c => letB ⟨#[c]⟩).all id)
def nameV : V → Bool
  | .str s => nameS s
  | _ => false
def isS : V → Bool
  | .str _ => true
  | _ => false
/-- a thing of any kind: whether it is a text; whether a tuple, and of what -/
structure Th (K : PySem.W.Frag) (H : Hp) (x : V) (tp : Option (List V)) : Prop where
  ty : ∃ t, TyX K H x t ∧ PySem.W.kitOne K t (.type "str") = some (isS x) ∧ PySem.W.kitOne K t (.type "tuple") = some tp.isSome
  tup : ∀ xs, tp = some xs → ∃ a, x = .ref a ∧ SqM K H a xs
  len : ∀ s, x = .str s → s.length ≤ 1000
  fl : flatV x = true ∨ ∃ a, x = .ref a
section
variable {K : PySem.W.Frag} {H : Hp}
theorem Th.str {s : Str} (h : s.length ≤ 1000) : Th K H (.str s) none := ⟨⟨_, .base (.str s), kit_ty (show kitB "str" "str" = some true by decide +kernel), kit_ty (show kitB "str" "tuple" = some false by decide +kernel)⟩, fun _ z => (by cases z), fun z e => (by cases e; exact h), .inl rfl⟩
theorem Th.non : Th K H .non none := ⟨⟨_, .base .non, kit_ty (show kitB "NoneType" "str" = some false by decide +kernel), kit_ty (show kitB "NoneType" "tuple" = some false by decide +kernel)⟩, fun _ z => (by cases z), fun z e => (by cases e), .inl rfl⟩
theorem Th.int {i : Int} : Th K H (.int i) none := ⟨⟨_, .base (.int i), kit_ty (show kitB "int" "str" = some false by decide +kernel), kit_ty (show kitB "int" "tuple" = some false by decide +kernel)⟩, fun _ z => (by cases z), fun z e => (by cases e), .inl rfl⟩
theorem Th.bl {b : Bool} : Th K H (.bl b) none := ⟨⟨_, .base (.bl b), kit_ty (show kitB "bool" "str" = some false by decide +kernel), kit_ty (show kitB "bool" "tuple" = some false by decide +kernel)⟩, fun _ z => (by cases z), fun z e => (by cases e), .inl rfl⟩
theorem Th.tupl {a : Addr} {xs : List V} (h : H a = some (.tup xs)) : Th K H (.ref a) (some xs) := ⟨⟨_, .base (.tup h), kit_ty (show kitB "tuple" "str" = some false by decide +kernel), kit_ty (show kitB "tuple" "tuple" = some true by decide +kernel)⟩, fun ys z => by cases z; exact ⟨a, rfl, .inl h⟩, fun z e => (by cases e), .inr ⟨_, rfl⟩⟩
theorem Th.lst {a : Addr} {xs : List V} (h : H a = some (.lst xs)) : Th K H (.ref a) none := ⟨⟨_, .base (.lst h), kit_ty (show kitB "list" "str" = some false by decide +kernel), kit_ty (show kitB "list" "tuple" = some false by decide +kernel)⟩, fun _ z => (by cases z), fun z e => (by cases e), .inr ⟨_, rfl⟩⟩
theorem Th.dct {a : Addr} {kvs : List (Key × V)} (h : H a = some (.dK kvs)) : Th K H (.ref a) none := ⟨⟨_, .base (.dK h), kit_ty (show kitB "dict" "str" = some false by decide +kernel), kit_ty (show kitB "dict" "tuple" = some false by decide +kernel)⟩, fun _ z => (by cases z), fun z e => (by cases e), .inr ⟨_, rfl⟩⟩
theorem Th.isS {x : V} {tp : Option (List V)} (t : Th K H x tp) (h : Wc.isS x = true) : ∃ s, x = .str s ∧ s.length ≤ 1000 := by
  cases x <;> first | (cases h; done) | exact ⟨_, rfl, t.len _ rfl⟩
end
theorem nameV_of {x : V} (h : isS x = false) : nameV x = false := by
  cases x <;> first | rfl | cases h
theorem r_isi {K : PySem.W.Frag} {H : Hp} {Q : VK} {x c : V} {t u : Value} {b : Bool} (hc : ClsV c u) (ht : TyX K H x t) (e : PySem.W.kitOne K t u = some b) (q : Q (.bl b) H) : rIsi K [x, c] H Q := ⟨x, c, t, u, b, rfl, hc, ht, e, q⟩
theorem strs_fm (z : Str) {g : _ → V} : (List.range z.cps.size).filterMap (fun i => z.cps[i]?.map g) = z.cps.toList.map g := by
  have e := range_fm z.cps.toList (fun c => some (g c))
  rw [List.filterMap_eq_map'] at e
  rw [← e] 
  simp [Option.map_eq_bind]
  rfl
theorem un1 {A : Around} {k : Nat} (r : Room k A) : A.units + 1 < cLine := by
  have := r.un
  omega
theorem un64 {A : Around} {k : Nat} (r : Room k A) : A.units + 64 < cLine := by
  have := r.un
  omega
def clsV (T : List Cl) : V → Bool
  | .str s => nameS s && (findC T s).isSome
  | _ => false
theorem clsV_of {T : List Cl} {x : V} (h : nameV x = false) : clsV T x = false := by
  cases x <;> first | rfl | (show (nameS _ && _) = false; have h : nameS _ = false := h; rw [h]; rfl)
/-- while, by so many turns at most -/
def WhG (c : TT) (tb : TS) (D : Ends) (σ : L2.St) (H : Hp) : Prop := ∃ W : Nat → L2.St → Hp → Prop, (∃ m, W m σ H) ∧ ∀ m σ H, W m σ H →
  c σ H fun b H1 => if b = true then ∃ N : L2.St → Hp → Prop, (∀ σ' H', N σ' H' → ∃ m', m' < m ∧ W m' σ' H') ∧ tb { D with nx := N, ct := N, bk := D.nx } σ H1 else D.nx σ H1
theorem r_while {c : TT} {tb : TS} {D : Ends} {σ : L2.St} {H : Hp} (h : WhG c tb D σ H) : tWhile c tb D σ H := h
theorem WhG.mk {c : TT} {tb : TS} {D : Ends} {σ : L2.St} {H : Hp} (Pv : Nat → L2.St → Hp → Prop) (m : Nat) (h0 : Pv m σ H)
    (hs : ∀ m σ H, Pv m σ H → c σ H fun b H1 => if b = true then ∃ N : L2.St → Hp → Prop, (∀ σ' H', N σ' H' → ∃ m', m' < m ∧ Pv m' σ' H') ∧ tb { D with nx := N, ct := N, bk := D.nx } σ H1 else D.nx σ H1) : WhG c tb D σ H := ⟨Pv, ⟨m, h0⟩, hs⟩
theorem whN {Pv : Nat → L2.St → Hp → Prop} {tb : TS} {D : Ends} {σ : L2.St} {H : Hp} {n : Nat} (h : tb { D with nx := Pv n, ct := Pv n, bk := D.nx } σ H) :
    ∃ N : L2.St → Hp → Prop, (∀ σ' H', N σ' H' → ∃ m', m' < n + 1 ∧ Pv m' σ' H') ∧ tb { D with nx := N, ct := N, bk := D.nx } σ H := ⟨Pv n, fun _ _ z => ⟨n, Nat.lt_succ_self n, z⟩, h⟩
theorem optV_non (o : Option Str) : decide (optV o = .non) = o.isNone := by
  cases o <;> rfl
theorem r_disp {trs : List (TE × TE)} {σ : L2.St} {H : Hp} {Q : VK} {H0 : Hp} {M : List Addr} {L : List (Addr × HO)} (k : KH H0 M L H) (h : ∀ p H', H0 p = none → KH H0 M ((p, .dK []) :: L) H' → tPairs trs σ H' fun ps H2 => H2 p = some (.dK []) ∧ ∃ kvs : List (Key × V), ps = kvs.map (fun kv => (kV kv.1, kv.2)) ∧ kvs.length ≤ 15 ∧ Q (.ref p) (upd H2 p (.dK (mergeK [] kvs)))) : tDisp trs σ H Q :=
  fun p hp => h p _ (k.fresh hp) (k.new hp)
theorem r_pnil {σ : L2.St} {H : Hp} {Q : List (V × V) → Hp → Prop} (h : Q [] H) : tPairs [] σ H Q := h
theorem r_pcons {tk tv : TE} {r : List (TE × TE)} {σ : L2.St} {H : Hp} {Q : List (V × V) → Hp → Prop} (h : tk σ H fun x H1 => tv σ H1 fun y H2 => tPairs r σ H2 fun ps H3 => Q ((x, y) :: ps) H3) : tPairs ((tk, tv) :: r) σ H Q := h
theorem r_dispE {p : Addr} {ps : List (V × V)} {H : Hp} {R : List (Key × V) → Prop} (kvs : List (Key × V)) (h : H p = some (.dK [])) (e : ps = kvs.map (fun kv => (kV kv.1, kv.2))) (hl : kvs.length ≤ 15) (q : R kvs) :
    H p = some (.dK []) ∧ ∃ kvs : List (Key × V), ps = kvs.map (fun kv => (kV kv.1, kv.2)) ∧ kvs.length ≤ 15 ∧ R kvs := ⟨h, kvs, e, hl, q⟩
/-- the runtime, to be changed -/
structure RtW (K : PySem.W.Frag) (CK CR : Addr) (H : Hp) (r kd tl : Addr) (T : List Cl) (n : Nat) : Prop where
  at_ : RtAt K CK CR H r kd tl T n
  kd : ∃ kvs, H kd = some (.dK kvs)
/-- so it ends: C(v) is raised, its field fld -/
def ExTo (E : XK) (H : Hp) (C : Addr) (fld : Str) (v : V) : Prop := ∀ d H', Ext H H' → H d = none → H' d = some (.xd [(fld, v)]) → E (.ref C) (some d) H'
theorem ExTo.ext {E : XK} {H H1 : Hp} {C : Addr} {fld : Str} {v : V} (h : ExTo E H C fld v) (e : Ext H H1) : ExTo E H1 C fld v := fun d H' e2 hd hx => h d H' (e.trans e2) (e.free hd) hx
theorem cps_at {z : Str} {c : _} {i : Nat} (h : z.cps[i]? = some c) : z.cps.toList[i]? = some c := by simpa using h
theorem all_map_id (l : List V) (bs : List Bool) (h : l = bs.map V.bl) : l = bs.map V.bl := h
end Wc

set_option Elab.async false
set_option linter.all false
set_option maxRecDepth 100000
set_option maxHeartbeats 4000000
/-! try with many clauses, some of which name the exception -/
namespace Wc
open PySem PySem.Spec PyProof.Rows L2
abbrev SuT : Type := Addr → Value → Option Addr → TS
/-- the ends of a named clause: the name is gone behind it -/
def gone (D : Ends) (i : Nat) : Ends := { nx := fun z h => D.nx (z.set i none) h, rt := D.rt, bk := fun z h => D.bk (z.set i none) h, ct := fun z h => D.ct (z.set i none) h }
/-- one clause takes it -/
def clauseT (D : Ends) (oi : Option Nat) (ts : SuT) (cls : Value) (d : Option Addr) (z : L2.St) (h : Hp) : Prop := match oi with
  | none => ∀ a, h a = none → ts a cls d D z h
  | some i => ∀ a, h a = none → ts a cls d (gone D i) (z.set i (some (.ref a))) h
def wAll (K : PySem.W.Frag) (Wo : WX) (D : Ends) : List (Value × Option Nat × SuT) → WX
  | [] => Wo
  | q :: r => fun cls d z h => ∃ b, PySem.W.exmOne K cls q.1 = some b ∧ (b = true → clauseT D q.2.1 q.2.2 cls d z h) ∧ (b = false → wAll K Wo D r cls d z h)
/-- a suite that reads ts, whatever exception object stands there -/
abbrev SuOk (X : Cx) (l : List Stmt) (ts : SuT) : Prop := ∀ (a : Addr) (oe : Obj) (cls : Value) (d : Option Addr) (pn : List (Addr × Obj)), Zc cls d oe → (∃ vs, oe.data = .fields vs) → PSs (X.suite a ((a, oe) :: pn)) l (ts a cls d)
inductive ClOk (X : Cx) : List ExceptHandler → List (Value × Option Nat × SuT) → Prop
  | nil : ClOk X [] []
  | plain {x : Str} {c : Value} {ts : SuT} {b : Stmt} {su : List Stmt} {p1 p2 : Pos} {hds : List ExceptHandler} {l : List (Value × Option Nat × SuT)} (n : Names X x c) (s : SuOk X (b :: su) ts) (r : ClOk X hds l) :
      ClOk X (.ExceptHandler (some (.Name x p1)) none (b :: su) p2 :: hds) ((c, none, ts) :: l)
  | named {x y : Str} {i : Nat} {c : Value} {ts : SuT} {b : Stmt} {su : List Stmt} {p1 p2 : Pos} {hds : List ExceptHandler} {l : List (Value × Option Nat × SuT)} (hi : X.N[i]? = some y) (hl : X.env.kindOf y = some .local) (n : Names X x c) (s : SuOk X (b :: su) ts) (r : ClOk X hds l) :
      ClOk X (.ExceptHandler (some (.Name x p1)) (some y) (b :: su) p2 :: hds) ((c, some i, ts) :: l)
section
variable {X : Cx}
/-- the flow behind a suite -/
theorem sp_same {ok : X.Ok} {pins : List (Addr × Obj)} {D : Ends} {a : Addr} {pn : List (Addr × Obj)} {f : Flow} {s : Shared} (h : SP (X.suite a pn) [] D f s) (k : ∀ {z : L2.St} {H : Hp}, Inv (X.suite a pn) [] z H s → Inv X pins z H s) : SP X pins D f s := by
  cases f with
  | next => obtain ⟨z, H, I, q⟩ := h; exact ⟨z, H, k I, q⟩
  | brk => obtain ⟨z, H, I, q⟩ := h; exact ⟨z, H, k I, q⟩
  | cont => obtain ⟨z, H, I, q⟩ := h; exact ⟨z, H, k I, q⟩
  | ret u => obtain ⟨v, z, H, I, r, q⟩ := h; exact ⟨v, z, H, k I, r, q⟩
variable {body : List Stmt} {h0 : ExceptHandler} {hds : List ExceptHandler} {l : List (Value × Option Nat × SuT)} {pos : Pos} {tb : WX → TS} {Wo : WX}
theorem ps_tryA (hs : X.stack = X.env :: X.outer) (hf : X.env.frame = some X.env.locals) (nd : X.N.Nodup) (tk : Takes X Wo)
    (hb : ∀ (W : WX) (pn : List (Addr × Obj)) (xe : Value → Shared → Prop), Takes (X.tr pn xe) W → PassesOwn (model X.prog X.w) X.A X.env xe → PSs (X.tr pn xe) body (tb W))
    (cl : ClOk X (h0 :: hds) l) : PS X (.Try body (h0 :: hds) [] [] pos) (fun D z h => tb (wAll X.K Wo D l) D z h) := by
  refine ⟨fun pins s0 z0 H0 D I0 start => ?_⟩
  have okX := I0.ok
  have frames : X.A.frames = some (X.env :: X.outer) := okX.frames.trans (by rw [hs])
  refine wpAny_Try_except (wpAny_mono ((hb (wAll X.K Wo D l) (X.pn ++ pins) (fun e s1 => wpAny (model X.prog X.w) X.A (noteFrame e X.env) (fun _ s2 => wpAny (model X.prog X.w) X.A (setFlight e none)
    (fun _ s3 => wpAny (model X.prog X.w) X.A (handleBy e X.env (h0 :: hds)) (SP X pins D) X.xe s3) X.xe s2) X.xe s1) (fun u s1 caught => ?_) PassesOwn.looking).run [] s0 z0 H0 D (I0.toTry _) start) (fun f s1 sp => ?_) fun _ _ z => z)
  · obtain ⟨a, B, sI, pi, z, H, cls, d, rfl, JT, nb, up, sky, na, os, ag, wish⟩ := caught
    have J := JT.ofTry okX
    rw [hs] at sky
    show wpAny (model X.prog X.w) X.A (noteFrame (.ref a) X.env) _ _ _
    refine Sky.land Zc.steady frames hf sky fun g fl upg => ?_
    have upT := up.trans upg
    have JL : Inv X pins z H { s1 with heap := g } := J.landed nb fl.1 upT os ag
    obtain ⟨og, vg, eg, zg, dg⟩ := fl.there
    have off : a ∉ frs (X.env :: X.outer) := fun m => by
      obtain ⟨_, o2, e2, no2⟩ := fl.2.2.1.mem m
      rw [eg] at e2
      cases e2
      exact no2 _ dg
    have offL : a ≠ X.env.locals := fun e => off (List.mem_filterMap.mpr ⟨X.env, by simp, by rw [hf, e]⟩)
    have offF : a ∉ X.fs := fun m => by
      obtain ⟨env, me, q⟩ := List.mem_filterMap.mp m
      exact off (List.mem_filterMap.mpr ⟨env, by simp [me], q⟩)
    have looks : ∀ {c : Value} {b : Bool}, PySem.W.exmOne X.K cls c = some b → _ := fun {c b} e => PySem.W.exm_one (M := model X.prog X.w) JL.kIn (fun A Q E s k q => wpAny_typeOf_ref (k _ _ eg) (by rw [zg.1]; exact q) : PySem.W.Looks (model X.prog X.w) g (typeOf (.ref a)) cls) e
    have SL := JL.suite eg dg na offL offF
    have test : ∀ {x : Str} {c : Value} {np : Pos} {Q : Value → Shared → Prop} {E : Value → Shared → Prop}, Names X x c → Q c { s1 with heap := g } → wpAny (model X.prog X.w) (X.A.mark (some (.ref a))) (eval (.Name x np) X.env) Q E { s1 with heap := g } := fun {x c np Q E} nm q => by
      obtain ⟨g1, g2, m1 | ⟨m1, m2, m3⟩⟩ := nm
      · exact ld_glob (X := X.suite a ((a, og) :: (X.pn ++ pins))) SL g1 m1 q g2
      · exact ld_blt (X := X.suite a ((a, og) :: (X.pn ++ pins))) SL g1 m1 m2 q m3 g2
    have go : ∀ {hd : List ExceptHandler} {cs : List (Value × Option Nat × SuT)}, ClOk X hd cs → wAll X.K Wo D cs cls d z H → wpAny (model X.prog X.w) X.A (handleBy (.ref a) X.env hd) (SP X pins D) X.xe { s1 with heap := g } := by
      intro hd cs ck
      induction ck with
      | nil =>
        intro out
        refine wpAny_handleBy_nil ?_
        obtain ⟨_, _, _, ob, vs, tb0, otb, tz, eo, _, dv, hv, _⟩ := id fl
        unfold PySem.passOn
        refine wpAny_bind (wpAny_field eo dv hv ?_)
        rw [if_neg (show ¬ ((Value.ref tb0 == Value.none) = true) by simp)]
        have up2 : wpAny (model X.prog X.w) X.A (setFlight (.ref a) X.env.frame) (fun _ sz => wpAny (model X.prog X.w) X.A (throw (.ref a) : Sem Flow) (SP X pins D) X.xe sz) X.xe { s1 with heap := g } := by
          rw [hf]
          exact HandSPX.setFlight_upZ fl fun k hk upk => wpAny_throw (tk _ _ ⟨a, B, sI, pins, z, H, cls, d, rfl, J, nb, upT.trans upk, .inr (.inr (by rw [hs]; exact hk)), na, os, ag, out⟩)
        first
          | exact wpAny_bind (wpAny_pure (wpAny_bind up2))
          | exact wpAny_bind up2
      | @plain x c ts b su p1 p2 hds' l' nm so _ ih =>
        rintro ⟨bb, e1, yes, no⟩
        refine wpAny_handleBy_cons (codeAny_handlers_test (test nm ((looks e1).here ?_))) (fun q => by cases q)
        cases bb with
        | false => exact ih (no rfl)
        | true =>
          refine codeAny_handlers_suite (HandSPX.lands_againZ fl fun k fk upk => ?_)
          have JK : Inv X pins z H { s1 with heap := k } := J.landed nb fk.1 (upT.trans upk) os ag
          obtain ⟨ok', vk, ek, zk, dk⟩ := fk.there
          exact wpAny_mono ((so a ok' cls d (X.pn ++ pins) zk ⟨_, dk⟩).run [] _ _ H D (JK.suite ek dk na offL offF) (yes rfl a na)) (fun f s2 q => sp_same (ok := okX) q fun I2 => I2.unsuite okX) fun _ _ w => w.elim
      | @named x y i c ts b su p1 p2 hds' l' hi hl nm so _ ih =>
        rintro ⟨bb, e1, yes, no⟩
        refine wpAny_handleBy_cons (codeAny_handlers_test (test nm ((looks e1).here ?_))) (fun q => by cases q)
        cases bb with
        | false => exact ih (no rfl)
        | true =>
          refine codeAny_handlers_suite_as (HandSPX.lands_againZ fl fun k fk upk => ?_)
          have JK : Inv X pins z H { s1 with heap := k } := J.landed nb fk.1 (upT.trans upk) os ag
          obtain ⟨ok', vk, ek, zk, dk⟩ := fk.there
          refine store_ok (X := X.suite a ((a, ok') :: (X.pn ++ pins))) (v := .ref a) (JK.suite ek dk na offL offF) nd hi (.inl hl) rfl (fun s2 S2 => ?_) (.inr hl)
          refine wpAny_mono ((so a ok' cls d (X.pn ++ pins) zk ⟨_, dk⟩).run [] s2 _ H (gone D i) S2 (yes rfl a na)) (fun f s3 q => ?_) fun _ _ w => w.elim
          have fin : ∀ {z3 : L2.St} {H3 : Hp} {Q : Shared → Prop}, Inv (X.suite a ((a, ok') :: (X.pn ++ pins))) [] z3 H3 s3 → (∀ s4, Inv X pins (z3.set i none) H3 s4 → Q s4) →
              wpAny (model X.prog X.w) X.A (do bindName X.env y .none; unbindBehindTheSuite X.env y p2) (fun _ s4 => Q s4) X.xe s3 := fun I3 hq => gone_ok (I3.unsuite okX) nd hi hl hq
          cases f with
          | next => obtain ⟨z3, H3, I3, q3⟩ := q; exact fin I3 fun _ J4 => ⟨_, _, J4, q3⟩
          | brk => obtain ⟨z3, H3, I3, q3⟩ := q; exact fin I3 fun _ J4 => ⟨_, _, J4, q3⟩
          | cont => obtain ⟨z3, H3, I3, q3⟩ := q; exact fin I3 fun _ J4 => ⟨_, _, J4, q3⟩
          | ret u => obtain ⟨v3, z3, H3, I3, r3, q3⟩ := q; exact fin I3 fun _ J4 => ⟨_, _, _, J4, r3, q3⟩
    exact go cl wish
  · cases f with
    | next => obtain ⟨z, H, J, q⟩ := sp; exact wpAny_execs_nil ⟨z, H, J.ofTry okX, q⟩
    | brk => obtain ⟨z, H, J, q⟩ := sp; exact ⟨z, H, J.ofTry okX, q⟩
    | cont => obtain ⟨z, H, J, q⟩ := sp; exact ⟨z, H, J.ofTry okX, q⟩
    | ret u => obtain ⟨v, z, H, J, r, q⟩ := sp; exact ⟨v, z, H, J.ofTry okX, r, q⟩
end
/-- a def with defaults, called without them -/
structure DfOkD (P : Program) (w : World) (K : PySem.W.Frag) (mg : Str → Option Value) (base : Heap) (CX : CXT) (k : Nat) (x : Str) (ps : List Str) (dvs : List V) (sp : Sp) : Prop where
  ex : ∃ (f : Addr) (fd : FuncData) (ds : List Value), mg x = some (.ref f) ∧ PySem.W.keepIn K (.ref f) = true ∧ Vals dvs ds ∧ Binds K fd ps ds ∧ FnOk P w K mg base CX k f fd ps sp
theorem pe_callDf {X : Cx} {CX : CXT} {k j : Nat} {x : Str} {ps : List Str} {dvs : List V} {sp : Sp} {p pos : Pos} {e : Expr} {es : List Expr} {t : TA} (Df : DfOkD X.prog X.w X.K X.mg X.base CX k x ps dvs sp) (hr : Room j X.A) (ha : PA X (e :: es) t)
    (hk : k ≤ j := by decide) (hx : Passes CX X E0 := by first | exact pass0 | exact passL) (hg : Gl X x := by rfl) (hdb : (x == ("__debug__" : Str)) = false := by decide)
    (he : starEach (e :: es) X.env = (false, eval e X.env) :: starEach es X.env := by rfl) (hpl : (backTo pos (starEach es X.env)).any (·.1) = false := by rfl) :
    PE X (.Call (.Name x p) (e :: es) [] pos) (tCall sp dvs E0 t) := by
  obtain ⟨f, fd, ds, hm, hkp, hv, hb, F⟩ := Df.ex
  exact pe_call F (hr.mono hk) hg hm hkp hb hv hx ha hdb he hpl
/-- a for over any walk -/
def ForJ (J : It) (g : TG) (tb : TS) (D : Ends) (σ : L2.St) (H : Hp) : Prop := ∃ W : Nat → Nat → L2.St → Hp → Prop, (∃ m, W 0 m σ H) ∧ ∀ i m σ H, W i m σ H →
  (J.stop i H ∧ D.nx σ H) ∨ (J.go i H ∧ ∃ N : L2.St → Hp → Prop, (∀ σ' H', N σ' H' → ∃ m', m' < m ∧ W (i + 1) m' σ' H') ∧ ∀ x H', J.yld i H x H' → g x σ H' fun σ2 H2 => tb { D with nx := N, ct := N, bk := D.nx } σ2 H2)
theorem ForJ.mk {J : It} {n : Nat} {G : Hp → Prop} {Y : Nat → Hp → V → Hp → Prop} {g : TG} {tb : TS} {D : Ends} {σ : L2.St} {H : Hp} (w : Walk J n G Y) (Pv : Nat → L2.St → Hp → Prop) (h0 : Pv 0 σ H) (hG : ∀ i σ H, i ≤ n → Pv i σ H → G H)
    (hs : ∀ i x σ H H', i < n → Pv i σ H → Y i H x H' → g x σ H' fun σ2 H2 => tb { D with nx := Pv (i + 1), ct := Pv (i + 1), bk := D.nx } σ2 H2) (hd : ∀ σ H, Pv n σ H → D.nx σ H) : ForJ J g tb D σ H := for_it w Pv h0 hG hs hd
theorem r_forK {td : TE} {g : TG} {tb : TS} {D : Ends} {σ : L2.St} {H : Hp} (h : td σ H fun x H1 => ∃ d o, x = .ref d ∧ ((∃ kvs, H1 d = some (.frz o (.dK kvs)) ∧ ForJ (Itk d o kvs) g tb D σ H1) ∨ ∃ kvs, H1 d = some (.frz o (.dT kvs)) ∧ ForJ (Itkt d o kvs) g tb D σ H1)) : tFor (iKeys td) g tb D σ H := h
theorem r_lock {t : TS} {D : Ends} {σ : L2.St} {H : Hp} {d : Addr} {u : HO} (h : H d = some u) (m : Mut (some u)) (q : ∀ od, t ⟨fun σ' H' => H' d = some (.frz od u) ∧ D.nx σ' (upd H' d u), fun v H' => H' d = some (.frz od u) ∧ D.rt v (upd H' d u), fun σ' H' => H' d = some (.frz od u) ∧ D.bk σ' (upd H' d u), fun σ' H' => H' d = some (.frz od u) ∧ D.ct σ' (upd H' d u)⟩ σ (upd H d (.frz od u))) : tLock t D σ H := ⟨d, u, h, m, q⟩
theorem r_clear {l : Addr} {xs : List V} {H : Hp} {Q : VK} (h : H l = some (.lst xs)) (q : UpdO l (.lst []) (Q .non) H) : rClear (.ref l) [] H Q := ⟨l, xs, rfl, rfl, h, q⟩
theorem ne_data {K : PySem.W.Frag} {H : Hp} {x y : V} {d : PyData} {Q : VK} (h1 : Dp K H x d) (h2 : Dp K H y d) (hs : SeqAt.shaped d = true) (q : Q (.bl false) H) : rNeD K x y H Q := ne_same h1 h2 hs q
theorem strs_dp {K : PySem.W.Frag} {H : Hp} : ∀ l : List Str, DpAll K H (l.map V.str) (l.map PyData.str)
  | [] => .nil
  | x :: l => .cons (.str x) (strs_dp l)
theorem strs_lay : ∀ {l : List Str}, (∀ x, x ∈ l → PyData.strOk x = true) → PyData.canLayAll0 (l.map PyData.str) = true ∧ PyData.depthAll (l.map PyData.str) = 0
  | [], _ => ⟨rfl, rfl⟩
  | x :: l, h => by
    obtain ⟨h1, h2⟩ := strs_lay (l := l) fun u hu => h u (by simp [hu])
    refine ⟨?_, ?_⟩
    · show (PyData.canLay0 (.str x) && PyData.canLayAll0 (l.map PyData.str)) = true
      rw [h1, show PyData.canLay0 (.str x) = true by simpa [PyData.canLay0] using h x (by simp)] <;> rfl
    · show max (PyData.depth (.str x)) (PyData.depthAll (l.map PyData.str)) = 0
      rw [h2] <;> rfl
theorem strs_shaped {l : List Str} (h : ∀ x, x ∈ l → PyData.strOk x = true) : SeqAt.shaped (.list (l.map PyData.str)) = true := by
  obtain ⟨h1, h2⟩ := strs_lay h
  show (PyData.canLay0 (.list (l.map PyData.str)) && decide (PyData.depth (.list (l.map PyData.str)) ≤ 64)) = true
  rw [show PyData.canLay0 (.list (l.map PyData.str)) = true by simpa [PyData.canLay0] using h1, show PyData.depth (.list (l.map PyData.str)) = 1 by show PyData.depthAll (l.map PyData.str) + 1 = 1; rw [h2]]
  rfl
/-- what stands besides some lists and dicts -/
theorem RtW.fr {K : PySem.W.Frag} {CK CR : Addr} {A : List Addr} {H H' : Hp} {r kd tl : Addr} {T : List Cl} {n : Nat} (R : RtW K CK CR H r kd tl T n) (f : Fr A H H') (m : Mo H H') (h1 : kd ∉ A) (h2 : tl ∉ A) : RtW K CK CR H' r kd tl T n := by
  obtain ⟨⟨⟨dx, fs, a1, a2⟩, ⟨kvs, b1, b2⟩, xs, c1, c2⟩, kv0, d0⟩ := R
  refine ⟨⟨⟨dx, fs, m _ _ rfl a1, a2⟩, ⟨kvs, ?_, b2.mono fun _ _ z => z.mo m⟩, xs, f _ _ h2 c1, c2⟩, kv0, f _ _ h1 d0⟩
  rcases b1 with b | ⟨o, b⟩
  · exact .inl (f _ _ h1 b)
  · exact .inr ⟨o, f _ _ h1 b⟩
theorem r_revL {K : PySem.W.Frag} {te : TE} {σ : L2.St} {H : Hp} {Q : VK} (h : te σ H fun x H1 => ∃ a xs, x = .ref a ∧ SqL K H1 a xs ∧ AllocO (.lst xs.reverse) Q H1) : tRevL K te σ H Q := h
end Wc

set_option Elab.async false
set_option linter.all false
set_option maxRecDepth 100000
set_option maxHeartbeats 4000000
/-! the tree of classes, in plain Lean -/
namespace Wc
open PySem PySem.Spec PyProof.Rows L2
def okNames : List Str := ["any", "int", "a", "b", "cat", "dog", "edge", "eightabc", "g"]
theorem okNames_ok : ∀ z, z ∈ okNames → nameS z = true ∧ z.length ≤ 8 := by decide +kernel
structure WF (T : List Cl) (n : Nat) : Prop where
  nd : (T.map (·.name)).Nodup
  nm : ∀ c, c ∈ T → c.name ∈ okNames
  tl : T.length = n + 2
  ok : ∀ c, c ∈ T → (c.par = none ∧ c.all = c.own) ∨ ∃ p c', c.par = some p ∧ findC T p = some c' ∧ c.all = c'.all ++ c.own
  ln : ∀ c, c ∈ T → ∃ l, Line T (some c.name) l ∧ l.length ≤ T.length
  since : ∀ c, c ∈ T → c.since ≤ n
  al : ∀ c, c ∈ T → c.all.length ≤ 3 * T.length
  int : ∃ c, findC T "int" = some c
  any : ∃ c, findC T "any" = some c
theorem find_mem {T : List Cl} {x : Str} {c : Cl} (h : findC T x = some c) : c ∈ T ∧ c.name = x :=
  ⟨List.mem_of_find?_eq_some h, by simpa using List.find?_some h⟩
theorem find_of {T : List Cl} {c : Cl} (nd : (T.map (·.name)).Nodup) (h : c ∈ T) : findC T c.name = some c := by
  induction T with
  | nil => cases h
  | cons d T ih =>
    rw [List.map_cons, List.nodup_cons] at nd
    unfold findC
    rw [List.find?_cons]
    rcases List.mem_cons.mp h with e | h
    · rw [e, decide_eq_true rfl]
    · have ne : d.name ≠ c.name := fun z => nd.1 (by rw [z]; exact List.mem_map_of_mem h)
      rw [decide_eq_false ne]
      exact ih nd.2 h
theorem find_app {T : List Cl} {x : Str} {c d : Cl} (h : findC T x = some c) : findC (T ++ [d]) x = some c := by
  unfold findC
  rw [List.find?_append, show T.find? (fun c => decide (c.name = x)) = some c from h]
  rfl
theorem find_new {T : List Cl} {d : Cl} (h : findC T d.name = none) : findC (T ++ [d]) d.name = some d := by
  unfold findC
  rw [List.find?_append, show T.find? (fun c => decide (c.name = d.name)) = none from h]
  simp
theorem Line.app {T : List Cl} {o : Option Str} {l : List Str} {d : Cl} (h : Line T o l) : Line (T ++ [d]) o l := by
  induction h with
  | nil => exact .nil
  | cons h t ih => exact .cons (find_app h) ih
theorem WF.find {T : List Cl} {n : Nat} (w : WF T n) {c : Cl} (h : c ∈ T) : findC T c.name = some c := find_of w.nd h
theorem WF.add {T : List Cl} {n : Nat} (w : WF T n) {z p : Str} {c : Cl} {xs : List V} (hz : findC T z = none) (ho : z ∈ okNames) (hp : findC T p = some c) (hx : xs.length ≤ 3) :
    WF (T ++ [⟨z, some p, xs, c.all ++ xs, n + 1⟩]) (n + 1) := by
  have cT := (find_mem hp).1
  have old : ∀ d, d ∈ T ++ [(⟨z, some p, xs, c.all ++ xs, n + 1⟩ : Cl)] → d ∈ T ∨ d = ⟨z, some p, xs, c.all ++ xs, n + 1⟩ := fun d h => by simpa using h
  have zn : z ∉ T.map (·.name) := fun m => by
    obtain ⟨d, hd, e⟩ := List.mem_map.mp m
    have := w.find hd
    rw [e, hz] at this
    cases this
  refine ⟨?_, fun d h => ?_, by rw [List.length_append, w.tl]; rfl, fun d h => ?_, fun d h => ?_, fun d h => ?_, fun d h => ?_, ?_, ?_⟩
  · rw [List.map_append, List.nodup_append]
    refine ⟨w.nd, by simp, fun a ha b hb e => ?_⟩
    simp at hb
    rw [e, hb] at ha
    exact zn ha
  · rcases old d h with h | rfl
    · exact w.nm d h
    · exact ho
  · rcases old d h with h | rfl
    · rcases w.ok d h with h | ⟨q, c', h1, h2, h3⟩
      · exact .inl h
      · exact .inr ⟨q, c', h1, find_app h2, h3⟩
    · exact .inr ⟨p, c, rfl, find_app hp, rfl⟩
  · rcases old d h with h | rfl
    · obtain ⟨l, h1, h2⟩ := w.ln d h
      exact ⟨l, h1.app, by rw [List.length_append]; omega⟩
    · obtain ⟨l, h1, h2⟩ := w.ln c cT
      rw [(find_mem hp).2] at h1
      exact ⟨z :: l, .cons (find_new (d := ⟨z, some p, xs, c.all ++ xs, n + 1⟩) hz) h1.app, by rw [List.length_append, List.length_cons]; show l.length + 1 ≤ T.length + 1; omega⟩
  · rcases old d h with h | rfl
    · have := w.since d h
      omega
    · exact Nat.le_refl _
  · rcases old d h with h | rfl
    · have := w.al d h
      rw [List.length_append]
      omega
    · have := w.al c cT
      show (c.all ++ xs).length ≤ _
      rw [List.length_append, List.length_append]
      show c.all.length + xs.length ≤ 3 * (T.length + 1)
      omega
  · obtain ⟨d, h⟩ := w.int
    exact ⟨d, find_app h⟩
  · obtain ⟨d, h⟩ := w.any
    exact ⟨d, find_app h⟩
/-- the fields of some classes, one after the other -/
def ownsOf (T : List Cl) (l : List Str) : List V := l.flatMap fun x => match findC T x with
  | some c => c.own
  | none => []
theorem owns_all {T : List Cl} {n : Nat} (w : WF T n) {o : Option Str} {l : List Str} (h : Line T o l) : ∀ x c, o = some x → findC T x = some c → ownsOf T l.reverse = c.all := by
  induction h with
  | nil => intro x c e; cases e
  | @cons x c l h t ih =>
    intro y d e hd
    cases e
    rw [h] at hd
    cases hd
    have e : ownsOf T (x :: l).reverse = ownsOf T l.reverse ++ c.own := by
      rw [List.reverse_cons]
      unfold ownsOf
      rw [List.flatMap_append]
      show _ ++ ((match findC T x with | some c => c.own | none => []) ++ []) = _
      rw [h, List.append_nil]
    rw [e]
    rcases w.ok c (find_mem h).1 with ⟨h1, h2⟩ | ⟨p, c', h1, h2, h3⟩
    · rw [h1] at t
      cases t
      rw [h2]
      rfl
    · rw [ih p c' h1 h2, h3]
def knownL' (T : List Cl) (n : Nat) : List Str := (T.filter fun c => decide ((c.since : Int) ≤ (n : Int))).map (·.name)
theorem known_all {T : List Cl} {n : Nat} (w : WF T n) : knownL' T n = T.map (·.name) := by
  unfold knownL'
  rw [List.filter_eq_self.mpr]
  intro c h
  have := w.since c h
  exact decide_eq_true (by omega)
theorem WF.start : WF [⟨"any", none, [], [], 0⟩, ⟨"int", some "any", [], [], 0⟩] 0 := by
  have f1 : findC [⟨"any", none, [], [], 0⟩, ⟨"int", some "any", [], [], 0⟩] "any" = some ⟨"any", none, [], [], 0⟩ := rfl
  have f2 : findC [⟨"any", none, [], [], 0⟩, ⟨"int", some "any", [], [], 0⟩] "int" = some ⟨"int", some "any", [], [], 0⟩ := rfl
  have two : ∀ {P : Cl → Prop}, P ⟨"any", none, [], [], 0⟩ → P ⟨"int", some "any", [], [], 0⟩ → ∀ c, c ∈ ([⟨"any", none, [], [], 0⟩, ⟨"int", some "any", [], [], 0⟩] : List Cl) → P c := fun {P} h1 h2 c h => by
    simp at h
    rcases h with rfl | rfl
    · exact h1
    · exact h2
  refine ⟨by decide +kernel, two (by decide +kernel) (by decide +kernel), rfl, two (.inl ⟨rfl, rfl⟩) (.inr ⟨"any", _, rfl, f1, rfl⟩), two ⟨["any"], .cons f1 .nil, by decide⟩ ⟨["int", "any"], .cons f2 (.cons f1 .nil), by decide⟩, two (Nat.le_refl _) (Nat.le_refl _), two (Nat.zero_le _) (Nat.zero_le _), ⟨_, f2⟩, ⟨_, f1⟩⟩
/-! ### sorted lists of texts -/
theorem rising_pw : ∀ (l : List Str) (p : Str), risingS p l = true → (p :: l).Pairwise (fun a b => a.cps.toList ≤ b.cps.toList)
  | [], p, _ => by simp
  | x :: r, p, h => by
    have h : (!ltCps x.cps.toList p.cps.toList && risingS x r) = true := h
    rw [Bool.and_eq_true] at h
    have ih := rising_pw r x h.2
    have hx : p.cps.toList ≤ x.cps.toList := by
      have h1 := h.1
      rw [ltCps_eq] at h1
      simpa using h1
    refine List.pairwise_cons.mpr ⟨fun y hy => ?_, ih⟩
    rcases List.mem_cons.mp hy with e | hy
    · rw [e]
      exact hx
    · exact List.le_trans hx ((List.pairwise_cons.mp ih).1 y hy)
theorem sorted_pw {l : List Str} (h : sortedS l = true) : l.Pairwise (fun a b => a.cps.toList ≤ b.cps.toList) := by
  cases l with
  | nil => exact .nil
  | cons x r => exact rising_pw r x h
theorem sorted_one {l m : List Str} (p : l.Perm m) (h1 : sortedS l = true) (h2 : sortedS m = true) : l = m := by
  refine List.Perm.eq_of_pairwise (le := fun a b => a.cps.toList ≤ b.cps.toList) (fun a b _ _ h1 h2 => ?_) (sorted_pw h1) (sorted_pw h2) p
  have e := List.le_antisymm h1 h2
  cases a
  cases b
  congr
  exact Array.toList_inj.mp e
end Wc

set_option Elab.async false
set_option linter.all false
set_option maxRecDepth 100000
set_option maxHeartbeats 4000000
/-! == of two tuples of the same parts; frames that leave tables of code objects out -/
namespace Wc
open PySem PySem.Spec PyProof.Rows L2
/-- the same value -/
def DSm : Eqv := fun x y _ => (x = y ∧ flatV x = true) ∨ ∃ a, x = .ref a ∧ y = .ref a
theorem mon_same : Mon DSm := fun _ _ _ _ _ d => d
theorem eqG_same {X : Cx} : EqG X 0 DSm := by
  intro A pins s σ H x y u v sb I rx ry d
  rcases d with ⟨rfl, f⟩ | ⟨a, rfl, rfl⟩
  · refine eqG_flat A pins s σ H x x u v sb I rx ry ⟨f, f, ?_⟩
    cases x <;> first | rfl | (cases f; done) | simp [eqV]
  · obtain rfl : u = Value.ref a := rx
    obtain rfl : v = Value.ref a := ry
    exact SeqAt.EqAt.same (A := A) (s := s) (.ref a) X.prog X.w X.xe _ ⟨rfl, H, I, fun _ _ h => h⟩
def rEqB (K : PySem.W.Frag) : R2 := fun x y H Q => rEq x y H Q ∨ rEqG (DTup K DSm) x y H Q
theorem op_eqB {X : Cx} {j : Nat} (hr : Room j X.A) (hj : 1 ≤ j := by decide) : OpR X (compareOp .Eq) (rEqB X.K) := by
  intro pins s σ H x y v u Q I rx ry h
  rcases h with h | h
  · exact op_eq pins s σ H x y v u Q I rx ry h
  · exact op_eqG (rcG_tup mon_same eqG_same) (hr.mono hj) pins s σ H x y v u Q I rx ry h
theorem eqB_int {K : PySem.W.Frag} {i j : Int} {H : Hp} {Q : VK} (h : i = j) (q : Q (.bl true) H) : rEqB K (.int i) (.int j) H Q := by
  refine .inl ⟨rfl, ?_⟩
  rw [h, decide_eq_true rfl]
  exact q
theorem eqB_tup {K : PySem.W.Frag} {a b : Addr} {t : Str} {v : V} {H : Hp} {Q : VK} (h1 : H a = some (.tup [.str t, v])) (h2 : H b = some (.tup [.str t, v])) (hv : DSm v v H) (q : ∀ H', Wc.Ext H H' → Q (.bl true) H') : rEqB K (.ref a) (.ref b) H Q :=
  .inr ⟨⟨a, b, _, _, rfl, rfl, SqT.of h1, SqT.of h2, .cons (.inl ⟨rfl, rfl⟩) (.cons hv .nil)⟩, q⟩
/-- all but A and the tables stays -/
def FrN (A : List Addr) (H H' : Hp) : Prop := ∀ a o, a ∉ A → (∀ ps, o ≠ .tbl ps) → H a = some o → H' a = some o
theorem Fr.n {A : List Addr} {H H' : Hp} (f : Fr A H H') : FrN A H H' := fun a o n _ h => f a o n h
theorem FrN.trans {A : List Addr} {H H1 H2 : Hp} (f : FrN A H H1) (g : FrN A H1 H2) : FrN A H H2 := fun a o n t h => g a o n t (f a o n t h)
theorem FrN.mono {A B : List Addr} {H H' : Hp} (f : FrN A H H') (h : ∀ a, a ∈ A → a ∈ B) : FrN B H H' := fun a o n t z => f a o (fun m => n (h a m)) t z
theorem FrN.of {H H' : Hp} (e : LamX.ExtN H H') : FrN [] H H' := fun a o _ t h => e a o h t
theorem FrN.mo {A : List Addr} {H H' : Hp} (f : FrN A H H') (n : ∀ a, a ∈ A → ∃ u, H a = some u ∧ Imm u = false) : Mo H H' := fun a o i h => f a o (fun m => by
  obtain ⟨u, hu, nu⟩ := n a m
  rw [hu] at h
  cases h
  rw [nu] at i
  cases i) (fun ps z => by rw [z] at i; cases i) h
theorem RtW.frn {K : PySem.W.Frag} {CK CR : Addr} {A : List Addr} {H H' : Hp} {r kd tl : Addr} {T : List Cl} {n : Nat} (R : RtW K CK CR H r kd tl T n) (f : FrN A H H') (m : Mo H H') (h1 : kd ∉ A) (h2 : tl ∉ A) : RtW K CK CR H' r kd tl T n := by
  obtain ⟨⟨⟨dx, fs, a1, a2⟩, ⟨kvs, b1, b2⟩, xs, c1, c2⟩, kv0, d0⟩ := R
  refine ⟨⟨⟨dx, fs, m _ _ rfl a1, a2⟩, ⟨kvs, ?_, b2.mono fun _ _ z => z.mo m⟩, xs, f _ _ h2 (fun _ z => nomatch z) c1, c2⟩, kv0, f _ _ h1 (fun _ z => nomatch z) d0⟩
  rcases b1 with b | ⟨o, b⟩
  · exact .inl (f _ _ h1 (fun _ z => nomatch z) b)
  · exact .inr ⟨o, f _ _ h1 (fun _ z => nomatch z) b⟩
/-- tables stay where lists, dicts change -/
theorem tabs_fr {T : List (Addr × Str)} {A : List Addr} {H H' : Hp} (t : LamX.Tabs T H) (f : Fr A H H') (n : ∀ a, a ∈ A → ∃ u, H a = some u ∧ (∀ ps, u ≠ .tbl ps) ∧ ∀ φ, u ≠ .ext φ) : LamX.Tabs T H' := fun p hp => by
  obtain ⟨ps, h1, h2, h3⟩ := t p hp
  refine ⟨ps, f _ _ (fun m => ?_) h1, h2, fun pos cv hc => ?_⟩
  · obtain ⟨u, hu, nu, _⟩ := n _ m
    rw [hu] at h1
    exact nu ps (Option.some.inj h1)
  · obtain ⟨c, e1, e2⟩ := h3 pos cv hc
    refine ⟨c, e1, f _ _ (fun m => ?_) e2⟩
    obtain ⟨u, hu, _, nu⟩ := n _ m
    rw [hu] at e2
    exact nu _ (Option.some.inj e2)
end Wc

set_option Elab.async false
set_option linter.all false
set_option maxRecDepth 100000
set_option maxHeartbeats 1000000
/-! dicts whose keys are tuples in tuples (over KE.KeyNested) -/
namespace Wc
open PySem PySem.Spec PyProof.Rows L2
abbrev NK : Type := NestedKey
mutual
/-- the value v, in the heap H, is the key k -/
inductive KeyV (H : Hp) : V → NK → Prop
  | int (i : Int) : KeyV H (.int i) (.num i)
  | str (x : Str) : KeyV H (.str x) (.text x)
  | tup {a : Addr} {vs : List V} {ks : List NK} (h : H a = some (.tup vs)) (t : KeyVs H vs ks) : KeyV H (.ref a) (.tup ks)
inductive KeyVs (H : Hp) : List V → List NK → Prop
  | nil : KeyVs H [] []
  | cons {v : V} {k : NK} {vs : List V} {ks : List NK} (h : KeyV H v k) (t : KeyVs H vs ks) : KeyVs H (v :: vs) (k :: ks)
end
mutual
theorem KeyV.mo {H H' : Hp} (m : Mo H H') : ∀ (k : NK) (v : V), KeyV H v k → KeyV H' v k
  | .none, _, h => by cases h
  | .num i, _, h => by cases h; exact .int _
  | .text x, _, h => by cases h; exact .str _
  | .tup ks, _, h => by
    cases h with
    | tup h t => exact .tup (m _ _ rfl h) (KeyVs.mo m ks _ t)
theorem KeyVs.mo {H H' : Hp} (m : Mo H H') : ∀ (ks : List NK) (vs : List V), KeyVs H vs ks → KeyVs H' vs ks
  | [], _, h => by cases h; exact .nil
  | k :: ks, _, h => by
    cases h with
    | cons h t => exact .cons (KeyV.mo m k _ h) (KeyVs.mo m ks _ t)
end
mutual
theorem KeyV.is {P : Program} {w : World} {H : Hp} {h : Heap} (ok : HOk P w H h) : ∀ (k : NK) (v : V) (u : Value), KeyV H v k → RelV v u → NestedIs h k u
  | .none, _, _, x, _ => by cases x
  | .num i, _, u, x, r => by
    cases x
    obtain ⟨t, e⟩ := (show ∃ t, u = Value.int i t from r)
    rw [e]
    exact .int _ _
  | .text y, _, u, x, r => by
    cases x
    obtain ⟨t, e⟩ := (show ∃ t, u = Value.str y t from r)
    rw [e]
    exact .text _ _
  | .tup ks, _, u, x, r => by
    cases x with
    | @tup a vs _ hx t =>
      obtain rfl : u = Value.ref a := r
      obtain ⟨_, its, rv, o, h1, h2, n, h3⟩ := (show ObjOk P w H h a (.tup vs) from ok a _ hx)
      exact .tup h1 h2 h3 (by simpa using KeyVs.is ok ks _ _ t rv)
theorem KeyVs.is {P : Program} {w : World} {H : Hp} {h : Heap} (ok : HOk P w H h) : ∀ (ks : List NK) (vs : List V) (us : List Value), KeyVs H vs ks → Vals vs us → NestedAll h ks us
  | [], _, _, x, r => by
    cases x
    cases r
    exact .nil
  | k :: ks, _, _, x, r => by
    cases x with
    | cons x t =>
      cases r with
      | cons r rt => exact .cons (KeyV.is ok k _ _ x r) (KeyVs.is ok ks _ _ t rt)
end
/-- so stands such a dict at d -/
def NDo (P : Program) (w : World) (d : Addr) (xs : List (NK × Addr × Value)) (h : Heap) : Prop := ∃ o es ep, h.get? d = some o ∧ o.ExactDict ∧ o.data = .dict es ep ∧ es.toList = xs.map (entryOfKey (nestedKind P w))
def NRel (H : Hp) (p : NK × V) (q : NK × Addr × Value) : Prop := p.1 = q.1 ∧ KeyV H (.ref q.2.1) p.1 ∧ p.1.depth ≤ 8 ∧ RelV p.2 q.2.2
/-- a dict with the keys and values kvs -/
def ND (P : Program) (w : World) (H : Hp) (d : Addr) (kvs : List (NK × V)) : Prop := ∃ xs, H d = some (.ext (NDo P w d xs)) ∧ (d == sysModules) = false ∧ xs.length ≤ sizeLine ∧ (xs.map (·.1)).Nodup ∧ PySem.Paired (NRel H) kvs xs
/-- .. or an empty one -/
def Tb (P : Program) (w : World) (H : Hp) (d : Addr) (kvs : List (NK × V)) : Prop := ND P w H d kvs ∨ (kvs = [] ∧ H d = some (.dK []))
theorem NRel.mo {H H' : Hp} (m : Mo H H') {p : NK × V} {q : NK × Addr × Value} (h : NRel H p q) : NRel H' p q := ⟨h.1, KeyV.mo m _ _ h.2.1, h.2.2⟩
theorem ND.fr {P : Program} {w : World} {H H' : Hp} {d : Addr} {kvs : List (NK × V)} (h : ND P w H d kvs) (m : Mo H H') (e : ∀ o, H d = some o → (∀ ps, o ≠ .tbl ps) → H' d = some o) : ND P w H' d kvs := by
  obtain ⟨xs, h1, h2, h3, h4, h5⟩ := h
  exact ⟨xs, e _ h1 (fun _ z => nomatch z), h2, h3, h4, Paired.mapP h5 fun _ _ z => z.mo m⟩
theorem Tb.fr {P : Program} {w : World} {H H' : Hp} {d : Addr} {kvs : List (NK × V)} (h : Tb P w H d kvs) (m : Mo H H') (e : ∀ o, H d = some o → (∀ ps, o ≠ .tbl ps) → H' d = some o) : Tb P w H' d kvs := by
  rcases h with h | ⟨h1, h2⟩
  · exact .inl (h.fr m e)
  · exact .inr ⟨h1, e _ h2 (fun _ z => nomatch z)⟩
theorem NRel.is {P : Program} {w : World} {H : Hp} {h : Heap} (ok : HOk P w H h) : ∀ {kvs : List (NK × V)} {xs : List (NK × Addr × Value)}, PySem.Paired (NRel H) kvs xs → ∀ x ∈ xs, (nestedKind P w).is h x.1 x.2.1
  | _, _, .nil, x, hx => by cases hx
  | _, _, .cons (a := p) (b := q) r t, x, hx => by
    rcases List.mem_cons.mp hx with e | hx
    · subst e
      obtain ⟨e1, k, dp, _⟩ := r
      rw [← e1]
      exact ⟨KeyV.is ok _ _ _ k rfl, dp⟩
    · exact NRel.is ok t x hx
theorem ND.at_ {P : Program} {w : World} {H : Hp} {h : Heap} {d : Addr} {kvs : List (NK × V)} (ok : HOk P w H h) (n : ND P w H d kvs) : ∃ xs, h.DictOfH (nestedKind P w) d xs ∧ (d == sysModules) = false ∧ xs.length ≤ sizeLine ∧ PySem.Paired (NRel H) kvs xs := by
  obtain ⟨xs, h1, h2, h3, h4, h5⟩ := n
  obtain ⟨⟨o, es, ep, g1, g2, g3, g4⟩, _⟩ := (show ObjOk P w H h d (.ext (NDo P w d xs)) from ok d _ h1)
  exact ⟨xs, ⟨o, es, ep, g1, g2, g3, g4, NRel.is ok h5, h4⟩, h2, h3, h5⟩
theorem Tb.at_ {P : Program} {w : World} {H : Hp} {h : Heap} {d : Addr} {kvs : List (NK × V)} (ok : HOk P w H h) (n : Tb P w H d kvs) : ∃ xs, h.DictOfH (nestedKind P w) d xs ∧ (d == sysModules) = false ∧ xs.length ≤ sizeLine ∧ PySem.Paired (NRel H) kvs xs := by
  rcases n with n | ⟨rfl, e⟩
  · exact n.at_ ok
  · obtain ⟨_, hm, vs, rv, o, es, ep, g1, g2, g3, g4, g5, g6⟩ := (show ObjOk P w H h d (.dK []) from ok d _ e)
    cases rv
    have e0 : es.toList = [] := by
      cases hh : es.toList with
      | nil => rfl
      | cons a l =>
        rw [hh] at g5
        cases g5
    exact ⟨[], ⟨o, es, ep, g1, g2, g3, by rw [e0]; rfl, (fun x hx => by cases hx), List.nodup_nil⟩, hm, Nat.zero_le _, .nil⟩
theorem NRel.val {H : Hp} {kvs : List (NK × V)} {xs : List (NK × Addr × Value)} (r : PySem.Paired (NRel H) kvs xs) (k : NK) : RelO (valV kvs k) ((atKey xs k).map (·.2)) := by
  induction r with
  | nil => exact True.intro
  | @cons p q ps qs h t ih =>
    obtain ⟨h1, _, _, h2⟩ := h
    by_cases e : p.1 = k
    · have e' : q.1 = k := h1.symm.trans e
      have b : atKey (q :: qs) k = some q.2 := by simp [atKey, List.find?_cons, e']
      rw [valV_pos e, b]
      exact h2
    · have e' : ¬ q.1 = k := fun z => e (h1.trans z)
      have b : atKey (q :: qs) k = atKey qs k := by simp [atKey, List.find?_cons, e']
      rw [valV_neg e, b]
      exact ih
theorem NRel.repl {H : Hp} {kvs : List (NK × V)} {xs : List (NK × Addr × Value)} (r : PySem.Paired (NRel H) kvs xs) (k : NK) {y : V} {u : Value} (ry : RelV y u) :
    PySem.Paired (NRel H) (kvs.map fun kv => if kv.1 = k then (kv.1, y) else kv) (xs.map (putAt k u)) := by
  induction r with
  | nil => exact .nil
  | @cons p q ps qs h t ih =>
    rw [List.map_cons, List.map_cons]
    refine .cons ?_ ih
    obtain ⟨h1, h2, h3, h4⟩ := h
    unfold putAt
    by_cases e : p.1 = k
    · rw [if_pos e, if_pos (h1.symm.trans e)]
      exact ⟨h1, h2, h3, ry⟩
    · rw [if_neg e, if_neg (fun z => e (h1.trans z))]
      exact ⟨h1, h2, h3, h4⟩
theorem NRel.put {H : Hp} {kvs : List (NK × V)} {xs : List (NK × Addr × Value)} (r : PySem.Paired (NRel H) kvs xs) (k : NK) {b : Addr} {y : V} {u : Value} (hb : KeyV H (.ref b) k) (hd : k.depth ≤ 8) (ry : RelV y u) :
    PySem.Paired (NRel H) (putK kvs k y) (storedH xs k b u) := by
  have e : (kvs.any fun kv => decide (kv.1 = k)) = (atKey xs k).isSome := by
    rw [valV_any, (NRel.val r k).isSome_eq, Option.isSome_map]
  unfold putK storedH
  rw [e]
  by_cases q : (atKey xs k).isSome = true
  · rw [if_pos q, if_pos q]
    exact NRel.repl r k ry
  · rw [if_neg q, if_neg q]
    exact Paired.snoc r ⟨rfl, hb, hd, ry⟩
theorem NRel.drop {H : Hp} {kvs : List (NK × V)} {xs : List (NK × Addr × Value)} (r : PySem.Paired (NRel H) kvs xs) (k : NK) : PySem.Paired (NRel H) (dropK kvs k) (withoutH xs k) := by
  unfold dropK withoutH
  induction r with
  | nil => exact .nil
  | @cons p q ps qs h t ih =>
    rw [List.filter_cons, List.filter_cons]
    by_cases e : p.1 = k
    · have a : ¬ decide (p.1 ≠ k) = true := by simp [e]
      have b : ¬ decide (q.1 ≠ k) = true := by simp [h.1.symm.trans e]
      first
        | (rw [if_neg a, if_neg b]; exact ih)
        | (simp only [h.1.symm.trans e, e]; simpa using ih)
    · have e' : ¬ q.1 = k := fun z => e (h.1.trans z)
      have a : decide (p.1 ≠ k) = true := by simp [e]
      have b : decide (q.1 ≠ k) = true := by simp [e']
      first
        | (rw [if_pos a, if_pos b]; exact .cons h ih)
        | (simp only [e, e']; simpa using PySem.Paired.cons h ih)
/-! ### the rules -/
/-- a key: its value, the key -/
def NKey (H : Hp) (y : V) (k : NK) : Prop := (∃ b, y = .ref b) ∧ KeyV H y k ∧ k.depth ≤ 8
def tNGet (P : Program) (w : World) (td ty : TE) : TE := fun σ H Q => td σ H fun x H1 => ty σ H1 fun y H2 => ∃ a kvs k v, x = .ref a ∧ NKey H2 y k ∧ Tb P w H2 a kvs ∧ valV kvs k = some v ∧ Q v H2
def tNIn (P : Program) (w : World) (ty td : TE) : TE := fun σ H Q => ty σ H fun y H1 => td σ H1 fun x H2 => ∃ a kvs k, x = .ref a ∧ NKey H2 y k ∧ Tb P w H2 a kvs ∧ Q (.bl (valV kvs k).isSome) H2
def tNNot (P : Program) (w : World) (ty td : TE) : TE := fun σ H Q => ty σ H fun y H1 => td σ H1 fun x H2 => ∃ a kvs k, x = .ref a ∧ NKey H2 y k ∧ Tb P w H2 a kvs ∧ Q (.bl (!(valV kvs k).isSome)) H2
/-- d[y] = v: behind it -/
def NPut (P : Program) (w : World) (a : Addr) (y v : V) (R : Hp → Prop) (H : Hp) : Prop := ∃ kvs k, NKey H y k ∧ Tb P w H a kvs ∧ kvs.length < sizeLine ∧ ∀ H', Fr [a] H H' → Mo H H' → ND P w H' a (putK kvs k v) → R H'
def sNPut (P : Program) (w : World) (td ty tv : TE) : TS := fun D σ H => tv σ H fun v H1 => td σ H1 fun x H2 => ty σ H2 fun y H3 => ∃ a, x = .ref a ∧ NPut P w a y v (D.nx σ) H3
def rNPop (P : Program) (w : World) : V → List V → Hp → VK → Prop := fun x xs H Q => ∃ a y kvs k v, x = .ref a ∧ xs = [y] ∧ NKey H y k ∧ Tb P w H a kvs ∧ valV kvs k = some v ∧ ∀ H', Fr [a] H H' → Mo H H' → ND P w H' a (dropK kvs k) → Q v H'
/-- dict(d) of one that holds at most one -/
def rNCopy (P : Program) (w : World) : List V → Hp → VK → Prop := fun xs H Q => ∃ a kvs, xs = [.ref a] ∧ Tb P w H a kvs ∧ kvs.length ≤ 1 ∧ ∀ d H', H d = none → Ext H H' → ND P w H' d kvs → Q (.ref d) H'
section
variable {X : Cx} {o i e value : Expr} {pos pos' apos cpos : Pos} {td ty tv : TE}
theorem nkey_is {P : Program} {w : World} {H : Hp} {h : Heap} (ok : HOk P w H h) {y : V} {k : NK} {u : Value} (n : NKey H y k) (r : RelV y u) : ∃ b, u = .ref b ∧ y = .ref b ∧ (nestedKind P w).is h k b := by
  obtain ⟨⟨b, rfl⟩, h1, h2⟩ := n
  obtain rfl : u = Value.ref b := r
  exact ⟨b, rfl, rfl, KeyV.is ok _ _ _ h1 rfl, h2⟩
theorem pe_nget (hu : X.A.units + 9 < cLine) (ho : PE X o td) (hi : PE X i ty) (hs : NoSl i) : PE X (.Subscript o i pos) (tNGet X.prog X.w td ty) := by
  refine ⟨fun pins s σ H Q I h => ?_⟩
  refine subD_of PySem.F.slot_dict_getitem.lookup hs (thn (ho.run pins s σ H _ I h) fun u s1 ⟨x, H1, I1, rx, q1⟩ => thn (hi.run pins s1 σ H1 _ I1 q1) fun iv s2 ⟨y, H2, I2, ry, a, kvs, k, v, ex, nk, tb, hv, q2⟩ => ?_)
  subst ex
  obtain rfl : u = Value.ref a := rx
  obtain ⟨b, rfl, rfl, hk⟩ := nkey_is I2.hok nk ry
  obtain ⟨xs, dd, _, _, rel⟩ := tb.at_ I2.hok
  obtain ⟨w', hw, rw'⟩ := RelO.some_of (v := v) (o := (atKey xs k).map (·.2)) (by rw [← hv]; exact NRel.val rel k)
  obtain ⟨p, hp, hp2⟩ := Option.map_eq_some_iff.mp hw
  refine ⟨dd.typeIs, wpAny_getItem_heap (by show _ + 1 + 8 < cLine; exact hu) hk dd hp ?_⟩
  rw [hp2]
  exact ⟨v, H2, I2.tok _, rw', q2⟩
theorem pc_nin (hu : X.A.units + 9 < cLine) (hi : PE X i ty) (ho : PE X o td) : PC X .In i o (tNIn X.prog X.w ty td) := by
  refine ⟨fun pins s σ H Q I h => ?_⟩
  refine thn (hi.run pins s σ H _ I h) fun iv s1 ⟨y, H1, I1, ry, q1⟩ => thn (ho.run pins s1 σ H1 _ I1 q1) fun u s2 ⟨x, H2, I2, rx, a, kvs, k, ex, nk, tb, q2⟩ => ?_
  subst ex
  obtain rfl : u = Value.ref a := rx
  obtain ⟨b, rfl, rfl, hk⟩ := nkey_is I2.hok nk ry
  obtain ⟨xs, dd, hm, _, rel⟩ := tb.at_ I2.hok
  refine wpAny_in_heap (by show _ + 1 + 8 < cLine; exact hu) hk hm dd ?_
  have q := (NRel.val rel k).isSome_eq
  rw [Option.isSome_map] at q
  rw [← q]
  exact ⟨.bl (valV kvs k).isSome, H2, I2.tok _, rfl, q2⟩
theorem pc_nnot (hu : X.A.units + 9 < cLine) (hi : PE X i ty) (ho : PE X o td) : PC X .NotIn i o (tNNot X.prog X.w ty td) := by
  refine ⟨fun pins s σ H Q I h => ?_⟩
  refine thn (hi.run pins s σ H _ I h) fun iv s1 ⟨y, H1, I1, ry, q1⟩ => thn (ho.run pins s1 σ H1 _ I1 q1) fun u s2 ⟨x, H2, I2, rx, a, kvs, k, ex, nk, tb, q2⟩ => ?_
  subst ex
  obtain rfl : u = Value.ref a := rx
  obtain ⟨b, rfl, rfl, hk⟩ := nkey_is I2.hok nk ry
  obtain ⟨xs, dd, hm, _, rel⟩ := tb.at_ I2.hok
  refine wpAny_notIn_heap (by show _ + 1 + 8 < cLine; exact hu) hk hm dd ?_
  have q := (NRel.val rel k).isSome_eq
  rw [Option.isSome_map] at q
  rw [← q]
  exact ⟨.bl (!(valV kvs k).isSome), H2, I2.tok _, rfl, q2⟩
theorem tb_mut {P : Program} {w : World} {H : Hp} {a : Addr} {kvs : List (NK × V)} (t : Tb P w H a kvs) : Mut (H a) ∧ ∃ u, H a = some u ∧ Imm u = false := by
  rcases t with ⟨xs, h, _⟩ | ⟨_, h⟩ <;> (rw [h]; exact ⟨True.intro, _, rfl, rfl⟩)
/-- behind a write of such a dict -/
theorem nd_laid {P : Program} {w : World} {H : Hp} {h h' : Heap} {a : Addr} {kvs : List (NK × V)} {xs : List (NK × Addr × Value)} (dd : h'.DictOfH (nestedKind P w) a xs) (hm : (a == sysModules) = false) (hz : xs.length ≤ sizeLine) (rel : PySem.Paired (NRel H) kvs xs) (m : Mo H (upd H a (.ext (NDo P w a xs)))) :
    ObjOk P w (upd H a (.ext (NDo P w a xs))) h' a (.ext (NDo P w a xs)) ∧ ND P w (upd H a (.ext (NDo P w a xs))) a kvs := by
  obtain ⟨o, es, ep, h1, h2, h3, h4, _, h5⟩ := dd
  exact ⟨⟨⟨o, es, ep, h1, h2, h3, h4⟩, ⟨o, h1⟩, fun g1 g2 ⟨o', es', ep', k1, k⟩ z => ⟨o', es', ep', z _ k1, k⟩⟩, xs, upd_same, hm, hz, h5, Paired.mapP rel fun _ _ z => z.mo m⟩
theorem ps_nput (hu : X.A.units + 9 < cLine) (ho : PE X o td) (hi : PE X i ty) (hv : PE X value tv) (hs : swapsWith value (some (.Subscript o i pos')) pos.line X.env = pure false) :
    PS X (.Assign [.Subscript o i pos'] value pos) (sNPut X.prog X.w td ty tv) := by
  refine ⟨fun pins s σ H D I h => ?_⟩
  refine wpAny_Assign_Subscript (thn (hv.run pins s σ H _ I h) fun r s1 ⟨v, H1, I1, rv, q1⟩ => thn (ho.run pins s1 σ H1 _ I1 q1) fun u s2 ⟨x, H2, I2, rx, q2⟩ => thn (hi.run pins s2 σ H2 _ I2 q2) fun iv s3 ⟨y, H3, I3, ry, a, ex, kvs, k, nk, tb, hl, q3⟩ => ?_) hs
  subst ex
  obtain rfl : u = Value.ref a := rx
  obtain ⟨mu, u0, hu0, im⟩ := tb_mut tb
  obtain ⟨_, hky, hdk⟩ := id nk
  obtain ⟨b, rfl, rfl, hk⟩ := nkey_is I3.hok nk ry
  obtain ⟨xs, dd, hm, hz, rel⟩ := tb.at_ I3.hok
  refine wpAny_setItem_heap (hsz := hz) (by show _ + 1 + 8 < cLine; exact hu) hk dd fun h' dd' hs' => ?_
  have rel' := NRel.put rel k hky hdk rv
  have hz' : (storedH xs k b r).length ≤ sizeLine := by
    rw [← Paired.length rel']
    have := length_putK kvs k v
    omega
  have mo : Mo H3 (upd H3 a (.ext (NDo X.prog X.w a (storedH xs k b r)))) := Mo.upd hu0 im
  obtain ⟨n1, n2⟩ := nd_laid (h := s3.heap) dd' hm hz' rel' mo
  have he : ∃ q, h'.get? a = some q := let ⟨q, _, _, hq, _⟩ := dd'; ⟨q, hq⟩
  exact ⟨σ, _, d_write I3 mu hs' he n1, q3 _ (Fr.updE (by simp)) mo n2⟩
theorem withoutH_le (xs : List (NK × Addr × Value)) (k : NK) : (withoutH xs k).length ≤ xs.length := by
  unfold withoutH
  exact List.length_filter_le _ _
theorem mt_npop (hu : X.A.units + 9 < cLine) : MtR X "dict.pop" (rNPop X.prog X.w) := by
  intro pins s σ H x xs v us Q I rx rxs h
  obtain ⟨a, y, kvs, k, v0, rfl, rfl, nk, tb, hv, q⟩ := h
  obtain ⟨u1, rfl, ry⟩ := vals1 rxs
  obtain rfl : v = Value.ref a := rx
  obtain ⟨mu, u0, hu0, im⟩ := tb_mut tb
  obtain ⟨b, rfl, rfl, hk⟩ := nkey_is I.hok nk ry
  obtain ⟨xs, dd, hm, hz, rel⟩ := tb.at_ I.hok
  obtain ⟨w', hw, rw'⟩ := RelO.some_of (v := v0) (o := (atKey xs k).map (·.2)) (by rw [← hv]; exact NRel.val rel k)
  obtain ⟨p, hp, hp2⟩ := Option.map_eq_some_iff.mp hw
  refine call_pop_heap (hsz := hz) (.inl rfl) (PySem.F.args_dict_pop_2 _ _) (by show _ + 1 + 8 < cLine; exact hu) hk hm dd hp fun h' dd' hs' => ?_
  have mo : Mo H (upd H a (.ext (NDo X.prog X.w a (withoutH xs k)))) := Mo.upd hu0 im
  obtain ⟨n1, n2⟩ := nd_laid (h := s.heap) dd' hm (Nat.le_trans (withoutH_le xs k) hz) (NRel.drop rel k) mo
  have he : ∃ q, h'.get? a = some q := let ⟨q, _, _, hq, _⟩ := dd'; ⟨q, hq⟩
  rw [hp2]
  exact ⟨v0, _, d_write I mu hs' he n1, rw', q _ (Fr.updE (by simp)) mo n2⟩
theorem nodup_le1 {α β : Type} (f : α → β) : ∀ {l : List α}, l.length ≤ 1 → (l.map f).Nodup
  | [], _ => List.nodup_nil
  | [x], _ => List.nodup_cons.mpr ⟨List.not_mem_nil, List.nodup_nil⟩
  | _ :: _ :: _, h => by simp at h
theorem call_ncopy (hu : X.A.units + 10 < cLine) : CallR X (.type "dict") (rNCopy X.prog X.w) := by
  intro pins s σ H xs us Q I r h
  obtain ⟨a, kvs, rfl, tb, h1, q⟩ := h
  obtain ⟨u1, rfl, ru⟩ := vals1 r
  obtain rfl : u1 = Value.ref a := ru
  obtain ⟨xs, dd, hm, hz, rel⟩ := tb.at_ I.hok
  have hl : xs.length ≤ 1 := by rw [← Paired.length rel]; exact h1
  refine callType_codes (Q₁ := fun obj s₁ => obj = .ref s.heap.objs.size ∧ s₁ = { s with heap := s.heap.push { cls := .type "dict", data := .dict #[] } }) PySem.F.kt_called_dict (PySem.F.kt_typeCall_dict_1 _) PySem.F.entry_dict_init (kt_code_dict_new _ ⟨rfl, rfl⟩) ?_
  rintro obj s₁ ⟨rfl, rfl⟩
  have hnew : (s.heap.push { cls := .type "dict", data := .dict #[] }).DictOfH (nestedKind X.prog X.w) s.heap.objs.size [] := Heap.DictOfH.new s.heap
  have dd2 : (s.heap.push { cls := .type "dict", data := .dict #[] }).DictOfH (nestedKind X.prog X.w) a xs := by
    obtain ⟨o, es, ep, g1, g2, g3, g4, g5, g6⟩ := dd
    refine ⟨o, es, ep, Heap.get?_push_of_some _ g1, g2, g3, g4, fun x hx => ?_, g6⟩
    obtain ⟨k1, k2⟩ := g5 x hx
    exact ⟨NestedIs.at (fun b o' vs n hb _ => Heap.get?_push_of_some _ hb) _ _ k1, k2⟩
  have hdo : s.heap.objs.size ≠ a := by
    obtain ⟨_, _, _, hg, _⟩ := dd
    exact fun e => absurd (Heap.lt_size hg) (by rw [e]; exact Nat.lt_irrefl _)
  have hty : ∀ x ∈ xs, Shared.TypeIs { s with heap := s.heap.push { cls := .type "dict", data := .dict #[] } } (.ref x.2.1) "tuple" := fun x hx => by
    obtain ⟨_, _, _, _, _, _, _, g5, _⟩ := dd2
    obtain ⟨k1, _⟩ := g5 x hx
    have all : ∀ (l : List (NK × Addr × Value)) (m : List (NK × V)), PySem.Paired (NRel H) m l → ∀ y ∈ l, KeyV H (.ref y.2.1) y.1 := fun l m p => by
      induction p with
      | nil => intro y hy; cases hy
      | cons r _ ih =>
        intro y hy
        rcases List.mem_cons.mp hy with e | hy
        · rw [e, ← r.1]
          exact r.2.1
        · exact ih y hy
    have kv := all _ _ rel x hx
    obtain ⟨kx, ax, vx⟩ := x
    cases kv with
    | @tup _ vs ks ha _ =>
      obtain ⟨_, its, rv, o, g1, g2, n, g3⟩ := (show ObjOk X.prog X.w H s.heap ax (.tup vs) from I.hok ax _ ha)
      exact ⟨o, Heap.get?_push_of_some _ g1, g2⟩
  have hap : (xs.map fun x => (nestedKind X.prog X.w).hash x.1).Nodup := nodup_le1 _ hl
  refine ⟨hnew.typeIs, PySem.F.args_dict_init_2 _ _, ?_⟩
  unfold Builtin.«dict.__init__»
  refine wpAny_bind ?_
  unfold Builtin.Dict.selfAndRest
  refine wpAny_bind (wpAny_notOrdered_dict hnew.typeIs ?_)
  show wpAny _ _ (pure (s.heap.objs.size, [Value.ref a])) _ _ _
  refine wpAny_pure ?_
  show wpAny _ _ (Builtin.Dict.updateFrom "dict.__init__" s.heap.objs.size (.ref a) [] .none) _ _ _
  unfold Builtin.Dict.updateFrom
  refine wpAny_bind (wpAny_typeOf dd2.typeIs ?_)
  rw [if_neg (by decide)]
  refine wpAny_bind ?_
  unfold Builtin.Dict.merge
  refine wpAny_bind ?_
  unfold Builtin.Dict.readDirectly
  refine wpAny_bind (wpAny_isInstance dd2.typeIs isSubtype_dict_dict ?_)
  simp only [Bool.not_true, Bool.false_eq_true, if_false]
  refine wpAny_bind (wpAny_specialOf dd2.typeIs PySem.F.slot_dict_iter.lookup (wpAny_pure ?_))
  simp only [beq_self_eq_true, if_true]
  refine wpAny_bind (wpAny_pure ?_)
  refine wpAny_mergeDict_heap (knd := nestedKind X.prog X.w) (hsz := by simpa using hz) (by show _ + 1 + 1 + 8 < cLine; omega) hdo hm hnew dd2 (.inr ⟨hty, hap⟩) fun h' hd' _ hs' => ?_
  show wpAny _ _ (Builtin.Dict.addKeywords s.heap.objs.size [] >>= _) _ _ _
  rw [storedAllH_nil_of_nodup _ dd2.nodup] at hd'
  have fr : H s.heap.objs.size = none := I.hok.fresh (Nat.le_refl _)
  obtain ⟨n1, n2⟩ := nd_laid (kvs := kvs) (H := H) (h := s.heap) hd' (beq_eq_false_iff_ne.mpr (Ne.symm (Nat.ne_of_lt I.big))) hz rel (Ext.new fr).mo
  have kp : ∀ b ob, s.heap.get? b = some ob → h'.get? b = some ob := fun b ob e => by
    have ne : b ≠ s.heap.objs.size := fun z => absurd (Heap.lt_size e) (by rw [z]; exact Nat.lt_irrefl _)
    exact (hs'.2 b ne).trans (Heap.get?_push_of_some _ e)
  exact wpAny_bind (wpAny_pure (wpAny_pure ⟨rfl, .ref s.heap.objs.size, _, I.laid (t' := s.toks) kp (Nat.le_refl _) n1, rfl, q _ _ fr (Ext.new fr) n2⟩))
end
end Wc

set_option Elab.async false
set_option linter.all false
set_option maxRecDepth 100000
set_option maxHeartbeats 4000000
/-! the head's look with the module's dicts of text keys, too -/
namespace Wc
open PySem PySem.Spec PyProof.Rows L2
abbrev AlZ : Type := He.AlT × Bool
def obsZ (n : Nat) (fa : List He.Fa) (fn : List He.DefD) (ts : List He.Tab) (tf : List He.Defn) (ex : PySem.W.Frag → Bool) (g : Addr → Option Obj) : AlZ :=
  (He.obsT fa fn ts (He.frT g (asC g n)), ex (He.frT g (asC g n)) && He.tabsB g tf (He.frT g (asC g n)))
def valZ (fn : List He.DefD) (ts : List He.Tab) (w : World) : AlZ := (He.valT fn ts w, true)
structure SaysZ (fa : List He.Fa) (fn : List He.DefD) (ts : List He.Tab) (tf : List He.Defn) (ex : PySem.W.Frag → Bool) (w : World) (h : Heap) (K : PySem.W.Frag) : Prop where
  t : He.SaysT fa fn ts w K
  more : ex K = true
  hd : ∀ p ∈ tf, PySem.W.codeHdIn K (He.cT K p).1 (He.cT K p).2 = true
  out : ∀ p ∈ tf, K.lookup (He.cT K p).2 = none
  empty : ∀ p ∈ tf, h.get? (He.cT K p).2 = some { cls := .none, data := .fields #[] }
theorem saysZ_of {n : Nat} {fa : List He.Fa} {fn : List He.DefD} {ts : List He.Tab} {tf : List He.Defn} {ex : PySem.W.Frag → Bool} {w : World} {h : Heap} (e : obsZ n fa fn ts tf ex h.get? = valZ fn ts w) : SaysZ fa fn ts tf ex w h (He.frT h.get? (asC h.get? n)) := by
  have e1 : He.obsT fa fn ts (He.frT h.get? (asC h.get? n)) = He.valT fn ts w := congrArg (fun z : AlZ => z.1) e
  have e2 : (ex (He.frT h.get? (asC h.get? n)) && He.tabsB h.get? tf (He.frT h.get? (asC h.get? n))) = true := congrArg (fun z : AlZ => z.2) e
  obtain ⟨h1, h2⟩ := He.ba e2
  have key : ∀ p ∈ tf, PySem.W.codeHdIn (He.frT h.get? (asC h.get? n)) (He.cT (He.frT h.get? (asC h.get? n)) p).1 (He.cT (He.frT h.get? (asC h.get? n)) p).2 = true ∧ ∃ o, h.get? (He.cT (He.frT h.get? (asC h.get? n)) p).2 = some o ∧ He.emptyTab o = true := fun p hp => by
    obtain ⟨h3, h4⟩ := He.ba (List.all_eq_true.mp h2 p hp)
    refine ⟨h3, ?_⟩
    cases q : h.get? (He.cT (He.frT h.get? (asC h.get? n)) p).2 with
    | none =>
      rw [q] at h4
      cases h4
    | some o =>
      rw [q] at h4
      exact ⟨o, rfl, h4⟩
  exact ⟨e1, h1, fun p hp => (key p hp).1, fun p hp => by
    obtain ⟨_, o, q, z⟩ := key p hp
    exact He.frT_none q z, fun p hp => by
    obtain ⟨_, o, q, z⟩ := key p hp
    rw [q, He.emptyTab_eq z]⟩
def hookZ (n : Nat) (fa : List He.Fa) (fn : List He.DefD) (ts : List He.Tab) (tf : List He.Defn) (ex : PySem.W.Frag → Bool) : PySem.W.Hook where
  α := AlZ
  obs := fun s => obsZ n fa fn ts tf ex s.heap.get?
  val := fun w => valZ fn ts w
  says := fun w h => ∃ K : PySem.W.Frag, K.In h ∧ SaysZ fa fn ts tf ex w h K
  of := fun _ _ e => ⟨_, He.frT_in, saysZ_of e⟩
  keeps := fun _ _ _ ⟨K, hK, c⟩ k => ⟨K, PySem.W.Frag.In.keeps hK k, ⟨c.t, c.more, c.hd, c.out, fun p hp => k _ _ (c.empty p hp)⟩⟩
theorem obsZ_eq {n : Nat} {fa : List He.Fa} {fn : List He.DefD} {ts : List He.Tab} {tf : List He.Defn} {ex : PySem.W.Frag → Bool} {g : Addr → Option Obj} {s : Shared} (h : ∀ a, g a = s.heap.get? a) : obsZ n fa fn ts tf ex g = (hookZ n fa fn ts tf ex).obs s := by
  have e : g = s.heap.get? := funext h
  rw [e] <;> rfl
section
variable {fa : List He.Fa} {fn : List He.DefD} {ts : List He.Tab} {tf : List He.Defn} {ex : PySem.W.Frag → Bool} {w : World} {h : Heap} {K : PySem.W.Frag}
theorem SaysZ.fact (c : SaysZ fa fn ts tf ex w h K) {f : He.Fa} (hf : f ∈ fa) : f.ok K = true := c.t.d.facts hf
theorem SaysZ.def_ (c : SaysZ fa fn ts tf ex w h K) {d : He.DefD} (hd : d ∈ fn) : ∃ fd, FunD K d.name d.qual d.params d.body d.scope (d.dvs K) (d.kws K) (He.fAd K d.at_) fd := c.t.d.defs hd
/-- the keys of a dict of the module -/
theorem dicW_more {P : Params} {a : Addr} {ks : List Str} (e : He.dicW K a = some (He.keysIn P ks)) {es : Array DictEntry} {n : Nat} (hl : K.lookup a = some ⟨.type "dict", none, .dict es n, #[]⟩) : es.toList.map He.keyOf = He.keysIn P ks := by
  unfold He.dicW at e
  rw [hl] at e
  dsimp only at e
  split at e
  · exact Option.some.inj e
  · cases e
theorem SaysZ.tab (c : SaysZ fa fn ts tf ex w h K) (i : Nat) {t : He.Tab} (ht : ts[i]? = some t := by rfl) : ∃ es n, KDict K w (t.1 K) es n ∧ es.toList.map He.keyOf = He.keysIn w.params t.2 := by
  obtain ⟨es, n, D⟩ := c.t.tab i ht
  have e : ts.map (fun t => He.dicW K (t.1 K)) = ts.map fun t => some (He.keysIn w.params t.2) := congrArg (fun z : He.AlT => z.2) c.t
  have e2 : (ts.map fun t => He.dicW K (t.1 K))[i]? = (ts.map fun t => some (He.keysIn w.params t.2))[i]? := by rw [e]
  rw [List.getElem?_map, List.getElem?_map, ht] at e2
  exact ⟨es, n, D, dicW_more (Option.some.inj e2) D.at_⟩
end
end Wc

set_option Elab.async false
set_option linter.all false
set_option maxRecDepth 100000
set_option maxHeartbeats 1000000
/-! dicts and tuples of the module's top, read; lists of any items -/
namespace Wc
open PySem PySem.Spec PyProof.Rows L2
/-! ### what the written part says -/
def litB : Value → V → Bool
  | .int i _, .int j => decide (i = j)
  | .str x _, .str y => decide (x = y)
  | _, _ => false
theorem litB_ok {u : Value} {v : V} (h : litB u v = true) : RelV v u := by
  unfold litB at h
  split at h
  · rw [of_decide_eq_true h]
    exact ⟨_, rfl⟩
  · rw [of_decide_eq_true h]
    exact ⟨_, rfl⟩
  · cases h
def litsB : List Value → List V → Bool
  | [], [] => true
  | u :: us, v :: vs => litB u v && litsB us vs
  | _, _ => false
theorem litsB_ok : ∀ {us : List Value} {vs : List V}, litsB us vs = true → Vals vs us
  | [], [], _ => .nil
  | u :: us, v :: vs, h => by
    obtain ⟨h1, h2⟩ := He.ba (show (litB u v && litsB us vs) = true from h)
    exact .cons (litB_ok h1) (litsB_ok h2)
  | [], _ :: _, h => by cases h
  | _ :: _, [], h => by cases h
def seqB (K : PySem.W.Frag) (t : Addr) (vs : List V) : Bool := match K.lookup t with
  | some ⟨.type c, _, .seq its _, _⟩ => decide (c = "tuple") && (decide (its.size ≤ 1000) && litsB its.toList vs)
  | _ => false
theorem seqB_ok {K : PySem.W.Frag} {t : Addr} {vs : List V} (h : seqB K t vs = true) (H : Hp) : SqT K H t vs := by
  unfold seqB at h
  split at h
  · rename_i c od its n sl e
    obtain ⟨h1, h2⟩ := He.ba h
    obtain ⟨h2, h3⟩ := He.ba h2
    have ec := of_decide_eq_true h1
    subst ec
    exact .inr ⟨_, its, n, e, rfl, rfl, by have := of_decide_eq_true h2; rw [sizeLine_eq]; omega, litsB_ok h3⟩
  · cases h
def dictB (K : PySem.W.Frag) (d : Addr) (kvs : List (Str × V)) : Bool := kvs.all fun p => match PySem.W.nsIn K d p.1 with
  | some (some u) => litB u p.2
  | _ => false
def dictTB (K : PySem.W.Frag) (d : Addr) (kvs : List (Str × List V)) : Bool := kvs.all fun p => match PySem.W.nsIn K d p.1 with
  | some (some (.ref t)) => seqB K t p.2
  | _ => false
/-- what a dict of the top holds -/
def assocV {α : Type} (kvs : List (Str × α)) (z : Str) : Option α := (kvs.find? fun p => decide (p.1 = z)).map (·.2)
theorem nsIn_none {K : PySem.W.Frag} {a : Addr} {es : Array DictEntry} {n : Nat} {P : Params} {ks : List Str} {z : Str} (hl : K.lookup a = some ⟨.type "dict", none, .dict es n, #[]⟩) (hk : es.toList.map He.keyOf = He.keysIn P ks) (hz : z ∉ ks) : PySem.W.nsIn K a z = some none := by
  have key : ∀ (l : List DictEntry) (ks : List Str), l.map He.keyOf = He.keysIn P ks → z ∉ ks → l.find? (·.key.isStr z) = none ∧ l.any (·.refKey) = false := by
    intro l
    induction l with
    | nil => intro ks _ _; exact ⟨rfl, rfl⟩
    | cons e r ih =>
      intro ks h hz
      cases ks with
      | nil => cases h
      | cons k ks =>
        have h1 : He.keyOf e :: r.map He.keyOf = some (k, PyData.keyHash P k) :: He.keysIn P ks := h
        injection h1 with h2 h3
        obtain ⟨i1, i2⟩ := ih ks h3 (fun m => hz (List.mem_cons_of_mem _ m))
        unfold He.keyOf at h2
        split at h2
        · rename_i x t q
          obtain ⟨h5, h6⟩ := Prod.mk.inj (Option.some.inj h2)
          have ne : e.key.isStr z = false := by
            rw [q]
            show (x == z) = false
            rw [h5]
            exact beq_eq_false_iff_ne.mpr fun w => hz (by rw [← w]; exact List.mem_cons_self)
          have nr : e.refKey = false := by
            unfold DictEntry.refKey
            rw [q] <;> rfl
          refine ⟨?_, ?_⟩
          · rw [List.find?_cons, ne]
            exact i1
          · rw [List.any_cons, nr, i2] <;> rfl
        · cases h2
  obtain ⟨k1, k2⟩ := key _ _ hk hz
  unfold PySem.W.nsIn
  rw [hl]
  dsimp only
  rw [k1, k2]
  rfl
/-- d: a dict of the top, at every text -/
structure KD (K : PySem.W.Frag) (w : World) (d : Addr) (f : Str → Option Value → Prop) : Prop where
  ex : ∃ es n, KDict K w d es n
  get : ∀ z, ∃ r, PySem.W.nsIn K d z = some r ∧ f z r
theorem assoc_mem {α : Type} {kvs : List (Str × α)} {z : Str} {v : α} (h : assocV kvs z = some v) : (z, v) ∈ kvs := by
  unfold assocV at h
  obtain ⟨p, hp, e⟩ := Option.map_eq_some_iff.mp h
  have h1 := List.mem_of_find?_eq_some hp
  have h2 : p.1 = z := by simpa using List.find?_some hp
  obtain ⟨a, b⟩ := p
  dsimp only at h2 e
  rw [← h2, ← e]
  exact h1
theorem assoc_none {α : Type} {kvs : List (Str × α)} {z : Str} (h : assocV kvs z = none) : z ∉ kvs.map (·.1) := fun m => by
  unfold assocV at h
  rw [Option.map_eq_none_iff] at h
  obtain ⟨p, hp, e⟩ := List.mem_map.mp m
  exact List.find?_eq_none.mp h p hp (decide_eq_true e)
theorem kd_of {K : PySem.W.Frag} {w : World} {d : Addr} {kvs : List (Str × V)} (h : ∃ es n, KDict K w d es n ∧ es.toList.map He.keyOf = He.keysIn w.params (kvs.map (·.1))) (hb : dictB K d kvs = true) : KD K w d (fun z r => RelO (assocV kvs z) r) := by
  obtain ⟨es, n, D, hk⟩ := h
  refine ⟨⟨es, n, D⟩, fun z => ?_⟩
  cases q : assocV kvs z with
  | none => exact ⟨none, nsIn_none D.at_ hk (assoc_none q), True.intro⟩
  | some v =>
    have h2 := List.all_eq_true.mp hb _ (assoc_mem q)
    split at h2
    · rename_i u e
      exact ⟨some u, e, litB_ok h2⟩
    · cases h2
/-- .. whose values are tuples -/
theorem kdT_of {K : PySem.W.Frag} {w : World} {d : Addr} {kvs : List (Str × List V)} (h : ∃ es n, KDict K w d es n ∧ es.toList.map He.keyOf = He.keysIn w.params (kvs.map (·.1))) (hb : dictTB K d kvs = true) :
    KD K w d (fun z r => match assocV kvs z with | none => r = none | some xs => ∃ t, r = some (.ref t) ∧ ∀ H, SqT K H t xs) := by
  obtain ⟨es, n, D, hk⟩ := h
  refine ⟨⟨es, n, D⟩, fun z => ?_⟩
  cases q : assocV kvs z with
  | none => exact ⟨none, nsIn_none D.at_ hk (assoc_none q), rfl⟩
  | some v =>
    have h2 := List.all_eq_true.mp hb _ (assoc_mem q)
    split at h2
    · rename_i t e
      exact ⟨_, e, t, rfl, seqB_ok h2⟩
    · cases h2
/-! ### the rules -/
def tKGet (K : PySem.W.Frag) (w : World) (td ty tx : TE) : TE := fun σ H Q => td σ H fun x H1 => ∃ a, x = .ref a ∧ (∃ es n, KDict K w a es n) ∧ ty σ H1 fun y H2 => tx σ H2 fun z H3 => ∃ s r o, y = .str s ∧ PySem.W.nsIn K a s = some r ∧ RelO o r ∧ Q (o.getD z) H3
theorem pe_kget {X : Cx} {o e f : Expr} {apos cpos : Pos} {td ty tx : TE} (ho : PE X o td) (he : PE X e ty) (hf : PE X f tx) (m : M2 X o "get" apos e f cpos) : PE X (.Call (.Attribute o "get" apos) [e, f] [] cpos) (tKGet X.K X.w td ty tx) := by
  refine ⟨fun pins s σ H Q I h => ?_⟩
  refine wpAny_Call_method m.base m.few m.line PySem.F.plainAttrs_dict PySem.F.slot_dict_get PySem.F.type_dict_get (thn (ho.run pins s σ H _ I h) fun u s1 ⟨x, H1, I1, rx, a, ex, ⟨es, n, D⟩, q1⟩ => ?_)
  subst ex
  obtain rfl : u = Value.ref a := rx
  refine ⟨kd_type D I1, fun b q => ?_, ?_⟩
  · cases q
    exact ⟨_, I1.kIn _ _ D.at_, rfl⟩
  rw [m.trees]
  refine Calls.callWith_builtin rfl (Calls.evalArgs_plain (Calls.spliced_cons (thn (he.run pins s1 σ H1 _ I1 q1) fun iv s2 ⟨y, H2, I2, ry, q2⟩ =>
    Calls.spliced_cons (thn (hf.run pins s2 σ H2 _ I2 q2) fun fv s3 ⟨z, H3, I3, rz, sx, r, ov, ey, hr, ro, q3⟩ => Calls.spliced_nil ?_))))
  subst ey
  obtain ⟨t, rfl⟩ := (show ∃ t, iv = Value.str sx t from ry)
  have mo := PySem.W.mapOf_K (prog := X.prog) (w := X.w) I3.kIn D.at_ D.lit
  refine call_meetsIn PySem.F.slot_dict_get mo.typeIs PySem.F.entry_dict_get (PySem.F.args_dict_get_3 _ _ _) (meets_dict_get_default (strKind X.prog X.w) a (strKind_is X.prog X.w sx t) D.low fv) ⟨_, mo, ?_⟩
  rw [PySem.W.find_K D.at_ hr]
  exact ⟨_, H3, I3.tok _, RelO.getD ro rz, q3⟩
end Wc

set_option Elab.async false
set_option linter.all false
set_option maxRecDepth 100000
set_option maxHeartbeats 1000000
/-! bodies: objects as trees; which of their parts is not valid -/
namespace Wc
open PySem PySem.Spec PyProof.Rows L2
/-! ### == (), != [] -/
def rEq0 (K : PySem.W.Frag) : R2 := fun x y H Q => ∃ a b xs, x = .ref a ∧ y = .ref b ∧ SqT K H a xs ∧ SqT K H b [] ∧ Q (.bl xs.isEmpty) H
theorem op_eq0 {X : Cx} {j : Nat} (hr : Room j X.A) : OpR X (compareOp .Eq) (rEq0 X.K) := by
  intro pins s σ H x y v u Q I rx ry h
  obtain ⟨a, b, xs, rfl, rfl, ha, hb, q⟩ := h
  obtain rfl : v = Value.ref a := rx
  obtain rfl : u = Value.ref b := ry
  obtain ⟨its, r1, p1, _⟩ := I.tuple ha
  obtain ⟨its2, r2, p2, _⟩ := I.tuple hb
  cases r2
  have hu := un1 hr
  refine SeqAt.eq_tupleAt (e := fun _ => true) p1 p2 (by show X.A.units < cLine; omega) (fun j h1 h2 => absurd h2 (by simp)) ?_
  have e : ((List.range (min its.toArray.size ([] : List Value).toArray.size)).all (fun _ => true) && its.toArray.size == ([] : List Value).toArray.size) = xs.isEmpty := by
    cases r1 <;> simp
  rw [e]
  exact ⟨.bl xs.isEmpty, H, I, rfl, q⟩
def rNe0 (K : PySem.W.Frag) : R2 := fun x y H Q => ∃ a b xs, x = .ref a ∧ y = .ref b ∧ SqL K H a xs ∧ SqL K H b [] ∧ Q (.bl (!xs.isEmpty)) H
theorem op_ne0 {X : Cx} {j : Nat} (hr : Room j X.A) : OpR X (compareOp .NotEq) (rNe0 X.K) := by
  intro pins s σ H x y v u Q I rx ry h
  obtain ⟨a, b, xs, rfl, rfl, ha, hb, q⟩ := h
  obtain rfl : v = Value.ref a := rx
  obtain rfl : u = Value.ref b := ry
  obtain ⟨its, r1, p1, _⟩ := I.list ha
  obtain ⟨its2, r2, p2, _⟩ := I.list hb
  cases r2
  have hu := un1 hr
  cases xs with
  | nil =>
    cases r1
    refine SeqAt.RcNeAt.lists (e := fun _ => true) p1.isList p2.isList rfl (by show X.A.units < cLine; omega) (fun j h1 h2 => absurd h2 (by simp)) X.prog X.w _ _ ?_
    exact ⟨.bl false, H, I, rfl, q⟩
  | cons x xs =>
    cases r1 with
    | cons _ t =>
      refine SeqAt.RcNeAt.lists_lengths p1.isList p2.isList (by simp) (by show X.A.units < cLine; omega) X.prog X.w _ _ ?_
      exact ⟨.bl true, H, I, rfl, q⟩
/-! ### objects as trees -/
inductive Dt where
  | str (s : Str)
  | int (i : Int)
  | oth
  | tup (l : List Dt)
mutual
/-- the value v, in the heap H, is the tree d -/
inductive DtAt (K : PySem.W.Frag) (H : Hp) : V → Dt → Prop
  | str {s : Str} (h : s.length ≤ 1000) : DtAt K H (.str s) (.str s)
  | int (i : Int) : DtAt K H (.int i) (.int i)
  | oth {v : V} {t : Value} {b : Bool} (th : Th K H v none) (hs : Wc.isS v = false) (ty : TyX K H v t) (k1 : PySem.W.kitOne K t (.type "int") = some b) (k2 : PySem.W.kitOne K t (.type "bool") = some b) : DtAt K H v .oth
  | tup {a : Addr} {vs : List V} {ds : List Dt} (h : H a = some (.tup vs)) (hl : vs.length ≤ 1000) (t : DtAll K H vs ds) : DtAt K H (.ref a) (.tup ds)
inductive DtAll (K : PySem.W.Frag) (H : Hp) : List V → List Dt → Prop
  | nil : DtAll K H [] []
  | cons {v : V} {d : Dt} {vs : List V} {ds : List Dt} (h : DtAt K H v d) (t : DtAll K H vs ds) : DtAll K H (v :: vs) (d :: ds)
end
section
variable {K : PySem.W.Frag} {H : Hp}
theorem DtAll.length : ∀ {vs : List V} {ds : List Dt}, DtAll K H vs ds → vs.length = ds.length
  | _, _, .nil => rfl
  | _, _, .cons _ t => by rw [List.length_cons, List.length_cons, DtAll.length t]
theorem DtAll.get : ∀ {vs : List V} {ds : List Dt} {i : Nat} {d : Dt}, DtAll K H vs ds → ds[i]? = some d → ∃ v, vs[i]? = some v ∧ DtAt K H v d
  | _, _, _, _, .nil, e => by simp at e
  | _, _, 0, _, .cons h _, e => by
    simp at e
    subst e
    exact ⟨_, rfl, h⟩
  | _, _, i + 1, d, .cons _ t, e => by
    obtain ⟨x, h1, h2⟩ := DtAll.get (i := i) (d := d) t (by simpa using e)
    exact ⟨x, by simpa using h1, h2⟩
theorem DtAll.mem : ∀ {vs : List V} {ds : List Dt}, DtAll K H vs ds → ∀ v, v ∈ vs → ∃ d, d ∈ ds ∧ DtAt K H v d
  | _, _, .nil, v, hv => by cases hv
  | _, _, .cons h t, v, hv => by
    rcases List.mem_cons.mp hv with e | hv
    · rw [e]
      exact ⟨_, List.mem_cons_self, h⟩
    · obtain ⟨d, h1, h2⟩ := DtAll.mem t v hv
      exact ⟨d, List.mem_cons_of_mem _ h1, h2⟩
/-- its kind for isinstance -/
def tupOf : V → Dt → Hp → Option (List V)
  | .ref a, .tup _, H => match H a with
    | some (.tup vs) => some vs
    | _ => none
  | _, _, _ => none
theorem DtAt.th {v : V} {d : Dt} (h : DtAt K H v d) : ∃ tp, Th K H v tp ∧ ((∃ l, d = .tup l) ↔ tp.isSome = true) := by
  cases h with
  | str h => exact ⟨none, .str h, by simp⟩
  | int i => exact ⟨none, .int, by simp⟩
  | oth th _ _ _ _ => exact ⟨none, th, by simp⟩
  | tup h _ t => exact ⟨_, .tupl h, by simp⟩
def intD : Dt → Bool
  | .int _ => true
  | _ => false
def betD (lo hi : Int) : Dt → Bool
  | .int i => decide (lo ≤ i) && decide (i ≤ hi)
  | _ => false
def nameD : Dt → Bool
  | .str s => nameS s
  | _ => false
def clsD (T : List Cl) : Dt → Bool
  | .str s => nameS s && (findC T s).isSome
  | _ => false
theorem DtAt.name {v : V} {d : Dt} (h : DtAt K H v d) : nameV v = nameD d := by
  cases h with
  | str h => rfl
  | int i => rfl
  | oth th hs _ _ _ => exact nameV_of hs
  | tup h _ t => rfl
theorem DtAt.cls {T : List Cl} {v : V} {d : Dt} (h : DtAt K H v d) : clsV T v = clsD T d := by
  cases h with
  | str h => rfl
  | int i => rfl
  | oth th hs _ _ _ => exact clsV_of (nameV_of hs)
  | tup h _ t => rfl
/-- isinstance(v, int), isinstance(v, bool) -/
theorem DtAt.ints {v : V} {d : Dt} (h : DtAt K H v d) : ∃ t b, TyX K H v t ∧ PySem.W.kitOne K t (.type "int") = some (intD d || b) ∧ PySem.W.kitOne K t (.type "bool") = some b ∧ (intD d = true → b = false ∧ ∃ i, v = .int i) := by
  cases h with
  | str h => exact ⟨_, false, .base (.str _), kit_ty (show kitB "str" "int" = some false by decide +kernel), kit_ty (show kitB "str" "bool" = some false by decide +kernel), fun z => by cases z⟩
  | int i => exact ⟨_, false, .base (.int _), kit_ty (show kitB "int" "int" = some true by decide +kernel), kit_ty (show kitB "int" "bool" = some false by decide +kernel), fun _ => ⟨rfl, _, rfl⟩⟩
  | oth th hs ty k1 k2 => exact ⟨_, _, ty, k1, k2, fun z => by cases z⟩
  | tup h _ t => exact ⟨_, false, .base (.tup h), kit_ty (show kitB "tuple" "int" = some false by decide +kernel), kit_ty (show kitB "tuple" "bool" = some false by decide +kernel), fun z => by cases z⟩
end
/-! ### which parts are valid -/
/-- a part, the path that leads to it, and what may be named there -/
structure Pl where
  d : Dt
  path : List Nat
  count : Nat
  names : List Str
def LENS : List (Str × Nat) := [("int", 2), ("arg", 2), ("name", 2), ("let", 4), ("field", 3), ("add", 3), ("less", 3), ("is", 3), ("if", 4), ("define", 4)]
def WITH : List (Str × List Nat) := [("let", [2, 3]), ("field", [1]), ("add", [1, 2]), ("less", [1, 2]), ("is", [1]), ("if", [1, 2, 3]), ("define", [3])]
def isCallW (w : Str) : Bool := decide (w = "call") || decide (w = "newest")
def sigD (T : List Cl) : Dt → Bool
  | .tup l => (decide (l.length = 1) || decide (l.length = 2)) && l.all (clsD T)
  | _ => false
def callB (w : Str) (l : List Dt) : Bool := isCallW w && ((decide (l.length = 3) || decide (l.length = 4)) && nameD (l.getD 1 .oth))
def fieldsOf (T : List Cl) : Dt → Nat
  | .str s => match findC T s with
    | some c => c.all.length
    | none => 0
  | _ => 0
def isStrD (x : Str) : Dt → Bool
  | .str s => decide (s = x)
  | _ => false
def newB (T : List Cl) (w : Str) (l : List Dt) : Bool := decide (w = "new") && (decide (2 ≤ l.length) && (clsD T (l.getD 1 .oth) && (!isStrD "int" (l.getD 1 .oth) && decide (l.length = 2 + fieldsOf T (l.getD 1 .oth)))))
def nmB (names : List Str) : Dt → Bool
  | .str s => nameS s && names.contains s
  | _ => false
def leafB (count : Nat) (names : List Str) (w : Str) (x : Dt) : Bool :=
  if w = "int" then betD (-1000000000) 1000000000 x else if w = "arg" then betD 0 ((count : Int) - 1) x else nmB names x
def formB (T : List Cl) (p : Pl) (w : Str) (l : List Dt) : Bool :=
  callB w l || (newB T w l || (decide ((assocV LENS w).getD 0 = l.length) && (
    if w = "int" ∨ w = "arg" ∨ w = "name" then leafB p.count p.names w (l.getD 1 .oth)
    else if w = "let" then nameD (l.getD 1 .oth)
    else if w = "field" then nameD (l.getD 2 .oth)
    else if w = "is" then clsD T (l.getD 2 .oth)
    else (!decide (w = "define") || (nameD (l.getD 1 .oth) && sigD T (l.getD 2 .oth))))))
def validB (T : List Cl) (p : Pl) : Bool := match p.d with
  | .tup (.str w :: l) => formB T p w (.str w :: l)
  | _ => false
def withinI (w : Str) (n : Nat) : List Nat := if isCallW w ∨ w = "new" then (List.range (n - 2)).map (· + 2) else (assocV WITH w).getD []
def strD : Dt → Str
  | .str s => s
  | _ => ""
def placeAt (p : Pl) (w : Str) (l : List Dt) (i : Nat) : Pl :=
  ⟨l.getD i .oth, p.path ++ [i], if w = "define" then (match l.getD 2 .oth with | .tup s => s.length | _ => 0) else p.count, if w = "define" then [] else if w = "let" ∧ i = 3 then p.names ++ [strD (l.getD 1 .oth)] else p.names⟩
def placesB (p : Pl) : List Pl := match p.d with
  | .tup (.str w :: l) => (withinI w (l.length + 1)).map (placeAt p w (.str w :: l))
  | _ => []
/-- the path of the first part that is not valid; what waits, the next one first -/
def chk (T : List Cl) : Nat → List Pl → Option (List Nat)
  | _, [] => none
  | 0, _ :: _ => some []
  | n + 1, p :: st => if validB T p then chk T n (placesB p ++ st) else some p.path
end Wc

set_option Elab.async false
set_option linter.all false
set_option maxRecDepth 100000
set_option maxHeartbeats 1000000
/-! bodies: which forms are valid; how far a check comes; pure trees -/
namespace Wc
open PySem PySem.Spec PyProof.Rows L2
/-! ### trees of texts, integers and tuples alone -/
mutual
def pureD : Dt → Bool
  | .str s => decide (s.length ≤ 1000) && PyData.strOk s
  | .int _ => true
  | .oth => false
  | .tup l => decide (l.length ≤ 1000) && pureDs l
def pureDs : List Dt → Bool
  | [] => true
  | d :: l => pureD d && pureDs l
end
mutual
theorem dtMo {K : PySem.W.Frag} {H H' : Hp} (e : Mo H H') : ∀ (d : Dt) (v : V), pureD d = true → DtAt K H v d → DtAt K H' v d
  | .str s, _, _, h => by
    cases h with
    | str h => exact .str h
  | .int i, _, _, h => by
    cases h with
    | int => exact .int _
  | .oth, v, p, _ => by cases p
  | .tup ds, _, p, h => by
    cases h with
    | tup h hl t => exact .tup (e _ _ rfl h) hl (dtMoA e ds _ (He.ba (show (decide (ds.length ≤ 1000) && pureDs ds) = true from p)).2 t)
theorem dtMoA {K : PySem.W.Frag} {H H' : Hp} (e : Mo H H') : ∀ (ds : List Dt) (vs : List V), pureDs ds = true → DtAll K H vs ds → DtAll K H' vs ds
  | [], _, _, h => by
    cases h
    exact .nil
  | d :: ds, _, p, h => by
    obtain ⟨p1, p2⟩ := He.ba (show (pureD d && pureDs ds) = true from p)
    cases h with
    | cons h t => exact .cons (dtMo e d _ p1 h) (dtMoA e ds _ p2 t)
end
mutual
/-- as a key -/
def keyOf : Dt → NK
  | .str s => .text s
  | .int i => .num i
  | .oth => .none
  | .tup l => .tup (keysOf l)
def keysOf : List Dt → List NK
  | [] => []
  | d :: l => keyOf d :: keysOf l
end
mutual
theorem keyAt {K : PySem.W.Frag} {H : Hp} : ∀ (d : Dt) (v : V), pureD d = true → DtAt K H v d → KeyV H v (keyOf d)
  | .str s, _, _, h => by
    cases h with
    | str h => exact .str _
  | .int i, _, _, h => by
    cases h with
    | int => exact .int _
  | .oth, v, p, _ => by cases p
  | .tup ds, _, p, h => by
    cases h with
    | tup h hl t => exact .tup h (keyAtA ds _ (He.ba (show (decide (ds.length ≤ 1000) && pureDs ds) = true from p)).2 t)
theorem keyAtA {K : PySem.W.Frag} {H : Hp} : ∀ (ds : List Dt) (vs : List V), pureDs ds = true → DtAll K H vs ds → KeyVs H vs (keysOf ds)
  | [], _, _, h => by
    cases h
    exact .nil
  | d :: ds, _, p, h => by
    obtain ⟨p1, p2⟩ := He.ba (show (pureD d && pureDs ds) = true from p)
    cases h with
    | cons h t => exact .cons (keyAt d _ p1 h) (keyAtA ds _ p2 t)
end
mutual
/-- how deep tuples are nested -/
def dep : Dt → Nat
  | .tup l => deps l + 1
  | _ => 0
def deps : List Dt → Nat
  | [] => 0
  | d :: l => max (dep d) (deps l)
end
mutual
/-- as data -/
def datD : Dt → PyData
  | .str s => .str s
  | .int i => .int i
  | .oth => .none
  | .tup l => .tuple (datDs l)
def datDs : List Dt → List PyData
  | [] => []
  | d :: l => datD d :: datDs l
end
mutual
theorem datAt {K : PySem.W.Frag} {H : Hp} : ∀ (d : Dt) (v : V), pureD d = true → DtAt K H v d → Dp K H v (datD d)
  | .str s, _, _, h => by
    cases h with
    | str h => exact .str _
  | .int i, _, _, h => by
    cases h with
    | int => exact .int _
  | .oth, v, p, _ => by cases p
  | .tup ds, _, p, h => by
    cases h with
    | tup h hl t => exact .tup (SqT.of h) (datAtA ds _ (He.ba (show (decide (ds.length ≤ 1000) && pureDs ds) = true from p)).2 t)
theorem datAtA {K : PySem.W.Frag} {H : Hp} : ∀ (ds : List Dt) (vs : List V), pureDs ds = true → DtAll K H vs ds → DpAll K H vs (datDs ds)
  | [], _, _, h => by
    cases h
    exact .nil
  | d :: ds, _, p, h => by
    obtain ⟨p1, p2⟩ := He.ba (show (pureD d && pureDs ds) = true from p)
    cases h with
    | cons h t => exact .cons (datAt d _ p1 h) (datAtA ds _ p2 t)
end
mutual
theorem datD_can : ∀ d : Dt, pureD d = true → PyData.canLay0 (datD d) = true
  | .str s, p => by
    show PyData.canLay0 (.str s) = true
    simpa [PyData.canLay0] using (He.ba (show (decide (s.length ≤ 1000) && PyData.strOk s) = true from p)).2
  | .int i, _ => rfl
  | .oth, p => by cases p
  | .tup l, p => by
    show PyData.canLay0 (.tuple (datDs l)) = true
    simpa [PyData.canLay0] using datDs_can l (He.ba (show (decide (l.length ≤ 1000) && pureDs l) = true from p)).2
theorem datDs_can : ∀ l : List Dt, pureDs l = true → PyData.canLayAll0 (datDs l) = true
  | [], _ => rfl
  | d :: l, p => by
    obtain ⟨p1, p2⟩ := He.ba (show (pureD d && pureDs l) = true from p)
    show (PyData.canLay0 (datD d) && PyData.canLayAll0 (datDs l)) = true
    rw [datD_can d p1, datDs_can l p2] <;> rfl
end
mutual
theorem datD_dep : ∀ d : Dt, PyData.depth (datD d) = dep d
  | .str s => rfl
  | .int i => rfl
  | .oth => rfl
  | .tup l => by
    show PyData.depthAll (datDs l) + 1 = deps l + 1
    rw [datDs_dep l]
theorem datDs_dep : ∀ l : List Dt, PyData.depthAll (datDs l) = deps l
  | [] => rfl
  | d :: l => by
    show max (PyData.depth (datD d)) (PyData.depthAll (datDs l)) = max (dep d) (deps l)
    rw [datD_dep d, datDs_dep l]
end
theorem shapedD {d : Dt} (p : pureD d = true) (h : dep d ≤ 64) : SeqAt.shaped (datD d) = true := by
  show (PyData.canLay0 (datD d) && decide (PyData.depth (datD d) ≤ 64)) = true
  rw [datD_can d p, datD_dep d, decide_eq_true h] <;> rfl
/-! ### which forms are valid -/
theorem w_int : isCallW "int" = false ∧ ("int" : Str) ≠ "new" ∧ (assocV LENS "int").getD 0 = 2 := by decide +kernel
theorem w_arg : isCallW "arg" = false ∧ ("arg" : Str) ≠ "new" ∧ (assocV LENS "arg").getD 0 = 2 ∧ ("arg" : Str) ≠ "int" := by decide +kernel
theorem w_name : isCallW "name" = false ∧ ("name" : Str) ≠ "new" ∧ (assocV LENS "name").getD 0 = 2 ∧ ("name" : Str) ≠ "int" ∧ ("name" : Str) ≠ "arg" := by decide +kernel
theorem w_let : isCallW "let" = false ∧ ("let" : Str) ≠ "new" ∧ (assocV LENS "let").getD 0 = 4 ∧ ¬ (("let" : Str) = "int" ∨ ("let" : Str) = "arg" ∨ ("let" : Str) = "name") := by decide +kernel
theorem w_field : isCallW "field" = false ∧ ("field" : Str) ≠ "new" ∧ (assocV LENS "field").getD 0 = 3 ∧ ¬ (("field" : Str) = "int" ∨ ("field" : Str) = "arg" ∨ ("field" : Str) = "name") ∧ ("field" : Str) ≠ "let" := by decide +kernel
theorem w_is : isCallW "is" = false ∧ ("is" : Str) ≠ "new" ∧ (assocV LENS "is").getD 0 = 3 ∧ ¬ (("is" : Str) = "int" ∨ ("is" : Str) = "arg" ∨ ("is" : Str) = "name") ∧ ("is" : Str) ≠ "let" ∧ ("is" : Str) ≠ "field" := by decide +kernel
theorem w_add : isCallW "add" = false ∧ ("add" : Str) ≠ "new" ∧ (assocV LENS "add").getD 0 = 3 ∧ ¬ (("add" : Str) = "int" ∨ ("add" : Str) = "arg" ∨ ("add" : Str) = "name") ∧ ("add" : Str) ≠ "let" ∧ ("add" : Str) ≠ "field" ∧ ("add" : Str) ≠ "is" ∧ ("add" : Str) ≠ "define" := by decide +kernel
theorem w_less : isCallW "less" = false ∧ ("less" : Str) ≠ "new" ∧ (assocV LENS "less").getD 0 = 3 ∧ ¬ (("less" : Str) = "int" ∨ ("less" : Str) = "arg" ∨ ("less" : Str) = "name") ∧ ("less" : Str) ≠ "let" ∧ ("less" : Str) ≠ "field" ∧ ("less" : Str) ≠ "is" ∧ ("less" : Str) ≠ "define" := by decide +kernel
theorem w_if : isCallW "if" = false ∧ ("if" : Str) ≠ "new" ∧ (assocV LENS "if").getD 0 = 4 ∧ ¬ (("if" : Str) = "int" ∨ ("if" : Str) = "arg" ∨ ("if" : Str) = "name") ∧ ("if" : Str) ≠ "let" ∧ ("if" : Str) ≠ "field" ∧ ("if" : Str) ≠ "is" ∧ ("if" : Str) ≠ "define" := by decide +kernel
theorem w_define : isCallW "define" = false ∧ ("define" : Str) ≠ "new" ∧ (assocV LENS "define").getD 0 = 4 ∧ ¬ (("define" : Str) = "int" ∨ ("define" : Str) = "arg" ∨ ("define" : Str) = "name") ∧ ("define" : Str) ≠ "let" ∧ ("define" : Str) ≠ "field" ∧ ("define" : Str) ≠ "is" := by decide +kernel
theorem w_new : isCallW "new" = false ∧ (assocV LENS "new").getD 0 = 0 := by decide +kernel
section
variable {T : List Cl} {p : List Nat} {c : Nat} {ns : List Str} {a b d e : Dt} {x y : Str}
/-- what is left of the form where it is neither a call nor a new part -/
theorem formB_of {pl : Pl} {w : Str} {l : List Dt} (h1 : isCallW w = false) (h2 : w ≠ "new") : formB T pl w l = (decide ((assocV LENS w).getD 0 = l.length) && (
    if w = "int" ∨ w = "arg" ∨ w = "name" then leafB pl.count pl.names w (l.getD 1 .oth)
    else if w = "let" then nameD (l.getD 1 .oth)
    else if w = "field" then nameD (l.getD 2 .oth)
    else if w = "is" then clsD T (l.getD 2 .oth)
    else (!decide (w = "define") || (nameD (l.getD 1 .oth) && sigD T (l.getD 2 .oth))))) := by
  unfold formB callB newB
  rw [h1, decide_eq_false h2]
  rfl
theorem v_int {i : Int} : validB T ⟨.tup [.str "int", .int i], p, c, ns⟩ = (decide ((-1000000000 : Int) ≤ i) && decide (i ≤ 1000000000)) := by
  show formB T _ "int" [.str "int", .int i] = _
  rw [formB_of w_int.1 w_int.2.1, w_int.2.2, if_pos (.inl rfl)]
  show leafB c ns "int" (.int i) = _
  unfold leafB
  rw [if_pos rfl] <;> rfl
theorem v_arg {i : Int} : validB T ⟨.tup [.str "arg", .int i], p, c, ns⟩ = (decide (0 ≤ i) && decide (i ≤ (c : Int) - 1)) := by
  show formB T _ "arg" [.str "arg", .int i] = _
  rw [formB_of w_arg.1 w_arg.2.1, w_arg.2.2.1, if_pos (.inr (.inl rfl))]
  show leafB c ns "arg" (.int i) = _
  unfold leafB
  rw [if_neg w_arg.2.2.2, if_pos rfl] <;> rfl
theorem v_name : validB T ⟨.tup [.str "name", .str x], p, c, ns⟩ = (nameS x && ns.contains x) := by
  show formB T _ "name" [.str "name", .str x] = _
  rw [formB_of w_name.1 w_name.2.1, w_name.2.2.1, if_pos (.inr (.inr rfl))]
  show leafB c ns "name" (.str x) = _
  unfold leafB
  rw [if_neg w_name.2.2.2.1, if_neg w_name.2.2.2.2] <;> rfl
theorem v_let : validB T ⟨.tup [.str "let", a, b, d], p, c, ns⟩ = nameD a := by
  show formB T _ "let" [.str "let", a, b, d] = _
  rw [formB_of w_let.1 w_let.2.1, w_let.2.2.1, if_neg w_let.2.2.2, if_pos rfl] <;> rfl
theorem v_field : validB T ⟨.tup [.str "field", a, b], p, c, ns⟩ = nameD b := by
  show formB T _ "field" [.str "field", a, b] = _
  rw [formB_of w_field.1 w_field.2.1, w_field.2.2.1, if_neg w_field.2.2.2.1, if_neg w_field.2.2.2.2, if_pos rfl] <;> rfl
theorem v_is : validB T ⟨.tup [.str "is", a, b], p, c, ns⟩ = clsD T b := by
  show formB T _ "is" [.str "is", a, b] = _
  rw [formB_of w_is.1 w_is.2.1, w_is.2.2.1, if_neg w_is.2.2.2.1, if_neg w_is.2.2.2.2.1, if_neg w_is.2.2.2.2.2, if_pos rfl] <;> rfl
theorem v_add : validB T ⟨.tup [.str "add", a, b], p, c, ns⟩ = true := by
  show formB T _ "add" [.str "add", a, b] = _
  obtain ⟨h1, h2, h3, h4, h5, h6, h7, h8⟩ := w_add
  rw [formB_of h1 h2, h3, if_neg h4, if_neg h5, if_neg h6, if_neg h7, decide_eq_false h8] <;> rfl
theorem v_less : validB T ⟨.tup [.str "less", a, b], p, c, ns⟩ = true := by
  show formB T _ "less" [.str "less", a, b] = _
  obtain ⟨h1, h2, h3, h4, h5, h6, h7, h8⟩ := w_less
  rw [formB_of h1 h2, h3, if_neg h4, if_neg h5, if_neg h6, if_neg h7, decide_eq_false h8] <;> rfl
theorem v_if : validB T ⟨.tup [.str "if", a, b, d], p, c, ns⟩ = true := by
  show formB T _ "if" [.str "if", a, b, d] = _
  obtain ⟨h1, h2, h3, h4, h5, h6, h7, h8⟩ := w_if
  rw [formB_of h1 h2, h3, if_neg h4, if_neg h5, if_neg h6, if_neg h7, decide_eq_false h8] <;> rfl
theorem v_define : validB T ⟨.tup [.str "define", a, b, d], p, c, ns⟩ = (nameD a && sigD T b) := by
  show formB T _ "define" [.str "define", a, b, d] = _
  obtain ⟨h1, h2, h3, h4, h5, h6, h7⟩ := w_define
  rw [formB_of h1 h2, h3, if_neg h4, if_neg h5, if_neg h6, if_neg h7, decide_eq_true rfl] <;> rfl
theorem v_call {w : Str} {l : List Dt} (h : isCallW w = true) (hx : nameD a = true) (hl : l.length = 1 ∨ l.length = 2) : validB T ⟨.tup (.str w :: a :: l), p, c, ns⟩ = true := by
  show formB T _ w (.str w :: a :: l) = _
  unfold formB
  have e : callB w (.str w :: a :: l) = true := by
    unfold callB
    rw [h]
    show (true && ((decide (l.length + 1 + 1 = 3) || decide (l.length + 1 + 1 = 4)) && nameD a)) = true
    rw [hx]
    rcases hl with q | q <;> rw [q] <;> rfl
  rw [e] <;> rfl
theorem isCall_call : isCallW "call" = true ∧ isCallW "newest" = true := by decide +kernel
theorem pl_leaf {w : Str} {l : List Dt} (h : withinI w (l.length + 1) = []) : placesB ⟨.tup (.str w :: l), p, c, ns⟩ = [] := by
  show (withinI w (l.length + 1)).map _ = []
  rw [h] <;> rfl
theorem in_int : withinI "int" 2 = [] ∧ withinI "arg" 2 = [] ∧ withinI "name" 2 = [] := by decide +kernel
theorem in_two : withinI "let" 4 = [2, 3] ∧ withinI "field" 3 = [1] ∧ withinI "is" 3 = [1] ∧ withinI "add" 3 = [1, 2] ∧ withinI "less" 3 = [1, 2] ∧ withinI "if" 4 = [1, 2, 3] ∧ withinI "define" 4 = [3] := by decide +kernel
theorem in_call {w : Str} (h : isCallW w = true) : withinI w 3 = [2] ∧ withinI w 4 = [2, 3] := by
  unfold withinI
  rw [if_pos (.inl h), if_pos (.inl h)]
  exact ⟨rfl, rfl⟩
theorem placeAt_plain {pl : Pl} {w : Str} {l : List Dt} {i : Nat} (n : w ≠ "define") (m : ¬ (w = "let" ∧ i = 3)) : placeAt pl w l i = ⟨l.getD i .oth, pl.path ++ [i], pl.count, pl.names⟩ := by
  unfold placeAt
  rw [if_neg n, if_neg n, if_neg m]
theorem p_let : placesB ⟨.tup [.str "let", .str x, b, d], p, c, ns⟩ = [⟨b, p ++ [2], c, ns⟩, ⟨d, p ++ [3], c, ns ++ [x]⟩] := by
  show (withinI "let" 4).map (placeAt _ "let" [.str "let", .str x, b, d]) = _
  rw [in_two.1]
  have n : ("let" : Str) ≠ "define" := by decide +kernel
  show [placeAt _ "let" _ 2, placeAt _ "let" _ 3] = _
  rw [placeAt_plain n (fun z => absurd z.2 (by decide))]
  unfold placeAt
  rw [if_neg n, if_neg n, if_pos ⟨rfl, rfl⟩] <;> rfl
theorem p_field : placesB ⟨.tup [.str "field", a, b], p, c, ns⟩ = [⟨a, p ++ [1], c, ns⟩] := by
  show (withinI "field" 3).map (placeAt _ "field" [.str "field", a, b]) = _
  rw [in_two.2.1]
  have n : ("field" : Str) ≠ "define" := by decide +kernel
  have m : ("field" : Str) ≠ "let" := by decide +kernel
  show [placeAt _ "field" _ 1] = _
  rw [placeAt_plain n (fun z => m z.1)] <;> rfl
theorem p_is : placesB ⟨.tup [.str "is", a, b], p, c, ns⟩ = [⟨a, p ++ [1], c, ns⟩] := by
  show (withinI "is" 3).map (placeAt _ "is" [.str "is", a, b]) = _
  rw [in_two.2.2.1]
  have n : ("is" : Str) ≠ "define" := by decide +kernel
  have m : ("is" : Str) ≠ "let" := by decide +kernel
  show [placeAt _ "is" _ 1] = _
  rw [placeAt_plain n (fun z => m z.1)] <;> rfl
theorem p_add : placesB ⟨.tup [.str "add", a, b], p, c, ns⟩ = [⟨a, p ++ [1], c, ns⟩, ⟨b, p ++ [2], c, ns⟩] := by
  show (withinI "add" 3).map (placeAt _ "add" [.str "add", a, b]) = _
  rw [in_two.2.2.2.1]
  have n : ("add" : Str) ≠ "define" := by decide +kernel
  have m : ("add" : Str) ≠ "let" := by decide +kernel
  show [placeAt _ "add" _ 1, placeAt _ "add" _ 2] = _
  rw [placeAt_plain n (fun z => m z.1), placeAt_plain n (fun z => m z.1)] <;> rfl
theorem p_less : placesB ⟨.tup [.str "less", a, b], p, c, ns⟩ = [⟨a, p ++ [1], c, ns⟩, ⟨b, p ++ [2], c, ns⟩] := by
  show (withinI "less" 3).map (placeAt _ "less" [.str "less", a, b]) = _
  rw [in_two.2.2.2.2.1]
  have n : ("less" : Str) ≠ "define" := by decide +kernel
  have m : ("less" : Str) ≠ "let" := by decide +kernel
  show [placeAt _ "less" _ 1, placeAt _ "less" _ 2] = _
  rw [placeAt_plain n (fun z => m z.1), placeAt_plain n (fun z => m z.1)] <;> rfl
theorem p_if : placesB ⟨.tup [.str "if", a, b, d], p, c, ns⟩ = [⟨a, p ++ [1], c, ns⟩, ⟨b, p ++ [2], c, ns⟩, ⟨d, p ++ [3], c, ns⟩] := by
  show (withinI "if" 4).map (placeAt _ "if" [.str "if", a, b, d]) = _
  rw [in_two.2.2.2.2.2.1]
  have n : ("if" : Str) ≠ "define" := by decide +kernel
  have m : ("if" : Str) ≠ "let" := by decide +kernel
  show [placeAt _ "if" _ 1, placeAt _ "if" _ 2, placeAt _ "if" _ 3] = _
  rw [placeAt_plain n (fun z => m z.1), placeAt_plain n (fun z => m z.1), placeAt_plain n (fun z => m z.1)] <;> rfl
theorem p_define {l : List Dt} : placesB ⟨.tup [.str "define", a, .tup l, d], p, c, ns⟩ = [⟨d, p ++ [3], l.length, []⟩] := by
  show (withinI "define" 4).map (placeAt _ "define" [.str "define", a, .tup l, d]) = _
  rw [in_two.2.2.2.2.2.2]
  show [placeAt _ "define" _ 3] = _
  unfold placeAt
  rw [if_pos rfl, if_pos rfl] <;> rfl
theorem call_ne {w : Str} (h : isCallW w = true) : w ≠ "define" ∧ w ≠ "let" := by
  refine ⟨fun e => ?_, fun e => ?_⟩ <;> (rw [e] at h; revert h; decide +kernel)
theorem p_call1 {w : Str} (h : isCallW w = true) : placesB ⟨.tup [.str w, a, b], p, c, ns⟩ = [⟨b, p ++ [2], c, ns⟩] := by
  show (withinI w 3).map (placeAt _ w [.str w, a, b]) = _
  obtain ⟨n, m⟩ := call_ne h
  rw [(in_call h).1]
  show [placeAt _ w _ 2] = _
  rw [placeAt_plain n (fun z => m z.1)] <;> rfl
theorem p_call2 {w : Str} (h : isCallW w = true) : placesB ⟨.tup [.str w, a, b, d], p, c, ns⟩ = [⟨b, p ++ [2], c, ns⟩, ⟨d, p ++ [3], c, ns⟩] := by
  show (withinI w 4).map (placeAt _ w [.str w, a, b, d]) = _
  obtain ⟨n, m⟩ := call_ne h
  rw [(in_call h).2]
  show [placeAt _ w _ 2, placeAt _ w _ 3] = _
  rw [placeAt_plain n (fun z => m z.1), placeAt_plain n (fun z => m z.1)] <;> rfl
theorem v_new {l : List Dt} : validB T ⟨.tup (.str "new" :: .str x :: l), p, c, ns⟩ = (clsD T (.str x) && (!decide (x = "int") && decide (l.length = fieldsOf T (.str x)))) := by
  show formB T _ "new" (.str "new" :: .str x :: l) = _
  unfold formB callB newB
  rw [w_new.1, w_new.2, decide_eq_true rfl]
  have e1 : decide (0 = (Dt.str "new" :: Dt.str x :: l).length) = false := decide_eq_false (by simp)
  rw [e1]
  have e2 : decide (2 ≤ (Dt.str "new" :: Dt.str x :: l).length) = true := decide_eq_true (by simp)
  rw [e2]
  have e3 : decide ((Dt.str "new" :: Dt.str x :: l).length = 2 + fieldsOf T (.str x)) = decide (l.length = fieldsOf T (.str x)) := by
    rw [List.length_cons, List.length_cons]
    by_cases h : l.length = fieldsOf T (.str x)
    · rw [decide_eq_true h, decide_eq_true (by omega)]
    · rw [decide_eq_false h, decide_eq_false (by omega)]
  show (false && _ || (true && (true && (clsD T (.str x) && (!isStrD "int" (.str x) && decide ((Dt.str "new" :: Dt.str x :: l).length = 2 + fieldsOf T (.str x))))) || false && _)) = _
  rw [e3]
  show (false || ((clsD T (.str x) && (!decide (x = "int") && decide (l.length = fieldsOf T (.str x)))) || false)) = _
  rw [Bool.or_false, Bool.false_or]
theorem p_new {l : List Dt} : placesB ⟨.tup (.str "new" :: .str x :: l), p, c, ns⟩ = (List.range l.length).map fun i => ⟨l.getD i .oth, p ++ [i + 2], c, ns⟩ := by
  show (withinI "new" (l.length + 1 + 1)).map (placeAt _ "new" (.str "new" :: .str x :: l)) = _
  have e : withinI "new" (l.length + 1 + 1) = (List.range l.length).map (· + 2) := by
    unfold withinI
    rw [if_pos (.inr rfl)]
    rfl
  rw [e, List.map_map]
  refine List.map_congr_left fun i _ => ?_
  exact placeAt_plain (by decide +kernel) (fun z => absurd z.1 (by decide +kernel))
/-! ### how far a check comes -/
/-- what the check makes of a place within k parts, whatever waits behind it -/
def Does (T : List Cl) (p : Pl) (k : Nat) (r : Option (List Nat)) : Prop := ∀ n st, k ≤ n → chk T n (p :: st) = match r with | none => chk T (n - k) st | some q => some q
def DoesL (T : List Cl) (ps : List Pl) (k : Nat) (r : Option (List Nat)) : Prop := ∀ n st, k ≤ n → chk T n (ps ++ st) = match r with | none => chk T (n - k) st | some q => some q
theorem DoesL.nil : DoesL T [] 0 none := fun n st _ => rfl
theorem DoesL.cons {pl : Pl} {ps : List Pl} {j k : Nat} {r : Option (List Nat)} (h : Does T pl k none) (t : DoesL T ps j r) : DoesL T (pl :: ps) (k + j) r := fun n st hn => by
  rw [List.cons_append, h n (ps ++ st) (by omega)]
  show chk T (n - k) (ps ++ st) = _
  rw [t (n - k) st (by omega), Nat.sub_sub]
theorem DoesL.bad {pl : Pl} {ps : List Pl} {k : Nat} {q : List Nat} (h : Does T pl k (some q)) : DoesL T (pl :: ps) k (some q) := fun n st hn => by
  rw [List.cons_append]
  exact h n (ps ++ st) hn
theorem DoesL.one {pl : Pl} {k : Nat} {r : Option (List Nat)} (h : Does T pl k r) : DoesL T [pl] k r := fun n st hn => h n st hn
theorem Does.cast {pl : Pl} {j k : Nat} {r : Option (List Nat)} (h : Does T pl k r) (e : k = j) : Does T pl j r := e ▸ h
theorem DoesL.le {ps : List Pl} {k j : Nat} {q : List Nat} (h : DoesL T ps k (some q)) (e : k ≤ j) : DoesL T ps j (some q) := fun n st hn => h n st (Nat.le_trans e hn)
theorem Does.le {pl : Pl} {k j : Nat} {q : List Nat} (h : Does T pl k (some q)) (e : k ≤ j) : Does T pl j (some q) := fun n st hn => h n st (Nat.le_trans e hn)
theorem Does.node {pl : Pl} {k : Nat} {r : Option (List Nat)} (v : validB T pl = true) (h : DoesL T (placesB pl) k r) : Does T pl (k + 1) r := fun n st hn => by
  cases n with
  | zero => omega
  | succ n =>
    show (if validB T pl = true then chk T n (placesB pl ++ st) else some pl.path) = _
    rw [if_pos v, h n st (by omega), Nat.succ_sub_succ]
theorem Does.leaf {pl : Pl} (v : validB T pl = true) (h : placesB pl = []) : Does T pl 1 none := Does.node v (by rw [h]; exact DoesL.nil)
theorem Does.no {pl : Pl} (v : validB T pl = false) : Does T pl 1 (some pl.path) := fun n st hn => by
  cases n with
  | zero => omega
  | succ n =>
    show (if validB T pl = true then chk T n (placesB pl ++ st) else some pl.path) = _
    rw [v, if_neg Bool.false_ne_true]
theorem Does.end_ {pl : Pl} {k n : Nat} {r : Option (List Nat)} (h : Does T pl k r) (hk : k ≤ n) : chk T n [pl] = r := by
  rw [h n [] hk]
  cases r with
  | none => cases n - k <;> rfl
  | some q => rfl
theorem does_int {i : Int} (h1 : -1000000000 ≤ i) (h2 : i ≤ 1000000000) : Does T ⟨.tup [.str "int", .int i], p, c, ns⟩ 1 none :=
  .leaf (by rw [v_int, decide_eq_true h1, decide_eq_true h2] <;> rfl) (pl_leaf in_int.1)
theorem does_arg {i : Int} : Does T ⟨.tup [.str "arg", .int i], p, c, ns⟩ 1 (if 0 ≤ i ∧ i < c then none else some p) := by
  by_cases h : 0 ≤ i ∧ i < c
  · rw [if_pos h]
    exact .leaf (by rw [v_arg, decide_eq_true h.1, decide_eq_true (show i ≤ (c : Int) - 1 by omega)] <;> rfl) (pl_leaf in_int.2.1)
  · rw [if_neg h]
    refine Does.no (pl := ⟨.tup [.str "arg", .int i], p, c, ns⟩) ?_
    rw [v_arg]
    by_cases h0 : 0 ≤ i
    · rw [decide_eq_false (show ¬ i ≤ (c : Int) - 1 by omega), Bool.and_false]
    · rw [decide_eq_false h0, Bool.false_and]
theorem does_name (hx : nameS x = true) : Does T ⟨.tup [.str "name", .str x], p, c, ns⟩ 1 (if ns.contains x = true then none else some p) := by
  by_cases h : ns.contains x = true
  · rw [if_pos h]
    exact .leaf (by rw [v_name, hx, h] <;> rfl) (pl_leaf in_int.2.2)
  · rw [if_neg h]
    refine Does.no (pl := ⟨.tup [.str "name", .str x], p, c, ns⟩) ?_
    rw [v_name, Bool.eq_false_iff.mpr h, Bool.and_false]
/-- many parts that are each one valid part -/
theorem doesL_ones : ∀ {ps : List Pl}, (∀ pl, pl ∈ ps → Does T pl 1 none) → DoesL T ps ps.length none
  | [], _ => DoesL.nil
  | pl :: ps, h => by
    have t := doesL_ones (ps := ps) fun q hq => h q (List.mem_cons_of_mem _ hq)
    have g := DoesL.cons (h pl List.mem_cons_self) t
    rw [List.length_cons, Nat.add_comm]
    exact g
end
end Wc

set_option Elab.async false
set_option linter.all false
set_option maxRecDepth 100000
set_option maxHeartbeats 4000000
/-! a tuple times an int, once, too -/
namespace Wc
open PySem PySem.Spec PyProof.Rows L2
theorem tuple_mul1 (l : Addr) (items : Array Value) (n : Nat) (dd : Option Addr) (sl : Array (Option Value)) (u : Tok) :
    Meets (Builtin.«tuple.__mul__» ⟨[.ref l, .int 1 u], []⟩) (fun _ R s => s.heap.get? l = some { cls := .type "tuple", dict := dd, data := .seq items n, slots := sl } ∧
      R (.ok (.ret (Value.ref l))) s) :=
  .of_wp fun prog w A R s h => by
    obtain ⟨hp, g, d, tk, os⟩ := s
    obtain ⟨hl, h⟩ := h
    have f1 := AutoSeq1.idx_int
    have c1 : (items.isEmpty || ((1 : Int) == 1)) = true := by simp
    wp_walk using wpAny_loadPart' hl
    repeat (first
      | (refine wpAny_ite_true (decide_eq_true c1) ?_; wp_walk using wpAny_loadPart' hl)
      | (refine wpAny_ite_false (decide_eq_false (by decide)) ?_; wp_walk using wpAny_loadPart' hl))
    exact ⟨_, rfl, h⟩
/-- t * 1 is t; t * k a new one -/
def rRepA (K : PySem.W.Frag) : R2 := fun x y H Q => ∃ l k xs, x = .ref l ∧ y = .int k ∧ SqT K H l xs ∧ xs ≠ [] ∧ 1 ≤ k ∧ k ≤ 1000 ∧ xs.length ≤ 1000 ∧ (k = 1 → Q (.ref l) H) ∧ (k ≠ 1 → ∀ p, H p = none → Q (.ref p) (upd H p (.tup (List.replicate k.toNat xs).flatten)))
section
variable {X : Cx}
theorem op_repA : OpR X (binaryOp .Mult) (rRepA X.K) := by
  intro pins s σ H x y v u Q I rx ry h
  obtain ⟨l, k, xs, rfl, rfl, hT, hne, h1, h2, hz, q1, q2⟩ := h
  by_cases hk : k = 1
  · subst hk
    cases rx
    obtain ⟨t, rfl⟩ := ry
    obtain ⟨its, r, ⟨⟨cls, dd, data, sl⟩, ho, hc, n, hd⟩, hs⟩ := I.tuple hT
    simp only at hc hd
    subst hc hd
    refine wpAny_binaryOp_repeat_ref (T := "tuple") (U := "int") (by decide) ⟨_, ho, rfl⟩ (fun s' => typeIs_int s' 1 t) noFill_tuple_mul F.fills_int_mul F.slot_int_rmul repeat_tuple F.slot_int_index.lookup
      (call_meets F.slot_int_rmul (typeIs_int s 1 t) F.entry_int_rmul (F.args_int_rmul_2 _ _) (int_rmul_tuple 1 t l its.toArray n dd sl)
        ⟨ho, rfl, ⟨_, ho, rfl⟩, call_meets F.slot_tuple_mul ⟨_, ho, rfl⟩ F.entry_tuple_mul (F.args_tuple_mul_2 _ _) (tuple_mul1 l its.toArray n dd sl t) ⟨ho, ?_⟩⟩)
    exact ⟨.ref l, H, I, rfl, q1 rfl⟩
  · exact op_repT pins s σ H _ _ v u Q I rx ry ⟨l, k, xs, rfl, rfl, hT, hne, by omega, h2, hz, q2 hk⟩
end
theorem tuple_mul0 (l : Addr) (items : Array Value) (n : Nat) (dd : Option Addr) (sl : Array (Option Value)) (u : Tok) (hne : items.isEmpty = false) :
    Meets (Builtin.«tuple.__mul__» ⟨[.ref l, .int 0 u], []⟩) (fun _ R s => s.heap.get? l = some { cls := .type "tuple", dict := dd, data := .seq items n, slots := sl } ∧
      R (.ok (.ret (Value.ref s.heap.objs.size))) { s with heap := s.heap.push { cls := Value.type "tuple", data := Data.seq #[] }, toks := s.toks }) :=
  .of_wp fun prog w A R s h => by
    obtain ⟨hp, g, d, tk, os⟩ := s
    obtain ⟨hl, h⟩ := h
    have f1 := AutoSeq1.idx_int
    have c1 : (items.isEmpty || ((0 : Int) == 1)) = false := by rw [hne] <;> rfl
    wp_walk using wpAny_loadPart' hl
    repeat (first
      | (refine wpAny_ite_false (decide_eq_false (by rw [c1]; exact Bool.false_ne_true)) ?_; wp_walk using wpAny_loadPart' hl)
      | (refine wpAny_ite_true (decide_eq_true (by simp)) ?_; wp_walk using wpAny_loadPart' hl)
      | (refine wpAny_ite_false (decide_eq_false (by decide)) ?_; wp_walk using wpAny_loadPart' hl))
    exact ⟨_, rfl, h⟩
/-- t * k, k not negative -/
def rRepZ (K : PySem.W.Frag) : R2 := fun x y H Q => ∃ l k xs, x = .ref l ∧ y = .int k ∧ SqT K H l xs ∧ xs ≠ [] ∧ 0 ≤ k ∧ k ≤ 1000 ∧ xs.length ≤ 1000 ∧ (k = 1 → Q (.ref l) H) ∧ (k ≠ 1 → ∀ p, H p = none → Q (.ref p) (upd H p (.tup (List.replicate k.toNat xs).flatten)))
section
variable {X : Cx}
theorem op_repZ : OpR X (binaryOp .Mult) (rRepZ X.K) := by
  intro pins s σ H x y v u Q I rx ry h
  obtain ⟨l, k, xs, rfl, rfl, hT, hne, h1, h2, hz, q1, q2⟩ := h
  by_cases hk : k = 0
  · subst hk
    cases rx
    obtain ⟨t, rfl⟩ := ry
    obtain ⟨its, r, ⟨⟨cls, dd, data, sl⟩, ho, hc, n, hd⟩, hs⟩ := I.tuple hT
    simp only at hc hd
    subst hc hd
    have hi : its.toArray.isEmpty = false := by
      cases its with
      | nil => exact absurd (List.eq_nil_of_length_eq_zero (by have := r.length; simpa using this)) hne
      | cons a b => rfl
    refine wpAny_binaryOp_repeat_ref (T := "tuple") (U := "int") (by decide) ⟨_, ho, rfl⟩ (fun s' => typeIs_int s' 0 t) noFill_tuple_mul F.fills_int_mul F.slot_int_rmul repeat_tuple F.slot_int_index.lookup
      (call_meets F.slot_int_rmul (typeIs_int s 0 t) F.entry_int_rmul (F.args_int_rmul_2 _ _) (int_rmul_tuple 0 t l its.toArray n dd sl)
        ⟨ho, rfl, ⟨_, ho, rfl⟩, call_meets F.slot_tuple_mul ⟨_, ho, rfl⟩ F.entry_tuple_mul (F.args_tuple_mul_2 _ _) (tuple_mul0 l its.toArray n dd sl t hi) ⟨ho, ?_⟩⟩)
    refine ⟨.ref s.heap.objs.size, _, I.laid (t' := s.toks) (o := .tup []) (fun b ob q => Heap.get?_push_of_some _ q) (Nat.le_refl _) ?_, rfl, q2 (by decide) _ (I.hok.fresh (Nat.le_refl _))⟩
    exact ⟨by simp, _, .nil, IsTup.new _ _⟩
  · exact op_repA pins s σ H _ _ v u Q I rx ry ⟨l, k, xs, rfl, rfl, hT, hne, by omega, h2, hz, q1, q2⟩
end
end Wc

set_option Elab.async false
set_option linter.all false
set_option maxRecDepth 100000
set_option maxHeartbeats 4000000
/-! the tree of drawn classes of the laws on bodies, in plain Lean -/
namespace Wc
open PySem PySem.Spec PyProof.Rows L2
def bkL : List Str := ["a", "b", "c", "d", "e"]
def bkN : List Str := (["any", "int"] : List Str) ++ bkL
theorem bkN_ok : ∀ z, z ∈ bkN → nameS z = true ∧ z.length ≤ 8 ∧ PyData.strOk z = true := by decide +kernel
def fldN (z : Str) : List Str := [z ++ "x", z ++ "y"]
theorem fldN_ok : ∀ z, z ∈ bkL → ∀ a, a ∈ fldN z → nameS a = true ∧ a.length ≤ 8 ∧ PyData.strOk a = true := by decide +kernel
theorem fldN_ne : ∀ q, q ∈ bkN → ∀ z, z ∈ bkL → q ≠ z → ∀ a, a ∈ fldN z → a ∉ fldN q := by decide +kernel
theorem fldN_xy : ∀ z, z ∈ bkL → (z ++ "x" : Str) ≠ z ++ "y" := by decide +kernel
theorem bkL_N : ∀ z, z ∈ bkL → z ∈ bkN ∧ z ≠ "int" ∧ z ≠ "any" := by decide +kernel
structure BK (T : List Cl) (n : Nat) : Prop where
  nd : (T.map (·.name)).Nodup
  nm : ∀ c, c ∈ T → c.name ∈ bkN
  tl : T.length = n + 2
  al : ∀ c, c ∈ T → c.all.length ≤ 4
  since : ∀ c, c ∈ T → c.since ≤ n
  int : ∃ c, findC T "int" = some c ∧ c.all = []
  any : ∃ c, findC T "any" = some c ∧ c.all = []
  ln : ∀ c, c ∈ T → ∃ l, Line T (some c.name) l ∧ l.length ≤ T.length
theorem BK.find {T : List Cl} {n : Nat} (w : BK T n) {c : Cl} (h : c ∈ T) : findC T c.name = some c := find_of w.nd h
theorem BK.start : BK [⟨"any", none, [], [], 0⟩, ⟨"int", some "any", [], [], 0⟩] 0 := by
  have f1 : findC [⟨"any", none, [], [], 0⟩, ⟨"int", some "any", [], [], 0⟩] "any" = some ⟨"any", none, [], [], 0⟩ := rfl
  have f2 : findC [⟨"any", none, [], [], 0⟩, ⟨"int", some "any", [], [], 0⟩] "int" = some ⟨"int", some "any", [], [], 0⟩ := rfl
  have two : ∀ {P : Cl → Prop}, P ⟨"any", none, [], [], 0⟩ → P ⟨"int", some "any", [], [], 0⟩ → ∀ c, c ∈ [(⟨"any", none, [], [], 0⟩ : Cl), ⟨"int", some "any", [], [], 0⟩] → P c := fun {P} h1 h2 c h => by
    simp at h
    rcases h with rfl | rfl
    · exact h1
    · exact h2
  exact ⟨by decide +kernel, two (by decide +kernel) (by decide +kernel), rfl, two (Nat.zero_le _) (Nat.zero_le _), two (Nat.le_refl _) (Nat.le_refl _), ⟨_, f2, rfl⟩, ⟨_, f1, rfl⟩, two ⟨["any"], .cons f1 .nil, by decide⟩ ⟨["int", "any"], .cons f2 (.cons f1 .nil), by decide⟩⟩
theorem BK.add {T : List Cl} {n : Nat} (w : BK T n) {z p : Str} {c : Cl} {xs : List V} (hz : findC T z = none) (ho : z ∈ bkL) (hp : findC T p = some c) (hx : c.all.length + xs.length ≤ 4) :
    BK (T ++ [⟨z, some p, xs, c.all ++ xs, n + 1⟩]) (n + 1) := by
  have cT := (find_mem hp).1
  have old : ∀ d, d ∈ T ++ [(⟨z, some p, xs, c.all ++ xs, n + 1⟩ : Cl)] → d ∈ T ∨ d = ⟨z, some p, xs, c.all ++ xs, n + 1⟩ := fun d h => by simpa using h
  have zn : z ∉ T.map (·.name) := fun m => by
    obtain ⟨d, hd, e⟩ := List.mem_map.mp m
    have := w.find hd
    rw [e, hz] at this
    cases this
  refine ⟨?_, fun d h => ?_, by rw [List.length_append, w.tl]; rfl, fun d h => ?_, fun d h => ?_, ?_, ?_, fun d h => ?_⟩
  · rw [List.map_append, List.nodup_append]
    refine ⟨w.nd, by simp, fun a ha b hb e => ?_⟩
    simp at hb
    rw [e, hb] at ha
    exact zn ha
  · rcases old d h with h | rfl
    · exact w.nm d h
    · exact (bkL_N z ho).1
  · rcases old d h with h | rfl
    · exact w.al d h
    · show (c.all ++ xs).length ≤ 4
      rw [List.length_append]
      exact hx
  · rcases old d h with h | rfl
    · have := w.since d h
      omega
    · exact Nat.le_refl _
  · obtain ⟨d, h, h2⟩ := w.int
    exact ⟨d, find_app h, h2⟩
  · obtain ⟨d, h, h2⟩ := w.any
    exact ⟨d, find_app h, h2⟩
  · rcases old d h with h | rfl
    · obtain ⟨l, h1, h2⟩ := w.ln d h
      exact ⟨l, h1.app, by rw [List.length_append]; omega⟩
    · obtain ⟨l, h1, h2⟩ := w.ln c cT
      rw [(find_mem hp).2] at h1
      exact ⟨z :: l, .cons (find_new (d := ⟨z, some p, xs, c.all ++ xs, n + 1⟩) hz) h1.app, by rw [List.length_append, List.length_cons]; show l.length + 1 ≤ T.length + 1; omega⟩
theorem BK.cls {T : List Cl} {n : Nat} (w : BK T n) {c : Cl} (h : c ∈ T) : clsV T (.str c.name) = true := by
  show (nameS c.name && (findC T c.name).isSome) = true
  rw [(bkN_ok _ (w.nm c h)).1, w.find h] <;> rfl
theorem BK.fresh {T : List Cl} {n : Nat} (w : BK T n) {z : Str} (h : z ∉ T.map (·.name)) : findC T z = none := by
  cases q : findC T z with
  | none => rfl
  | some c =>
    have h1 := find_mem q
    exact absurd (List.mem_map.mpr ⟨c, h1.1, h1.2⟩) h
/-- the law's book: a class, the one above and how many fields it has -/
def RowB (H : Hp) (c : Cl) (v : V) : Prop := ∃ t, v = .ref t ∧ H t = some (.tup [optV c.par, .int (c.all.length : Nat)])
theorem RowB.mo {H H' : Hp} {c : Cl} {v : V} (h : RowB H c v) (e : Mo H H') : RowB H' c v := by
  obtain ⟨t, rfl, h1⟩ := h
  exact ⟨t, rfl, e _ _ rfl h1⟩
/-- a field of a class: its name, a class -/
def FlB (H : Hp) (T : List Cl) (x : V) (a : Str) : Prop := ∃ t b, x = .ref t ∧ H t = some (.tup [.str a, .str b]) ∧ (∃ q, q ∈ T.map (·.name) ∧ q ∈ bkL ∧ a ∈ fldN q) ∧ b ∈ T.map (·.name)
theorem FlB.mo {H H' : Hp} {T : List Cl} {x : V} {a : Str} (h : FlB H T x a) (e : Mo H H') : FlB H' T x a := by
  obtain ⟨t, b, rfl, h1, h2, h3⟩ := h
  exact ⟨t, b, rfl, e _ _ rfl h1, h2, h3⟩
theorem FlB.app {H : Hp} {T : List Cl} {x : V} {a : Str} {d : Cl} (h : FlB H T x a) : FlB H (T ++ [d]) x a := by
  obtain ⟨t, b, rfl, h1, ⟨q, h2, h3⟩, h4⟩ := h
  exact ⟨t, b, rfl, h1, ⟨q, by rw [List.map_append]; exact List.mem_append_left _ h2, h3⟩, by rw [List.map_append]; exact List.mem_append_left _ h4⟩
def FlsAt (H : Hp) (T : List Cl) : Prop := ∀ c, c ∈ T → ∃ as, PySem.Paired (FlB H T) c.all as
theorem FlsAt.mo {H H' : Hp} {T : List Cl} (h : FlsAt H T) (e : Mo H H') : FlsAt H' T := fun c hc => by
  obtain ⟨as, h1⟩ := h c hc
  exact ⟨as, Paired.mapP h1 fun _ _ z => z.mo e⟩
theorem pairedApp {α β : Type} {R : α → β → Prop} {a c : List α} {b d : List β} (h : PySem.Paired R a b) (g : PySem.Paired R c d) : PySem.Paired R (a ++ c) (b ++ d) := by
  induction h with
  | nil => exact g
  | cons h _ ih => exact .cons h ih
theorem paired_mem {α β : Type} {R : α → β → Prop} {xs : List α} {ys : List β} (h : PySem.Paired R xs ys) : ∀ y, y ∈ ys → ∃ x, R x y := by
  induction h with
  | nil => intro y hy; cases hy
  | cons r _ ih =>
    intro y hy
    rcases List.mem_cons.mp hy with rfl | hy
    · exact ⟨_, r⟩
    · exact ih y hy
theorem FlsAt.add {H : Hp} {T : List Cl} {c : Cl} {z p : Str} {xs : List V} {bs : List Str} {m : Nat} (h : FlsAt H T) (hc : c ∈ T) (hx : PySem.Paired (FlB H (T ++ [⟨z, some p, xs, c.all ++ xs, m⟩])) xs bs) : FlsAt H (T ++ [⟨z, some p, xs, c.all ++ xs, m⟩]) := fun d hd => by
  rcases List.mem_append.mp hd with hd | hd
  · obtain ⟨as, h1⟩ := h d hd
    exact ⟨as, Paired.mapP h1 fun _ _ z => z.app⟩
  · obtain rfl : d = ⟨z, some p, xs, c.all ++ xs, m⟩ := by simpa using hd
    obtain ⟨as, h1⟩ := h c hc
    exact ⟨as ++ bs, pairedApp (Paired.mapP h1 fun _ _ z => z.app) hx⟩
/-- the names of fields above are none of a new class's own -/
theorem fld_new {H : Hp} {T : List Cl} {n : Nat} (w : BK T n) {xs : List V} {as : List Str} (h : PySem.Paired (FlB H T) xs as) {z : Str} (hz : findC T z = none) (ho : z ∈ bkL) {a : Str} (ha : a ∈ fldN z) : a ∉ as := fun m => by
  obtain ⟨x, t, b, rfl, h1, ⟨q, h2, h3, h4⟩, h5⟩ := paired_mem h a m
  refine fldN_ne q (bkL_N q h3).1 z ho (fun e => ?_) a ha h4
  subst e
  obtain ⟨d, hd, e⟩ := List.mem_map.mp h2
  have := w.find hd
  rw [e, hz] at this
  cases this
end Wc

set_option Elab.async false
set_option linter.all false
set_option maxRecDepth 100000
set_option maxHeartbeats 4000000
/-! comprehensions whose elements change the heap; over a dict's keys -/
namespace Wc
open PySem PySem.Spec PyProof.Rows L2
theorem lcP {J : It} {n : Nat} {G : Hp → Prop} {Y : Nat → Hp → V → Hp → Prop} {g : TG} {tt : TT} {te : TE} {vs : List Nat} {σ : L2.St} {Q : VK} {H : Hp} (w : Walk J n G Y) (Pv : Nat → List V → Hp → Prop) (h0 : Pv 0 [] H) (hn : n ≤ 100000)
    (stab : ∀ D i acc H' H'', H D = none → Mo H' H'' → Fr [D] H' H'' → Pv i acc H' → Pv i acc H'') (hG : ∀ i acc H', i ≤ n → Pv i acc H' → G H')
    (hs : ∀ (i : Nat) (x : V) (acc : List V) (H1 H2 : Hp) (D : Addr) (R : VK) (N : Hp → Prop), i < n → H D = none → H1 D = some (.lst acc) → Pv i acc H1 → Y i H1 x H2 → (∀ v H4, Pv (i + 1) (acc ++ [v]) H4 → H4 D = some (.lst acc) → R v H4) → (∀ H4, Pv (i + 1) acc H4 → H4 D = some (.lst acc) → N H4) →
      g x (wipe σ vs) H2 fun σ2 H3 => wipe σ2 vs = wipe σ vs ∧ tt σ2 H3 fun b H4 => if b = true then te σ2 H4 R else N H4)
    (q : ∀ D H' acc, H D = none → Pv n acc H' → H' D = some (.lst acc) → Q (.ref D) H') : LcJ J g tt te vs σ Q H := fun D hD =>
  lc_it w (fun i H' => ∃ acc, Pv i acc H' ∧ H' D = some (.lst acc) ∧ acc.length ≤ i) ⟨[], stab D 0 [] H _ hD (Ext.new hD).mo (Ext.new hD).fr h0, upd_same, Nat.le_refl _⟩ (fun i H' hi ⟨acc, p, _⟩ => hG i acc H' hi p)
    (fun i x H1 H2 hi ⟨acc, p, hd, hl⟩ y => hs i x acc H1 H2 D _ _ hi hD hd p y (fun v H4 p4 h4 => ⟨acc, h4, sz_lt (by omega), acc ++ [v], stab D _ _ _ _ hD (Mo.upd h4 rfl) (Fr.updE (by simp)) p4, upd_same, by rw [List.length_append]; simp; omega⟩) fun H4 p4 h4 => ⟨acc, p4, h4, by omega⟩)
    fun H' ⟨acc, p, hd, _⟩ => q D H' acc hD p hd
theorem r_lcK {g : TG} {tt : TT} {te td : TE} {vs : List Nat} {σ : L2.St} {H : Hp} {Q : VK} (h : td σ H fun x H1 => ∃ d o, x = .ref d ∧ ((∃ kvs, H1 d = some (.frz o (.dK kvs)) ∧ LcJ (Itk d o kvs) g tt te vs σ Q H1) ∨ ∃ kvs, H1 d = some (.frz o (.dT kvs)) ∧ LcJ (Itkt d o kvs) g tt te vs σ Q H1)) : tLc (iKeys td) g tt te vs σ H Q := h
/-- behind a locked read: what it made stands in the unlocked heap -/
theorem lock_out {H H' : Hp} {d : Addr} {od : Obj} {u : HO} (hd : H d = some u) (e : Ext (upd H d (.frz od u)) H') : Ext H (upd H' d u) := fun q o ha => by
  by_cases hq : q = d
  · rw [hq] at ha ⊢
    rw [upd_same, ← ha, hd]
  · rw [upd_ne hq]
    exact e _ _ (by rw [upd_ne hq]; exact ha)
/-- the names of a dict by the classes' names -/
theorem byn_keys {R : Cl → V → Prop} {T : List Cl} {kvs : List (Key × V)} (h : ByN R T kvs) : (kvs.map fun kv => kV kv.1) = (T.map (·.name)).map V.str := by
  unfold ByN at h
  induction h with
  | nil => rfl
  | cons a _ ih =>
    rw [List.map_cons, ih, a.1]
    rfl
theorem inV_strs' (z : Str) (l : List Str) : inV (.str z) (l.map V.str) = l.contains z := by
  induction l with
  | nil => rfl
  | cons a l ih =>
    have e : inV (.str z) (V.str a :: l.map V.str) = (eqV (.str a) (.str z) || inV (.str z) (l.map V.str)) := by
      simp [inV]
    rw [List.map_cons, e, ih, List.contains_cons]
    congr 1
    show (a == z) = (z == a)
    exact Bool.beq_comm
/-- a drawn field: its name, a class's name -/
def FlC (H : Hp) (T : List Cl) (x : V) (a : Str) : Prop := ∃ t b, x = .ref t ∧ H t = some (.tup [.str a, .str b]) ∧ b ∈ T.map (·.name)
theorem FlC.mo {H H' : Hp} {T : List Cl} {x : V} {a : Str} (h : FlC H T x a) (e : Mo H H') : FlC H' T x a := by
  obtain ⟨t, b, rfl, h1, h2⟩ := h
  exact ⟨t, b, rfl, e _ _ rfl h1, h2⟩
theorem paired_mapM {α β : Type} {R S : α → β → Prop} {xs : List α} {ys : List β} (h : PySem.Paired R xs ys) (f : ∀ x y, y ∈ ys → R x y → S x y) : PySem.Paired S xs ys := by
  induction h with
  | nil => exact .nil
  | cons r _ ih => exact .cons (f _ _ List.mem_cons_self r) (ih fun x y hy => f x y (List.mem_cons_of_mem _ hy))
theorem take_str {d : Nat} (h : d ≤ 2) (a b : V) : cutV [a, b] none (some (d : Int)) = [a, b].take d := by
  have h : d = 0 ∨ d = 1 ∨ d = 2 := by omega
  rcases h with rfl | rfl | rfl <;> rfl
theorem byn_at {R : Cl → V → Prop} {T : List Cl} {kvs : List (Key × V)} (h : ByN R T kvs) (nd : (T.map (·.name)).Nodup) {i : Nat} {x : Str} {v : V} (hk : kvs[i]? = some (.inr x, v)) : valV kvs (.inr x) = some v := by
  unfold ByN at h
  induction h generalizing i with
  | nil => simp at hk
  | @cons c kv T kvs h0 t ih =>
    rw [List.map_cons, List.nodup_cons] at nd
    unfold valV
    rw [List.find?_cons]
    cases i with
    | zero =>
      simp at hk
      subst hk
      rw [decide_eq_true rfl] <;> rfl
    | succ i =>
      have hk2 : kvs[i]? = some (.inr x, v) := by simpa using hk
      have ne : kv.1 ≠ .inr x := fun e => by
        obtain ⟨c2, hc2, h2, _⟩ := Wc.paired_get t hk2
        rw [h0.1] at e
        have e2 : c.name = x := Sum.inr.inj e
        have e3 : (Sum.inr x : Key) = .inr c2.name := h2
        exact nd.1 (List.mem_map.mpr ⟨c2, List.mem_of_getElem? hc2, by rw [e2]; exact (Sum.inr.inj e3).symm⟩)
      rw [decide_eq_false ne]
      exact ih nd.2 hk2
/-- a class's name, but int -/
def nonI (c : Cl) : Option V := if c.name = "int" then none else some (V.str c.name)
theorem nonI_int {c : Cl} (h : c.name = "int") : nonI c = none := if_pos h
theorem nonI_else {c : Cl} (h : c.name ≠ "int") : nonI c = some (V.str c.name) := if_neg h
theorem nonI_mem {T : List Cl} {y : V} (h : y ∈ T.filterMap nonI) : ∃ c, c ∈ T ∧ c.name ≠ "int" ∧ y = V.str c.name := by
  obtain ⟨c, hc, h2⟩ := List.mem_filterMap.mp h
  by_cases hi : c.name = "int"
  · rw [nonI_int hi] at h2
    cases h2
  · rw [nonI_else hi] at h2
    exact ⟨c, hc, hi, (Option.some.inj h2).symm⟩
/-- the names of the drawn classes, in their order -/
def six : List Str := ["any", "int", "a", "b", "c", "d"]
theorem six_at {i : Nat} (hi : i < 4) {z : Str} (hz : (["a", "b", "c", "d"] : List Str)[i]? = some z) : z ∉ six.take (i + 2) ∧ z ∈ bkL ∧ six.take (i + 2) ++ [z] = six.take (i + 1 + 2) := by
  have h : i = 0 ∨ i = 1 ∨ i = 2 ∨ i = 3 := by omega
  rcases h with rfl | rfl | rfl | rfl <;> (simp at hz; subst hz; decide +kernel)
end Wc

set_option Elab.async false
set_option linter.all false
set_option maxRecDepth 100000
set_option maxHeartbeats 1000000
/-! zip of a tuple and a list -/
namespace Wc
open PySem PySem.Spec PyProof.Rows L2
/-- the tuple at p and the list at q as they stand at each turn; new pairs -/
def Itm (K : PySem.W.Frag) (p q : Addr) : It where
  go := fun i H => ∃ us vs u v, SqT K H p us ∧ SqL K H q vs ∧ us[i]? = some u ∧ vs[i]? = some v
  yld := fun i H z H' => ∃ c u v, z = V.ref c ∧ H c = none ∧ H' = upd H c (.tup [u, v]) ∧ (∀ us, SqT K H p us → us[i]? = some u) ∧ ∀ vs, SqL K H q vs → vs[i]? = some v
  stop := fun i H => ∃ us vs : List V, SqT K H p us ∧ SqL K H q vs ∧ (us.length = i ∨ vs.length = i) ∧ i ≤ us.length ∧ i ≤ vs.length
def mAll (z ti to_ j1 j2 : Addr) : List Addr := [z, ti, to_, j1, j2]
/-- how the iterator stands at turn i -/
def mSt (p q z ti to_ j1 j2 : Addr) (i : Nat) (h : Heap) : Prop :=
  IsZip h z ti to_ .none ∧ IsTupOf2 h ti (.ref j1) (.ref j2) ∧ (∃ u v, IsTupOf2 h to_ u v) ∧ h.IsTupleIter j1 p i ∧ h.IsListIter j2 q i
theorem mAll_mem {z ti to_ j1 j2 c : Addr} (h : c ∈ mAll z ti to_ j1 j2) : c = z ∨ c = ti ∨ c = to_ ∨ c = j1 ∨ c = j2 := by simpa [mAll] using h
theorem mSt.get {p q z ti to_ j1 j2 : Addr} {i : Nat} {h : Heap} (st : mSt p q z ti to_ j1 j2 i h) {c : Addr} (hc : c ∈ mAll z ti to_ j1 j2) : ∃ o, h.get? c = some o ∧ ∀ v, o.data ≠ .cell v := by
  obtain ⟨a1, a2, ⟨u, v, a3⟩, ⟨o4, a4, _, d4⟩, ⟨o5, a5, _, d5⟩⟩ := st
  rcases mAll_mem hc with e | e | e | e | e <;> subst e
  · exact ⟨_, a1, fun _ n => (by cases n)⟩
  · exact ⟨_, a2, fun _ n => (by cases n)⟩
  · exact ⟨_, a3, fun _ n => (by cases n)⟩
  · exact ⟨_, a4, fun _ n => by rw [d4] at n; cases n⟩
  · exact ⟨_, a5, fun _ n => by rw [d5] at n; cases n⟩
theorem nAdd {N : Nat} (a b : Nat) (h : a ≠ b) : N + a ≠ N + b := fun e => h (Nat.add_left_cancel e)
theorem turn_mixed {P : Program} {w : World} {K : PySem.W.Frag} {es : List Expr} {n0 : Nat} {ps : Pos} {p q N : Addr} (hp : p < N) (hq : q < N) :
    Turn P w K (.Tuple es n0 ps) (Itm K p q) (mAll (N + 4) (N + 2) (N + 3) N (N + 1)) (N + 4) (mSt p q (N + 4) (N + 2) (N + 3) N (N + 1)) where
  mem := List.mem_cons_self
  obj := fun i h st c hc => st.get hc
  keep := fun i h g st k => by
    obtain ⟨a1, a2, ⟨u, v, a3⟩, a4, a5⟩ := st
    refine ⟨k _ (by simp [mAll]) _ a1, k _ (by simp [mAll]) _ a2, ⟨u, v, k _ (by simp [mAll]) _ a3⟩, ?_, ?_⟩
    · exact a4.at fun o => k _ (by simp [mAll]) o
    · exact a5.at fun o => k _ (by simp [mAll]) o
  item := by
    intro X e1 e2 e3 hc i pins s σ H E I hf st hg
    subst e1 e2 e3
    obtain ⟨us, vs, u, v, g1, g2, g3, g4⟩ := hg
    obtain ⟨l1, r1, t1, _⟩ := I.tuple g1
    obtain ⟨l2, r2, t2, _⟩ := I.list g2
    obtain ⟨x1, b1, c1⟩ := r1.get g3
    obtain ⟨x2, b2, c2⟩ := r2.get g4
    have hd : X.A.in1.handled = none := I.ok.hd hc
    have D1 := Draws.tuple (prog := X.prog) (w := X.w) (A := X.A.in1) hd N p (Nat.ne_of_lt hp) l1.toArray
    have D2 := Draws.list (prog := X.prog) (w := X.w) (A := X.A.in1) hd (N + 1) q (Nat.ne_of_lt (Nat.lt_succ_of_lt hq)) l2.toArray
    have S := zip_sep2 (N := N) (fp1 := [p]) (fp2 := [q]) (fun b m => by rw [List.mem_singleton.mp m]; exact hp) (fun b m => by rw [List.mem_singleton.mp m]; exact hq)
    obtain ⟨a1, a2, ⟨y1, y2, a3⟩, a4, a5⟩ := id st
    have i1 : i < l1.toArray.size := by simpa using (List.getElem?_eq_some_iff.mp b1).1
    have i2 : i < l2.toArray.size := by simpa using (List.getElem?_eq_some_iff.mp b2).1
    have zl : N + 4 < s.heap.objs.size := Heap.lt_size a1
    refine wpAny_pyNext_zipD2_item S D1 D2 a1 a2 a3 ⟨a4, t1⟩ ⟨a5, t2.isList⟩ i1 i2 fun w1 w2 g tk m1 m2 n1 n2 n3 n4 n5 n6 n7 => ?_
    obtain rfl : x1 = w1 := by
      have : l1[i]? = some w1 := by simpa using m1
      exact Option.some.inj (b1.symm.trans this)
    obtain rfl : x2 = w2 := by
      have : l2[i]? = some w2 := by simpa using m2
      exact Option.some.inj (b2.symm.trans this)
    refine ⟨_, rfl, wpAny_letOwnedTupleGo_zip (s := { s with heap := g, toks := tk }) n1 fun g' n1' sb => ?_⟩
    have up : ∀ c o, c ≠ N + 4 → g.get? c = some o → g'.get? c = some o := fun c o ne e => (sb.2 c ne).trans e
    have fr : ∀ c o, c ∉ mAll (N + 4) (N + 2) (N + 3) N (N + 1) → s.heap.get? c = some o → g'.get? c = some o := fun c o nm e =>
      up c o (fun z => nm (by simp [mAll, z])) (n7 c o (fun z => nm (by simp [mAll, z])) (fun z => nm (by simp [mAll, z])) (fun z => nm (by simp [mAll, z])) (fun z => nm (by simp [mAll, z])) e)
    have np : g'.get? s.heap.objs.size = some { cls := .type "tuple", data := .seq #[x1, x2] } := up _ _ (Nat.ne_of_gt zl) n5
    have ok : ObjOk X.prog X.w (upd H s.heap.objs.size (.tup [u, v])) g' s.heap.objs.size (.tup [u, v]) :=
      ⟨by show 2 ≤ sizeLine; decide, [x1, x2], .cons c1 (.cons c2 .nil), _, np, rfl, _, rfl⟩
    have J : Inv X pins σ (upd H s.heap.objs.size (.tup [u, v])) { s with heap := g', toks := tk } := I.turnedNew (t' := tk) (ch := mAll (N + 4) (N + 2) (N + 3) N (N + 1)) fr hf (Nat.le_refl _) ok
    have fresh := I.hok.fresh (Nat.le_refl s.heap.objs.size)
    refine ⟨.ref s.heap.objs.size, _, J, rfl, ⟨_, u, v, rfl, fresh, rfl, ?_, ?_⟩, ⟨n1', ?_, ⟨x1, x2, ?_⟩, ?_, ?_⟩, fun c cm => ?_⟩
    · intro l hl
      rw [I.tuple_inj hl g1]
      exact g3
    · intro l hl
      rw [I.list_inj hl g2]
      exact g4
    · exact up _ _ (nAdd 2 4 (by decide)) (n7 _ _ (nAdd 2 4 (by decide)) (nAdd 2 3 (by decide)) (nAdd 2 0 (by decide)) (nAdd 2 1 (by decide)) a2)
    · exact up _ _ (nAdd 3 4 (by decide)) n2
    · exact n3.1.at fun o => up _ o (nAdd 0 4 (by decide))
    · exact n4.1.at fun o => up _ o (nAdd 1 4 (by decide))
    · obtain ⟨o, ho, _⟩ := mSt.get st cm
      rw [upd_ne (Nat.ne_of_lt (Heap.lt_size ho))]
      exact (hf c cm).1
  done := by
    intro X e1 e2 e3 hc i pins s σ H E I hf st hg
    subst e1 e2 e3
    obtain ⟨us, vs, g1, g2, g3, g4, g5⟩ := hg
    obtain ⟨l1, r1, t1, _⟩ := I.tuple g1
    obtain ⟨l2, r2, t2, _⟩ := I.list g2
    have hd : X.A.in1.handled = none := I.ok.hd hc
    have D1 := Draws.tuple (prog := X.prog) (w := X.w) (A := X.A.in1) hd N p (Nat.ne_of_lt hp) l1.toArray
    have D2 := Draws.list (prog := X.prog) (w := X.w) (A := X.A.in1) hd (N + 1) q (Nat.ne_of_lt (Nat.lt_succ_of_lt hq)) l2.toArray
    have S := zip_sep2 (N := N) (fp1 := [p]) (fp2 := [q]) (fun b m => by rw [List.mem_singleton.mp m]; exact hp) (fun b m => by rw [List.mem_singleton.mp m]; exact hq)
    obtain ⟨a1, a2, ⟨y1, y2, a3⟩, a4, a5⟩ := id st
    have q1 : l1.toArray.size = us.length := by simpa using r1.length.symm
    have q2 : l2.toArray.size = vs.length := by simpa using r2.length.symm
    refine wpAny_pyNext_zipD2_end S D1 D2 a1 a2 a3 ⟨a4, t1⟩ ⟨a5, t2.isList⟩ (by omega) (by omega) (by omega) fun g tk n7 => ⟨rfl, ?_⟩
    refine I.turnedL (t' := tk) (ch := mAll (N + 4) (N + 2) (N + 3) N (N + 1)) (fun c o nm e => ?_) hf
    exact n7 c o (fun z => nm (by simp [mAll, z])) (fun z => nm (by simp [mAll, z])) (fun z => nm (by simp [mAll, z])) (fun z => nm (by simp [mAll, z])) e
  self := fun A i s Q E st h => wpAny_pyIter_zip st.1 h
def iMix (K : PySem.W.Frag) (ta : TA) : TI := fun σ H R => ta σ H fun vs H1 => ∃ p q us ws, vs = [V.ref p, .ref q] ∧ SqT K H1 p us ∧ SqL K H1 q ws ∧ R (Itm K p q) H1
theorem pi_mixed {X : Cx} {e e2 : Expr} {ta : TA} {p pos tpos : Pos} {es : List Expr} {n0 : Nat} (hg : Gl X "zip") (hm : X.mg "zip" = none) (ha : PA X [e, e2] ta)
    (hs : starEach [e, e2] X.env = (false, eval e X.env) :: starEach [e2] X.env := by rfl) (hpl : (backTo pos (starEach [e2] X.env)).any (·.1) = false := by rfl) : PI X (.Tuple es n0 tpos) (.Call (.Name "zip" p) [e, e2] [] pos) (iMix X.K ta) := by
  refine ⟨fun pins s σ H R I h => ?_⟩
  refine Call_ (ld_blt I hg hm PyProof.Rows.boot_zip (PyProof.Rows.callWith_type1 (thn (ha.run pos pins s σ H _ I h) fun us s1 ⟨vs, H1, J, r, hh⟩ => ?_) hs hpl))
  obtain ⟨p, q, ys, ws, rfl, g1, g2, hR⟩ := hh
  obtain ⟨u1, u2, rfl, c1, c2⟩ := vals2 r
  obtain rfl : u1 = Value.ref p := c1
  obtain rfl : u2 = Value.ref q := c2
  obtain ⟨l1, _, t1, _⟩ := J.tuple g1
  obtain ⟨l2, _, t2, _⟩ := J.list g2
  have hp : p < s1.heap.objs.size := by
    obtain ⟨o, ho, _⟩ := id t1
    exact Heap.lt_size ho
  refine zip_begins2 (begins_tuple p l1.toArray) (begins_list q l2.toArray) t1 t2.isList fun g a1 a2 a3 a4 a5 a6 a7 => wpAny_pyIter_zip a1 ?_
  refine ⟨_, _, _, _, H1, rfl, J.kept (t' := s1.toks) a7, turn_mixed hp t2.lt, ⟨a1, a2, ⟨_, _, a3⟩, ⟨_, a4, rfl, rfl⟩, ⟨_, a5, rfl, rfl⟩⟩, fun c cm => ?_, hR⟩
  have le : s1.heap.objs.size ≤ c := by
    rcases mAll_mem cm with z | z | z | z | z <;> rw [z]
    · exact Nat.le_add_right _ 4
    · exact Nat.le_add_right _ 2
    · exact Nat.le_add_right _ 3
    · exact Nat.le_refl _
    · exact Nat.le_add_right _ 1
  exact J.fpOk le (J.hok.fresh le)
/-- its turns: pairs of a tuple's and a list's items, of one length -/
theorem walk_mixed {K : PySem.W.Frag} {p q : Addr} {us vs : List V} (hl : us.length = vs.length) : Walk (Itm K p q) us.length (fun H => SqT K H p us ∧ SqL K H q vs) (fun i H z H' => ∃ c u v, z = V.ref c ∧ H c = none ∧ H' = upd H c (.tup [u, v]) ∧ us[i]? = some u ∧ vs[i]? = some v) where
  goes := fun i H hi g => ⟨us, vs, us[i], vs[i]'(by omega), g.1, g.2, List.getElem?_eq_getElem hi, List.getElem?_eq_getElem (by omega)⟩
  stops := fun H g => ⟨us, vs, g.1, g.2, .inl rfl, Nat.le_refl _, by omega⟩
  yields := fun i H z H' hi g y => by
    obtain ⟨c, u, v, e, hc, e2, f1, f2⟩ := y
    exact ⟨c, u, v, e, hc, e2, f1 us g.1, f2 vs g.2⟩
end Wc

set_option Elab.async false
set_option linter.all false
set_option maxRecDepth 100000
set_option maxHeartbeats 1000000
/-! zip of a list and a tuple -/
namespace Wc
open PySem PySem.Spec PyProof.Rows L2
/-- the list at p and the tuple at q as they stand at each turn; new pairs -/
def ItLT (K : PySem.W.Frag) (p q : Addr) : It where
  go := fun i H => ∃ us vs u v, SqL K H p us ∧ SqT K H q vs ∧ us[i]? = some u ∧ vs[i]? = some v
  yld := fun i H z H' => ∃ c u v, z = V.ref c ∧ H c = none ∧ H' = upd H c (.tup [u, v]) ∧ (∀ us, SqL K H p us → us[i]? = some u) ∧ ∀ vs, SqT K H q vs → vs[i]? = some v
  stop := fun i H => ∃ us vs : List V, SqL K H p us ∧ SqT K H q vs ∧ (us.length = i ∨ vs.length = i) ∧ i ≤ us.length ∧ i ≤ vs.length
/-- how the iterator stands at turn i -/
def lSt (p q z ti to_ j1 j2 : Addr) (i : Nat) (h : Heap) : Prop :=
  IsZip h z ti to_ .none ∧ IsTupOf2 h ti (.ref j1) (.ref j2) ∧ (∃ u v, IsTupOf2 h to_ u v) ∧ h.IsListIter j1 p i ∧ h.IsTupleIter j2 q i
theorem lSt.get {p q z ti to_ j1 j2 : Addr} {i : Nat} {h : Heap} (st : lSt p q z ti to_ j1 j2 i h) {c : Addr} (hc : c ∈ mAll z ti to_ j1 j2) : ∃ o, h.get? c = some o ∧ ∀ v, o.data ≠ .cell v := by
  obtain ⟨a1, a2, ⟨u, v, a3⟩, ⟨o4, a4, _, d4⟩, ⟨o5, a5, _, d5⟩⟩ := st
  rcases mAll_mem hc with e | e | e | e | e <;> subst e
  · exact ⟨_, a1, fun _ n => (by cases n)⟩
  · exact ⟨_, a2, fun _ n => (by cases n)⟩
  · exact ⟨_, a3, fun _ n => (by cases n)⟩
  · exact ⟨_, a4, fun _ n => by rw [d4] at n; cases n⟩
  · exact ⟨_, a5, fun _ n => by rw [d5] at n; cases n⟩
theorem turn_lt {P : Program} {w : World} {K : PySem.W.Frag} {es : List Expr} {n0 : Nat} {ps : Pos} {p q N : Addr} (hp : p < N) (hq : q < N) :
    Turn P w K (.Tuple es n0 ps) (ItLT K p q) (mAll (N + 4) (N + 2) (N + 3) N (N + 1)) (N + 4) (lSt p q (N + 4) (N + 2) (N + 3) N (N + 1)) where
  mem := List.mem_cons_self
  obj := fun i h st c hc => st.get hc
  keep := fun i h g st k => by
    obtain ⟨a1, a2, ⟨u, v, a3⟩, a4, a5⟩ := st
    refine ⟨k _ (by simp [mAll]) _ a1, k _ (by simp [mAll]) _ a2, ⟨u, v, k _ (by simp [mAll]) _ a3⟩, ?_, ?_⟩
    · exact a4.at fun o => k _ (by simp [mAll]) o
    · exact a5.at fun o => k _ (by simp [mAll]) o
  item := by
    intro X e1 e2 e3 hc i pins s σ H E I hf st hg
    subst e1 e2 e3
    obtain ⟨us, vs, u, v, g1, g2, g3, g4⟩ := hg
    obtain ⟨l1, r1, t1, _⟩ := I.list g1
    obtain ⟨l2, r2, t2, _⟩ := I.tuple g2
    obtain ⟨x1, b1, c1⟩ := r1.get g3
    obtain ⟨x2, b2, c2⟩ := r2.get g4
    have hd : X.A.in1.handled = none := I.ok.hd hc
    have D1 := Draws.list (prog := X.prog) (w := X.w) (A := X.A.in1) hd N p (Nat.ne_of_lt hp) l1.toArray
    have D2 := Draws.tuple (prog := X.prog) (w := X.w) (A := X.A.in1) hd (N + 1) q (Nat.ne_of_lt (Nat.lt_succ_of_lt hq)) l2.toArray
    have S := zip_sep2 (N := N) (fp1 := [p]) (fp2 := [q]) (fun b m => by rw [List.mem_singleton.mp m]; exact hp) (fun b m => by rw [List.mem_singleton.mp m]; exact hq)
    obtain ⟨a1, a2, ⟨y1, y2, a3⟩, a4, a5⟩ := id st
    have i1 : i < l1.toArray.size := by simpa using (List.getElem?_eq_some_iff.mp b1).1
    have i2 : i < l2.toArray.size := by simpa using (List.getElem?_eq_some_iff.mp b2).1
    have zl : N + 4 < s.heap.objs.size := Heap.lt_size a1
    refine wpAny_pyNext_zipD2_item S D1 D2 a1 a2 a3 ⟨a4, t1.isList⟩ ⟨a5, t2⟩ i1 i2 fun w1 w2 g tk m1 m2 n1 n2 n3 n4 n5 n6 n7 => ?_
    obtain rfl : x1 = w1 := by
      have : l1[i]? = some w1 := by simpa using m1
      exact Option.some.inj (b1.symm.trans this)
    obtain rfl : x2 = w2 := by
      have : l2[i]? = some w2 := by simpa using m2
      exact Option.some.inj (b2.symm.trans this)
    refine ⟨_, rfl, wpAny_letOwnedTupleGo_zip (s := { s with heap := g, toks := tk }) n1 fun g' n1' sb => ?_⟩
    have up : ∀ c o, c ≠ N + 4 → g.get? c = some o → g'.get? c = some o := fun c o ne e => (sb.2 c ne).trans e
    have fr : ∀ c o, c ∉ mAll (N + 4) (N + 2) (N + 3) N (N + 1) → s.heap.get? c = some o → g'.get? c = some o := fun c o nm e =>
      up c o (fun z => nm (by simp [mAll, z])) (n7 c o (fun z => nm (by simp [mAll, z])) (fun z => nm (by simp [mAll, z])) (fun z => nm (by simp [mAll, z])) (fun z => nm (by simp [mAll, z])) e)
    have np : g'.get? s.heap.objs.size = some { cls := .type "tuple", data := .seq #[x1, x2] } := up _ _ (Nat.ne_of_gt zl) n5
    have ok : ObjOk X.prog X.w (upd H s.heap.objs.size (.tup [u, v])) g' s.heap.objs.size (.tup [u, v]) :=
      ⟨by show 2 ≤ sizeLine; decide, [x1, x2], .cons c1 (.cons c2 .nil), _, np, rfl, _, rfl⟩
    have J : Inv X pins σ (upd H s.heap.objs.size (.tup [u, v])) { s with heap := g', toks := tk } := I.turnedNew (t' := tk) (ch := mAll (N + 4) (N + 2) (N + 3) N (N + 1)) fr hf (Nat.le_refl _) ok
    have fresh := I.hok.fresh (Nat.le_refl s.heap.objs.size)
    refine ⟨.ref s.heap.objs.size, _, J, rfl, ⟨_, u, v, rfl, fresh, rfl, ?_, ?_⟩, ⟨n1', ?_, ⟨x1, x2, ?_⟩, ?_, ?_⟩, fun c cm => ?_⟩
    · intro l hl
      rw [I.list_inj hl g1]
      exact g3
    · intro l hl
      rw [I.tuple_inj hl g2]
      exact g4
    · exact up _ _ (nAdd 2 4 (by decide)) (n7 _ _ (nAdd 2 4 (by decide)) (nAdd 2 3 (by decide)) (nAdd 2 0 (by decide)) (nAdd 2 1 (by decide)) a2)
    · exact up _ _ (nAdd 3 4 (by decide)) n2
    · exact n3.1.at fun o => up _ o (nAdd 0 4 (by decide))
    · exact n4.1.at fun o => up _ o (nAdd 1 4 (by decide))
    · obtain ⟨o, ho, _⟩ := lSt.get st cm
      rw [upd_ne (Nat.ne_of_lt (Heap.lt_size ho))]
      exact (hf c cm).1
  done := by
    intro X e1 e2 e3 hc i pins s σ H E I hf st hg
    subst e1 e2 e3
    obtain ⟨us, vs, g1, g2, g3, g4, g5⟩ := hg
    obtain ⟨l1, r1, t1, _⟩ := I.list g1
    obtain ⟨l2, r2, t2, _⟩ := I.tuple g2
    have hd : X.A.in1.handled = none := I.ok.hd hc
    have D1 := Draws.list (prog := X.prog) (w := X.w) (A := X.A.in1) hd N p (Nat.ne_of_lt hp) l1.toArray
    have D2 := Draws.tuple (prog := X.prog) (w := X.w) (A := X.A.in1) hd (N + 1) q (Nat.ne_of_lt (Nat.lt_succ_of_lt hq)) l2.toArray
    have S := zip_sep2 (N := N) (fp1 := [p]) (fp2 := [q]) (fun b m => by rw [List.mem_singleton.mp m]; exact hp) (fun b m => by rw [List.mem_singleton.mp m]; exact hq)
    obtain ⟨a1, a2, ⟨y1, y2, a3⟩, a4, a5⟩ := id st
    have q1 : l1.toArray.size = us.length := by simpa using r1.length.symm
    have q2 : l2.toArray.size = vs.length := by simpa using r2.length.symm
    refine wpAny_pyNext_zipD2_end S D1 D2 a1 a2 a3 ⟨a4, t1.isList⟩ ⟨a5, t2⟩ (by omega) (by omega) (by omega) fun g tk n7 => ⟨rfl, ?_⟩
    refine I.turnedL (t' := tk) (ch := mAll (N + 4) (N + 2) (N + 3) N (N + 1)) (fun c o nm e => ?_) hf
    exact n7 c o (fun z => nm (by simp [mAll, z])) (fun z => nm (by simp [mAll, z])) (fun z => nm (by simp [mAll, z])) (fun z => nm (by simp [mAll, z])) e
  self := fun A i s Q E st h => wpAny_pyIter_zip st.1 h
def iLT (K : PySem.W.Frag) (ta : TA) : TI := fun σ H R => ta σ H fun vs H1 => ∃ p q us ws, vs = [V.ref p, .ref q] ∧ SqL K H1 p us ∧ SqT K H1 q ws ∧ R (ItLT K p q) H1
theorem pi_lt {X : Cx} {e e2 : Expr} {ta : TA} {p pos tpos : Pos} {es : List Expr} {n0 : Nat} (hg : Gl X "zip") (hm : X.mg "zip" = none) (ha : PA X [e, e2] ta)
    (hs : starEach [e, e2] X.env = (false, eval e X.env) :: starEach [e2] X.env := by rfl) (hpl : (backTo pos (starEach [e2] X.env)).any (·.1) = false := by rfl) : PI X (.Tuple es n0 tpos) (.Call (.Name "zip" p) [e, e2] [] pos) (iLT X.K ta) := by
  refine ⟨fun pins s σ H R I h => ?_⟩
  refine Call_ (ld_blt I hg hm PyProof.Rows.boot_zip (PyProof.Rows.callWith_type1 (thn (ha.run pos pins s σ H _ I h) fun us s1 ⟨vs, H1, J, r, hh⟩ => ?_) hs hpl))
  obtain ⟨p, q, ys, ws, rfl, g1, g2, hR⟩ := hh
  obtain ⟨u1, u2, rfl, c1, c2⟩ := vals2 r
  obtain rfl : u1 = Value.ref p := c1
  obtain rfl : u2 = Value.ref q := c2
  obtain ⟨l1, _, t1, _⟩ := J.list g1
  obtain ⟨l2, _, t2, _⟩ := J.tuple g2
  have hq : q < s1.heap.objs.size := by
    obtain ⟨o, ho, _⟩ := id t2
    exact Heap.lt_size ho
  refine zip_begins2 (begins_list p l1.toArray) (begins_tuple q l2.toArray) t1.isList t2 fun g a1 a2 a3 a4 a5 a6 a7 => wpAny_pyIter_zip a1 ?_
  refine ⟨_, _, _, _, H1, rfl, J.kept (t' := s1.toks) a7, turn_lt t1.lt hq, ⟨a1, a2, ⟨_, _, a3⟩, ⟨_, a4, rfl, rfl⟩, ⟨_, a5, rfl, rfl⟩⟩, fun c cm => ?_, hR⟩
  have le : s1.heap.objs.size ≤ c := by
    rcases mAll_mem cm with z | z | z | z | z <;> rw [z]
    · exact Nat.le_add_right _ 4
    · exact Nat.le_add_right _ 2
    · exact Nat.le_add_right _ 3
    · exact Nat.le_refl _
    · exact Nat.le_add_right _ 1
  exact J.fpOk le (J.hok.fresh le)
/-- its turns: pairs of a list's and a tuple's items, of one length -/
theorem walk_lt {K : PySem.W.Frag} {p q : Addr} {us vs : List V} (hl : us.length = vs.length) : Walk (ItLT K p q) us.length (fun H => SqL K H p us ∧ SqT K H q vs) (fun i H z H' => ∃ c u v, z = V.ref c ∧ H c = none ∧ H' = upd H c (.tup [u, v]) ∧ us[i]? = some u ∧ vs[i]? = some v) where
  goes := fun i H hi g => ⟨us, vs, us[i], vs[i]'(by omega), g.1, g.2, List.getElem?_eq_getElem hi, List.getElem?_eq_getElem (by omega)⟩
  stops := fun H g => ⟨us, vs, g.1, g.2, .inl rfl, Nat.le_refl _, by omega⟩
  yields := fun i H z H' hi g y => by
    obtain ⟨c, u, v, e, hc, e2, f1, f2⟩ := y
    exact ⟨c, u, v, e, hc, e2, f1 us g.1, f2 vs g.2⟩
end Wc

set_option Elab.async false
set_option linter.all false
set_option maxRecDepth 100000
set_option maxHeartbeats 4000000
/-! zip(a, b, strict=True) of two tuples -/
namespace Wc
open PySem PySem.Spec PyProof.Rows L2
open PySem.Sem (wp)
/-- a strict zip object -/
abbrev IsZipS (h : Heap) (z TI TO : Addr) (own : Value) : Prop := h.get? z = some { cls := .type "zip", dict := none, data := .fields #[own, .bool false, .bool true, .ref TI, .ref TO], slots := #[] }
section
variable {prog : Program} {w : World} {A : Around} {E : Value → Shared → Prop} {s : Shared} {z TI TO i1 i2 : Addr} {fp1 fp2 : List Addr} {n i : Nat} {P1 P2 : Nat → Value → Prop} {St1 St2 : Nat → Heap → Prop} {a1 a2 : Value}
theorem draw_some {it : Addr} {fp : List Addr} {P : Nat → Value → Prop} {St : Nat → Heap → Prop} {Q : Option Value → Shared → Prop} (D : Draws prog w A it fp n P St) (lt : i < n) (st : St i s.heap)
    (h : ∀ x h' tk, P i x → St (i + 1) h' → Heap.SameBut it s.heap h' → Q (some x) { s with heap := h', toks := tk }) : wpAny (model prog w) A (Builtin.SmallTypes.nextOrEnd (.ref it)) Q E s := by
  unfold Builtin.SmallTypes.nextOrEnd
  exact wpAny_bind (wpAny_attempt (D.item i s _ _ lt st fun x h' tk p q r => wpAny_pure (h x h' tk p q r)))
theorem draw_none {it : Addr} {fp : List Addr} {P : Nat → Value → Prop} {St : Nat → Heap → Prop} {Q : Option Value → Shared → Prop} (D : Draws prog w A it fp n P St) (st : St n s.heap)
    (h : ∀ h', Heap.ExtBut it s.heap h' → Q none { s with heap := h' }) : wpAny (model prog w) A (Builtin.SmallTypes.nextOrEnd (.ref it)) Q E s := by
  unfold Builtin.SmallTypes.nextOrEnd
  refine wpAny_bind (wpAny_attempt (D.done s _ _ st fun h' e ext stop => ?_))
  obtain ⟨o, ho, hc⟩ := stop
  refine wpAny_bind (wpAny_isInstance (T := "StopIteration") (b := true) ⟨o, ho, hc⟩ isSubtype_stop ?_)
  exact wpAny_pure (h h' ext)
/-- both have an item yet -/
theorem zipS_item {Q : Value → Shared → Prop} (S : ZipSep2 z TI TO i1 i2 fp1 fp2) (D1 : Draws prog w A i1 fp1 n P1 St1) (D2 : Draws prog w A i2 fp2 n P2 St2)
    (atZ : IsZipS s.heap z TI TO .none) (atI : IsTupOf2 s.heap TI (.ref i1) (.ref i2)) (atO : IsTupOf2 s.heap TO a1 a2) (st1 : St1 i s.heap) (st2 : St2 i s.heap) (lt : i < n)
    (fin : ∀ x1 x2 h' tk, P1 i x1 → P2 i x2 → IsZipS h' z TI TO (rawInt s.heap.objs.size) → IsTupOf2 h' TO x1 x2 → St1 (i + 1) h' → St2 (i + 1) h' → IsTupOf2 h' s.heap.objs.size x1 x2 → h'.objs.size = s.heap.objs.size + 1 →
      (∀ c o, c ≠ z → c ≠ TO → c ≠ i1 → c ≠ i2 → s.heap.get? c = some o → h'.get? c = some o) → Q (.ref s.heap.objs.size) { s with heap := h', toks := tk }) :
    wpAny (model prog w) A (Builtin.«zip.__next__» ⟨[.ref z], []⟩) (fun f s' => ∃ v, f = .done (.ret v) ∧ Q v s') E s := by
  obtain ⟨g0, gs, dr, tk0, os⟩ := s
  show wpAny _ _ (field (.ref z) 2 >>= _) _ _ _
  refine wpAny_bind (wpAny_field atZ rfl (x := .bool true) rfl ?_)
  show wpAny _ _ (field (.ref z) 3 >>= _) _ _ _
  refine wpAny_bind (wpAny_field atZ rfl (x := .ref TI) rfl ?_)
  refine wpAny_bind (wpAny_seqItems atI rfl ?_)
  show wpAny _ _ (Builtin.SmallTypes.ownedTupleIsFree (.ref z) >>= _) _ _ _
  refine wpAny_bind ?_
  unfold Builtin.SmallTypes.ownedTupleIsFree
  refine wpAny_bind (wpAny_field atZ rfl (x := .none) rfl (wpAny_pure ?_))
  simp only [if_true]
  refine wpAny_bind (wpAny_rule ?_)
  refine wpAny_bind (wpAny_field atZ rfl (x := .ref TO) rfl ?_)
  refine wpAny_bind (wpAny_setField_rec atZ (by simp) fun g1 z1 b1 => ?_)
  have z1 : IsZipS g1 z TI TO .ellipsis := z1
  have b1 : Heap.SameBut z g0 g1 := b1
  refine wpAny_bind ?_
  simp only [List.zipIdx_cons, List.zipIdx_nil, List.forIn_cons, List.forIn_nil]
  refine wpAny_bind (wpAny_bind (wpAny_onRaise ?_))
  show wpAny _ _ (Builtin.SmallTypes.nextOrEnd (.ref i1)) _ _ ⟨g1, gs, dr, tk0, os⟩
  refine draw_some D1 lt (D1.over st1 b1 S.zf1) fun x1 g2 tk1 p1 t1 b2 => ?_
  have b2 : Heap.SameBut i1 g1 g2 := b2
  have o2 : IsTupOf2 g2 TO a1 a2 := b2.extBut _ _ S.Ti1 (b1.extBut _ _ S.TOz atO)
  refine wpAny_bind (wpAny_seqItems (s := ⟨g2, gs, dr, tk1, os⟩) o2 rfl ?_)
  refine wpAny_bind (updateSeq_IsTupOf2 (s := ⟨g2, gs, dr, tk1, os⟩) o2 fun g3 o3 b3 => ?_)
  have o3 : IsTupOf2 g3 TO x1 a2 := o3
  have b3 : Heap.SameBut TO g2 g3 := b3
  refine wpAny_bind (wpAny_letGo (wpAny_pure ?_))
  refine wpAny_bind (wpAny_bind (wpAny_onRaise ?_))
  show wpAny _ _ (Builtin.SmallTypes.nextOrEnd (.ref i2)) _ _ ⟨g3, gs, dr, tk1, os⟩
  refine draw_some D2 lt (D2.over (D2.over (D2.over st2 b1 S.zf2) b2 S.sep1_2) b3 S.Tf2) fun x2 g4 tk2 p2 t2 b4 => ?_
  have b4 : Heap.SameBut i2 g3 g4 := b4
  have o4 : IsTupOf2 g4 TO x1 a2 := b4.extBut _ _ S.Ti2 o3
  refine wpAny_bind (wpAny_seqItems (s := ⟨g4, gs, dr, tk2, os⟩) o4 rfl ?_)
  refine wpAny_bind (updateSeq_IsTupOf2 (s := ⟨g4, gs, dr, tk2, os⟩) o4 fun g5 o5 b5 => ?_)
  have o5 : IsTupOf2 g5 TO x1 x2 := o5
  have b5 : Heap.SameBut TO g4 g5 := b5
  refine wpAny_bind (wpAny_letGo (wpAny_pure (wpAny_pure ?_)))
  refine wpAny_bind (wpAny_seqItems (s := ⟨g5, gs, dr, tk2, os⟩) o5 rfl ?_)
  refine wpAny_bind (wpAny_newTuple ?_)
  have size5 : g5.objs.size = g0.objs.size := by rw [b5.1, b4.1, b3.1, b2.1, b1.1]
  have z5 : IsZipS g5 z TI TO .ellipsis := b5.extBut _ _ S.TOz.symm (b4.extBut _ _ S.zi2 (b3.extBut _ _ S.TOz.symm (b2.extBut _ _ S.zi1 z1)))
  have kept5 : ∀ c o, c ≠ z → c ≠ TO → c ≠ i1 → c ≠ i2 → g0.get? c = some o → g5.get? c = some o := fun c o q1 q2 q3 q4 e => b5.extBut _ _ q2 (b4.extBut _ _ q4 (b3.extBut _ _ q2 (b2.extBut _ _ q3 (b1.extBut _ _ q1 e))))
  have t15 : St1 (i + 1) g5 := D1.over (D1.over (D1.over t1 b3 S.Tf1) b4 S.sep2_1) b5 S.Tf1
  have t25 : St2 (i + 1) g5 := D2.over t2 b5 S.Tf2
  have zlt : z < g5.objs.size := Heap.lt_size z5
  show wpAny _ _ (Builtin.SmallTypes.ownedTupleHandOut (.ref z) (.ref g5.objs.size) >>= _) _ _ ⟨g5.push { cls := .type "tuple", data := .seq #[x1, x2] }, gs, dr, tk2, os⟩
  refine wpAny_bind ?_
  unfold Builtin.SmallTypes.ownedTupleHandOut
  have z6 : IsZipS (g5.push { cls := .type "tuple", data := .seq #[x1, x2] }) z TI TO .ellipsis := Heap.get?_push_of_some _ z5
  refine wpAny_bind (wpAny_setField_rec z6 (by simp) fun g7 z7 b7 => ?_)
  have z7 : IsZipS g7 z TI TO (rawInt g5.objs.size) := z7
  refine wpAny_setField_rec z7 (by simp) fun g8 z8 b8 => ?_
  have z8 : IsZipS g8 z TI TO (rawInt g5.objs.size) := z8
  have b7 : Heap.SameBut z (g5.push { cls := .type "tuple", data := .seq #[x1, x2] }) g7 := b7
  have b8 : Heap.SameBut z g7 g8 := b8
  have up : ∀ c o, c ≠ z → g5.get? c = some o → g8.get? c = some o := fun c o ne e => b8.extBut _ _ ne (b7.extBut _ _ ne (Heap.get?_push_of_some _ e))
  have o8 : IsTupOf2 g8 g5.objs.size x1 x2 := b8.extBut _ _ (Nat.ne_of_gt zlt) (b7.extBut _ _ (Nat.ne_of_gt zlt) (Heap.get?_push_size _ rfl))
  have size8 : g8.objs.size = g5.objs.size + 1 := by rw [b8.1, b7.1, Heap.size_push]
  rw [size5] at z8 o8 size8
  refine wpAny_pure ⟨_, rfl, ?_⟩
  show Q (.ref g5.objs.size) ⟨g8, gs, dr, tk2, os⟩
  rw [size5]
  exact fin x1 x2 g8 tk2 p1 p2 z8 (up _ _ S.TOz o5) (D1.frame _ _ _ t15 fun b hb o e => up b o (fun q => S.zf1 (q ▸ hb)) e) (D2.frame _ _ _ t25 fun b hb o e => up b o (fun q => S.zf2 (q ▸ hb)) e) o8 size8 fun c o q1 q2 q3 q4 e => up c o q1 (kept5 c o q1 q2 q3 q4 e)
/-- both are at their ends -/
theorem zipS_end {Q : Fin → Shared → Prop} (calm : A.handled = none) (S : ZipSep2 z TI TO i1 i2 fp1 fp2) (D1 : Draws prog w A i1 fp1 n P1 St1) (D2 : Draws prog w A i2 fp2 n P2 St2)
    (atZ : IsZipS s.heap z TI TO .none) (atI : IsTupOf2 s.heap TI (.ref i1) (.ref i2)) (atO : IsTupOf2 s.heap TO a1 a2) (st1 : St1 n s.heap) (st2 : St2 n s.heap)
    (out : ∀ h' tk e, (∀ c o, c ≠ z → c ≠ TO → c ≠ i1 → c ≠ i2 → s.heap.get? c = some o → h'.get? c = some o) → (∃ o, h'.get? e = some o ∧ o.cls = .type "StopIteration") → E (.ref e) { s with heap := h', toks := tk }) :
    wpAny (model prog w) A (Builtin.«zip.__next__» ⟨[.ref z], []⟩) Q E s := by
  obtain ⟨g0, gs, dr, tk0, os⟩ := s
  show wpAny _ _ (field (.ref z) 2 >>= _) _ _ _
  refine wpAny_bind (wpAny_field atZ rfl (x := .bool true) rfl ?_)
  show wpAny _ _ (field (.ref z) 3 >>= _) _ _ _
  refine wpAny_bind (wpAny_field atZ rfl (x := .ref TI) rfl ?_)
  refine wpAny_bind (wpAny_seqItems atI rfl ?_)
  show wpAny _ _ (Builtin.SmallTypes.ownedTupleIsFree (.ref z) >>= _) _ _ _
  refine wpAny_bind ?_
  unfold Builtin.SmallTypes.ownedTupleIsFree
  refine wpAny_bind (wpAny_field atZ rfl (x := .none) rfl (wpAny_pure ?_))
  simp only [if_true]
  refine wpAny_bind (wpAny_rule ?_)
  refine wpAny_bind (wpAny_field atZ rfl (x := .ref TO) rfl ?_)
  refine wpAny_bind (wpAny_setField_rec atZ (by simp) fun g1 z1 b1 => ?_)
  have z1 : IsZipS g1 z TI TO .ellipsis := z1
  have b1 : Heap.SameBut z g0 g1 := b1
  refine wpAny_bind ?_
  simp only [List.zipIdx_cons, List.zipIdx_nil, List.forIn_cons, List.forIn_nil]
  refine wpAny_bind (wpAny_bind (wpAny_onRaise ?_))
  show wpAny _ _ (Builtin.SmallTypes.nextOrEnd (.ref i1)) _ _ ⟨g1, gs, dr, tk0, os⟩
  refine draw_none D1 (D1.over st1 b1 S.zf1) fun g2 b2 => ?_
  have b2 : Heap.ExtBut i1 g1 g2 := b2
  have z2 : IsZipS g2 z TI TO .ellipsis := b2 _ _ S.zi1 z1
  refine wpAny_bind (wpAny_setField_rec (s := ⟨g2, gs, dr, tk0, os⟩) z2 (by simp) fun g3 z3 b3 => ?_)
  have b3 : Heap.SameBut z g2 g3 := b3
  have t23 : St2 n g3 := D2.over (D2.frame _ _ _ (D2.over st2 b1 S.zf2) fun b hb o e => b2 _ _ (fun q => S.sep1_2 (q ▸ hb)) e) b3 S.zf2
  have q2 : ∀ {E' : Value → Shared → Prop} {Q' : Option Value → Shared → Prop}, (∀ g4, Heap.ExtBut i2 g3 g4 → Q' none ⟨g4, gs, dr, tk0, os⟩) → wpAny (model prog w) A (Builtin.SmallTypes.nextOrEnd (.ref i2)) Q' E' ⟨g3, gs, dr, tk0, os⟩ := fun h => draw_none D2 t23 fun g4 b4 => h g4 b4
  refine wpAny_bind ?_
  wp_walk using q2
  intro g4 b4
  wp_walk
  simp only [raiseNew]
  refine wpAny_bind (wpAny_handled ?_)
  first | rw [calm] | rw [show A.handled = none from calm]
  refine wpAny_bind (wpAny_pure (wpAny_throw ?_))
  have kp : ∀ c o, c ≠ z → c ≠ TO → c ≠ i1 → c ≠ i2 → g0.get? c = some o → g4.get? c = some o := fun c o q1 q2 q3 q4 e => b4 _ _ q4 (b3.extBut _ _ q1 (b2 _ _ q3 (b1.extBut _ _ q1 e)))
  exact out _ tk0 _ (fun c o q1 q2 q3 q4 e => Heap.get?_push_of_some _ (Heap.get?_push_of_some _ (kp c o q1 q2 q3 q4 e))) ⟨_, Heap.get?_push_size _ rfl, rfl⟩
theorem nextS_item {Q : Option Value → Shared → Prop} (S : ZipSep2 z TI TO i1 i2 fp1 fp2) (D1 : Draws prog w A.in1 i1 fp1 n P1 St1) (D2 : Draws prog w A.in1 i2 fp2 n P2 St2)
    (atZ : IsZipS s.heap z TI TO .none) (atI : IsTupOf2 s.heap TI (.ref i1) (.ref i2)) (atO : IsTupOf2 s.heap TO a1 a2) (st1 : St1 i s.heap) (st2 : St2 i s.heap) (lt : i < n)
    (fin : ∀ x1 x2 h' tk, P1 i x1 → P2 i x2 → IsZipS h' z TI TO (rawInt s.heap.objs.size) → IsTupOf2 h' TO x1 x2 → St1 (i + 1) h' → St2 (i + 1) h' → IsTupOf2 h' s.heap.objs.size x1 x2 → h'.objs.size = s.heap.objs.size + 1 →
      (∀ c o, c ≠ z → c ≠ TO → c ≠ i1 → c ≠ i2 → s.heap.get? c = some o → h'.get? c = some o) → Q (some (.ref s.heap.objs.size)) { s with heap := h', toks := tk }) : wpAny (model prog w) A (pyNext (.ref z)) Q E s := by
  have isZ : s.TypeIs (.ref z) "zip" := ⟨_, atZ, rfl⟩
  unfold pyNext
  refine wpAny_bind (wpAny_attempt (wpAny_callSpecial?_slot (name := Str.ofString "__next__") isZ F.slot_zip_next (wpAny_call_entry F.slot_zip_next isZ F.entry_zip_next ?_ (F.args_zip_next_1 _))))
  exact zipS_item S D1 D2 atZ atI atO st1 st2 lt fun x1 x2 h' tk q1 q2 q3 q4 q5 q6 q7 q8 q9 => wpAny_pure (fin x1 x2 h' tk q1 q2 q3 q4 q5 q6 q7 q8 q9)
theorem nextS_end {Q : Option Value → Shared → Prop} (calm : A.in1.handled = none) (S : ZipSep2 z TI TO i1 i2 fp1 fp2) (D1 : Draws prog w A.in1 i1 fp1 n P1 St1) (D2 : Draws prog w A.in1 i2 fp2 n P2 St2)
    (atZ : IsZipS s.heap z TI TO .none) (atI : IsTupOf2 s.heap TI (.ref i1) (.ref i2)) (atO : IsTupOf2 s.heap TO a1 a2) (st1 : St1 n s.heap) (st2 : St2 n s.heap)
    (fin : ∀ h' tk, (∀ c o, c ≠ z → c ≠ TO → c ≠ i1 → c ≠ i2 → s.heap.get? c = some o → h'.get? c = some o) → Q none { s with heap := h', toks := tk }) : wpAny (model prog w) A (pyNext (.ref z)) Q E s := by
  have isZ : s.TypeIs (.ref z) "zip" := ⟨_, atZ, rfl⟩
  unfold pyNext
  refine wpAny_bind (wpAny_attempt (wpAny_callSpecial?_slot (name := Str.ofString "__next__") isZ F.slot_zip_next (wpAny_call_entry F.slot_zip_next isZ F.entry_zip_next ?_ (F.args_zip_next_1 _))))
  refine zipS_end calm S D1 D2 atZ atI atO st1 st2 fun h' tk e kp stop => ?_
  obtain ⟨o, ho, hc⟩ := stop
  refine wpAny_bind (wpAny_isInstance (T := "StopIteration") (b := true) ⟨o, ho, hc⟩ isSubtype_stop ?_)
  exact wpAny_pure (fin _ _ kp)
end
/-! its making -/
theorem typeCall_strict (a b c : Value) : checkTypeCall "zip" ⟨[a, b], [(Str.ofString "strict", c)]⟩ = pure () := by kernel_rfl
theorem newCall_strict (a b c : Value) : checkBuiltinCall "zip.__new__" ⟨[.type "zip", a, b], [(Str.ofString "strict", c)]⟩ = pure () := by kernel_rfl
theorem args_strict (obj a b c : Value) : argsOk "object.__init__" ⟨[obj, a, b], [(Str.ofString "strict", c)]⟩ := by
  unfold argsOk
  kernel_rfl
abbrev gzS (h : Heap) (o1 o2 : Obj) : Heap := (gzO2 h o1 o2).push { cls := .type "zip", data := .fields #[.none, .bool false, .bool true, .ref ((h.push o1).push o2).objs.size, .ref (gzT2 h o1 o2).objs.size] }
theorem meets_strict {v1 v2 : Value} {o1 o2 : Obj} {H1 H2 : Heap → Prop} (B1 : Begins v1 o1 H1) (B2 : Begins v2 o2 H2) :
    Meets (Builtin.«zip.__new__» ⟨[.type "zip", v1, v2], [(Str.ofString "strict", .bool true)]⟩) (fun _ R s => (H1 s.heap ∧ H2 s.heap) ∧ R (.ok (.ret (.ref (gzO2 s.heap o1 o2).objs.size))) { s with heap := gzS s.heap o1 o2 }) :=
  .of_wp fun prog w A R s both => by
    obtain ⟨hp, g, d, tk, os⟩ := s
    obtain ⟨⟨h1, h2⟩, h⟩ := both
    have hsub := sub_zip
    have first : ∀ {A' : Around} {E : Value → Shared → Prop} {Q : Value → Shared → Prop}, Q (.ref hp.objs.size) ⟨hp.push o1, g, d, tk, os⟩ → wpAny (model prog w) A' (pyIter v1) Q E ⟨hp, g, d, tk, os⟩ := fun q => B1.iter prog w _ _ ⟨hp, g, d, tk, os⟩ _ (B1.keeps _ _ h1 fun b o' e => e) q
    have second : ∀ {A' : Around} {E : Value → Shared → Prop} {Q : Value → Shared → Prop}, Q (.ref (hp.push o1).objs.size) ⟨(hp.push o1).push o2, g, d, tk, os⟩ → wpAny (model prog w) A' (pyIter v2) Q E ⟨hp.push o1, g, d, tk, os⟩ := fun q => B2.iter prog w _ _ ⟨hp.push o1, g, d, tk, os⟩ _ (B2.keeps _ _ h2 fun b o' e => Heap.get?_push_of_some _ e) q
    have e1 : (Str.ofString "strict" != ("strict" : Str)) = false := by decide +kernel
    have e2 : (Str.ofString "strict" == ("strict" : Str)) = true := by decide +kernel
    wp_walk using first, second
    exact ⟨_, rfl, h⟩
section
variable {prog : Program} {w : World} {A : Around} {E : Value → Shared → Prop} {s : Shared}
theorem strict_begins {v1 v2 : Value} {o1 o2 : Obj} {H1 H2 : Heap → Prop} {Q : Value → Shared → Prop} (B1 : Begins v1 o1 H1) (B2 : Begins v2 o2 H2) (h1 : H1 s.heap) (h2 : H2 s.heap)
    (fin : ∀ h', IsZipS h' (s.heap.objs.size + 4) (s.heap.objs.size + 2) (s.heap.objs.size + 3) .none → IsTupOf2 h' (s.heap.objs.size + 2) (.ref s.heap.objs.size) (.ref (s.heap.objs.size + 1)) →
      IsTupOf2 h' (s.heap.objs.size + 3) .none .none → h'.get? s.heap.objs.size = some o1 → h'.get? (s.heap.objs.size + 1) = some o2 → h'.objs.size = s.heap.objs.size + 5 →
      (∀ c o, s.heap.get? c = some o → h'.get? c = some o) → Q (.ref (s.heap.objs.size + 4)) { s with heap := h' }) :
    wpAny (model prog w) A (call (.type "zip") [v1, v2] [(Str.ofString "strict", .bool true)]) Q E s := by
  refine callType_newKw F.called_zip (by decide) (typeCall_strict _ _ _) (newCall_strict _ _ _) (fun obj => args_strict obj _ _ _) F.entry_zip_new (meets_strict B1 B2) ⟨⟨h1, h2⟩, ?_⟩
  have n1 : (s.heap.push o1).objs.size = s.heap.objs.size + 1 := by rw [Heap.size_push]
  have n2 : ((s.heap.push o1).push o2).objs.size = s.heap.objs.size + 2 := by rw [Heap.size_push, n1]
  have n3 : (gzT2 s.heap o1 o2).objs.size = s.heap.objs.size + 3 := by rw [Heap.size_push, n2]
  have n4 : (gzO2 s.heap o1 o2).objs.size = s.heap.objs.size + 4 := by rw [Heap.size_push, n3]
  have n5 : (gzS s.heap o1 o2).objs.size = s.heap.objs.size + 5 := by rw [Heap.size_push, n4]
  have g5 : (gzS s.heap o1 o2).get? (gzO2 s.heap o1 o2).objs.size = some { cls := .type "zip", data := .fields #[.none, .bool false, .bool true, .ref ((s.heap.push o1).push o2).objs.size, .ref (gzT2 s.heap o1 o2).objs.size] } := Heap.get?_push_size _ rfl
  have g4 : (gzS s.heap o1 o2).get? (gzT2 s.heap o1 o2).objs.size = some { cls := .type "tuple", data := .seq #[.none, .none] } := Heap.get?_push_of_some _ (Heap.get?_push_size _ rfl)
  have g3 : (gzS s.heap o1 o2).get? ((s.heap.push o1).push o2).objs.size = some { cls := .type "tuple", data := .seq #[.ref s.heap.objs.size, .ref (s.heap.push o1).objs.size] } := Heap.get?_push_of_some _ (Heap.get?_push_of_some _ (Heap.get?_push_size _ rfl))
  have g1 : (gzS s.heap o1 o2).get? s.heap.objs.size = some o1 := Heap.get?_push_of_some _ (Heap.get?_push_of_some _ (Heap.get?_push_of_some _ (Heap.get?_push_of_some _ (Heap.get?_push_size _ B1.free))))
  have g2 : (gzS s.heap o1 o2).get? (s.heap.push o1).objs.size = some o2 := Heap.get?_push_of_some _ (Heap.get?_push_of_some _ (Heap.get?_push_of_some _ (Heap.get?_push_size _ B2.free)))
  rw [n4, n3, n2] at g5
  rw [n3] at g4
  rw [n2, n1] at g3
  rw [n1] at g2
  show _ ∧ _
  rw [n4]
  exact ⟨⟨_, g5, rfl⟩, fin _ g5 g3 g4 g1 g2 n5 fun c o e => Heap.get?_push_of_some _ (Heap.get?_push_of_some _ (Heap.get?_push_of_some _ (Heap.get?_push_of_some _ (Heap.get?_push_of_some _ e))))⟩
theorem goS {elts : List Expr} {x1} {pos : Pos} {z TI TO T : Addr} {Q : Unit → Shared → Prop} (atZ : IsZipS s.heap z TI TO (rawInt T)) (fin : ∀ h', IsZipS h' z TI TO .none → Heap.SameBut z s.heap h' → Q () { s with heap := h' }) :
    wpAny (model prog w) A (letOwnedTupleGo (.Tuple elts x1 pos) (.ref z) (.ref T)) Q E s := by
  unfold letOwnedTupleGo
  refine wpAny_bind (wpAny_load atZ ?_)
  show wpAny _ _ (if (["enumerate", "zip", "dict_itemiterator", "dict_reverseitemiterator", "odict_iterator", "itertools.zip_longest", "itertools.pairwise"].contains "zip" && (#[rawInt T, .bool false, .bool true, .ref TI, .ref TO] : Array Value)[0]? == some (rawInt T)) = true then _ else _) Q E s
  rw [if_pos (by simp)]
  refine wpAny_bind (wpAny_rule ?_)
  show wpAny _ _ (setField (.ref z) 0 .none) Q E s
  exact wpAny_setField_rec atZ (by simp) fun h' a b => fin h' a b
theorem iterS {z TI TO : Addr} {own : Value} {Q : Value → Shared → Prop} (atZ : IsZipS s.heap z TI TO own) (h : Q (.ref z) s) : wpAny (model prog w) A (pyIter (.ref z)) Q E s := by
  have isZ : s.TypeIs (.ref z) "zip" := ⟨_, atZ, rfl⟩
  refine wpAny_pyIter_slot isZ F.slot_zip_iter (wpAny_call_entry F.slot_zip_iter isZ F.entry_zip_iter ?_ (F.args_zip_iter_1 _))
  show wpAny _ _ (ret (.ref z)) _ _ s
  exact wpAny_pure ⟨_, rfl, "zip", _, isZ, F.slot_zip_next.lookup, h⟩
end
/-- the tuples at p and q as they stand at each turn; new pairs -/
def ItS (K : PySem.W.Frag) (p q : Addr) : It where
  go := fun i H => ∃ us vs u v, SqT K H p us ∧ SqT K H q vs ∧ us.length = vs.length ∧ us[i]? = some u ∧ vs[i]? = some v
  yld := fun i H z H' => ∃ c u v, z = V.ref c ∧ H c = none ∧ H' = upd H c (.tup [u, v]) ∧ (∀ us, SqT K H p us → us[i]? = some u) ∧ ∀ vs, SqT K H q vs → vs[i]? = some v
  stop := fun i H => ∃ us vs : List V, SqT K H p us ∧ SqT K H q vs ∧ us.length = i ∧ vs.length = i
/-- how the iterator stands at turn i -/
def sSt (p q z ti to_ j1 j2 : Addr) (i : Nat) (h : Heap) : Prop :=
  IsZipS h z ti to_ .none ∧ IsTupOf2 h ti (.ref j1) (.ref j2) ∧ (∃ u v, IsTupOf2 h to_ u v) ∧ h.IsTupleIter j1 p i ∧ h.IsTupleIter j2 q i
theorem sSt.get {p q z ti to_ j1 j2 : Addr} {i : Nat} {h : Heap} (st : sSt p q z ti to_ j1 j2 i h) {c : Addr} (hc : c ∈ mAll z ti to_ j1 j2) : ∃ o, h.get? c = some o ∧ ∀ v, o.data ≠ .cell v := by
  obtain ⟨a1, a2, ⟨u, v, a3⟩, ⟨o4, a4, _, d4⟩, ⟨o5, a5, _, d5⟩⟩ := st
  rcases mAll_mem hc with e | e | e | e | e <;> subst e
  · exact ⟨_, a1, fun _ n => (by cases n)⟩
  · exact ⟨_, a2, fun _ n => (by cases n)⟩
  · exact ⟨_, a3, fun _ n => (by cases n)⟩
  · exact ⟨_, a4, fun _ n => by rw [d4] at n; cases n⟩
  · exact ⟨_, a5, fun _ n => by rw [d5] at n; cases n⟩
theorem turn_strict {P : Program} {w : World} {K : PySem.W.Frag} {es : List Expr} {n0 : Nat} {ps : Pos} {p q N : Addr} (hp : p < N) (hq : q < N) :
    Turn P w K (.Tuple es n0 ps) (ItS K p q) (mAll (N + 4) (N + 2) (N + 3) N (N + 1)) (N + 4) (sSt p q (N + 4) (N + 2) (N + 3) N (N + 1)) where
  mem := List.mem_cons_self
  obj := fun i h st c hc => st.get hc
  keep := fun i h g st k => by
    obtain ⟨a1, a2, ⟨u, v, a3⟩, a4, a5⟩ := st
    refine ⟨k _ (by simp [mAll]) _ a1, k _ (by simp [mAll]) _ a2, ⟨u, v, k _ (by simp [mAll]) _ a3⟩, ?_, ?_⟩
    · exact a4.at fun o => k _ (by simp [mAll]) o
    · exact a5.at fun o => k _ (by simp [mAll]) o
  item := by
    intro X e1 e2 e3 hc i pins s σ H E I hf st hg
    subst e1 e2 e3
    obtain ⟨us, vs, u, v, g1, g2, gl, g3, g4⟩ := hg
    obtain ⟨l1, r1, t1, _⟩ := I.tuple g1
    obtain ⟨l2, r2, t2, _⟩ := I.tuple g2
    obtain ⟨x1, b1, c1⟩ := r1.get g3
    obtain ⟨x2, b2, c2⟩ := r2.get g4
    have hd : X.A.in1.handled = none := I.ok.hd hc
    have D1 := Draws.tuple (prog := X.prog) (w := X.w) (A := X.A.in1) hd N p (Nat.ne_of_lt hp) l1.toArray
    have D2 := Draws.tuple (prog := X.prog) (w := X.w) (A := X.A.in1) hd (N + 1) q (Nat.ne_of_lt (Nat.lt_succ_of_lt hq)) l2.toArray
    have zz : l2.toArray.size = l1.toArray.size := by simpa using (r2.length.symm.trans (gl.symm.trans r1.length)).symm.symm
    rw [zz] at D2
    have S := zip_sep2 (N := N) (fp1 := [p]) (fp2 := [q]) (fun b m => by rw [List.mem_singleton.mp m]; exact hp) (fun b m => by rw [List.mem_singleton.mp m]; exact hq)
    obtain ⟨a1, a2, ⟨y1, y2, a3⟩, a4, a5⟩ := id st
    have i1 : i < l1.toArray.size := by simpa using (List.getElem?_eq_some_iff.mp b1).1
    have zl : N + 4 < s.heap.objs.size := Heap.lt_size a1
    refine nextS_item S D1 D2 a1 a2 a3 ⟨a4, t1⟩ ⟨a5, t2⟩ i1 fun w1 w2 g tk m1 m2 n1 n2 n3 n4 n5 n6 n7 => ?_
    obtain rfl : x1 = w1 := by
      have : l1[i]? = some w1 := by simpa using m1
      exact Option.some.inj (b1.symm.trans this)
    obtain rfl : x2 = w2 := by
      have : l2[i]? = some w2 := by simpa using m2
      exact Option.some.inj (b2.symm.trans this)
    refine ⟨_, rfl, goS (s := { s with heap := g, toks := tk }) n1 fun g' n1' sb => ?_⟩
    have up : ∀ c o, c ≠ N + 4 → g.get? c = some o → g'.get? c = some o := fun c o ne e => (sb.2 c ne).trans e
    have fr : ∀ c o, c ∉ mAll (N + 4) (N + 2) (N + 3) N (N + 1) → s.heap.get? c = some o → g'.get? c = some o := fun c o nm e =>
      up c o (fun z => nm (by simp [mAll, z])) (n7 c o (fun z => nm (by simp [mAll, z])) (fun z => nm (by simp [mAll, z])) (fun z => nm (by simp [mAll, z])) (fun z => nm (by simp [mAll, z])) e)
    have np : g'.get? s.heap.objs.size = some { cls := .type "tuple", data := .seq #[x1, x2] } := up _ _ (Nat.ne_of_gt zl) n5
    have ok : ObjOk X.prog X.w (upd H s.heap.objs.size (.tup [u, v])) g' s.heap.objs.size (.tup [u, v]) :=
      ⟨by show 2 ≤ sizeLine; decide, [x1, x2], .cons c1 (.cons c2 .nil), _, np, rfl, _, rfl⟩
    have J : Inv X pins σ (upd H s.heap.objs.size (.tup [u, v])) { s with heap := g', toks := tk } := I.turnedNew (t' := tk) (ch := mAll (N + 4) (N + 2) (N + 3) N (N + 1)) fr hf (Nat.le_refl _) ok
    have fresh := I.hok.fresh (Nat.le_refl s.heap.objs.size)
    refine ⟨.ref s.heap.objs.size, _, J, rfl, ⟨_, u, v, rfl, fresh, rfl, ?_, ?_⟩, ⟨n1', ?_, ⟨x1, x2, ?_⟩, ?_, ?_⟩, fun c cm => ?_⟩
    · intro l hl
      rw [I.tuple_inj hl g1]
      exact g3
    · intro l hl
      rw [I.tuple_inj hl g2]
      exact g4
    · exact up _ _ (nAdd 2 4 (by decide)) (n7 _ _ (nAdd 2 4 (by decide)) (nAdd 2 3 (by decide)) (nAdd 2 0 (by decide)) (nAdd 2 1 (by decide)) a2)
    · exact up _ _ (nAdd 3 4 (by decide)) n2
    · exact n3.1.at fun o => up _ o (nAdd 0 4 (by decide))
    · exact n4.1.at fun o => up _ o (nAdd 1 4 (by decide))
    · obtain ⟨o, ho, _⟩ := sSt.get st cm
      rw [upd_ne (Nat.ne_of_lt (Heap.lt_size ho))]
      exact (hf c cm).1
  done := by
    intro X e1 e2 e3 hc i pins s σ H E I hf st hg
    subst e1 e2 e3
    obtain ⟨us, vs, g1, g2, g3, g4⟩ := hg
    obtain ⟨l1, r1, t1, _⟩ := I.tuple g1
    obtain ⟨l2, r2, t2, _⟩ := I.tuple g2
    have hd : X.A.in1.handled = none := I.ok.hd hc
    have D1 := Draws.tuple (prog := X.prog) (w := X.w) (A := X.A.in1) hd N p (Nat.ne_of_lt hp) l1.toArray
    have D2 := Draws.tuple (prog := X.prog) (w := X.w) (A := X.A.in1) hd (N + 1) q (Nat.ne_of_lt (Nat.lt_succ_of_lt hq)) l2.toArray
    have q1 : l1.toArray.size = i := by simpa using r1.length.symm.trans g3
    have q2 : l2.toArray.size = i := by simpa using r2.length.symm.trans g4
    rw [q1] at D1
    rw [q2] at D2
    have S := zip_sep2 (N := N) (fp1 := [p]) (fp2 := [q]) (fun b m => by rw [List.mem_singleton.mp m]; exact hp) (fun b m => by rw [List.mem_singleton.mp m]; exact hq)
    obtain ⟨a1, a2, ⟨y1, y2, a3⟩, a4, a5⟩ := id st
    refine nextS_end hd S D1 D2 a1 a2 a3 ⟨a4, t1⟩ ⟨a5, t2⟩ fun g tk n7 => ⟨rfl, ?_⟩
    refine I.turnedL (t' := tk) (ch := mAll (N + 4) (N + 2) (N + 3) N (N + 1)) (fun c o nm e => ?_) hf
    exact n7 c o (fun z => nm (by simp [mAll, z])) (fun z => nm (by simp [mAll, z])) (fun z => nm (by simp [mAll, z])) (fun z => nm (by simp [mAll, z])) e
  self := fun A i s Q E st h => iterS st.1 h

theorem callWith_typeK {M : Model} {A : Around} {E : Value → Shared → Prop} {s : Shared} {pos : Pos} {T : String} {first : List Value} {args : List (Bool × Sem Value)} {kws : List (Option Str × Sem Value)} {Q : Value → Shared → Prop}
    (plain : args.any (·.1) = false) (named : kws.any (·.1.isNone) = false) (h : wpAny M A (evalArgs (.type T) true args kws) (fun a s1 => wpAny M A (call (.type T) (first ++ a.pos) a.kw) Q E s1) E s) :
    wpAny M A (callWith pos (.type T) first args kws) Q E s := by
  unfold callWith
  refine wpAny_bind (wpAny_holding (wpAny_mono h (fun a s1 h1 => wpAny_bind (wpAny_standAt ?_)) fun _ _ x => x))
  simp only [plain, named, Bool.or_false]
  refine wpAny_bind (wpAny_pure ?_)
  exact wpAny_bind (wpAny_mono h1 (fun r s2 hr => wpAny_bind (wpAny_holding (wpAny_point (wpAny_pure hr)))) fun _ _ x => x)
/-- zip(a, b, strict=True), two tuples of one length -/
def iZipS (K : PySem.W.Frag) (ta tk : TA) : TI := fun σ H R => ta σ H fun vs H1 => tk σ H1 fun zs H2 => ∃ p q us ws, vs = [V.ref p, .ref q] ∧ zs = [V.bl true] ∧ SqT K H2 p us ∧ SqT K H2 q ws ∧ us.length = ws.length ∧ R (ItS K p q) H2
theorem pi_zipS {X : Cx} {e e2 : Expr} {ta tk : TA} {p pos tpos : Pos} {es : List Expr} {n0 : Nat} {kws : List Keyword} (hg : Gl X "zip") (hm : X.mg "zip" = none) (ha : PA X [e, e2] ta) (hk : PK X kws tk)
    (he : backTo pos (starEach [e, e2] X.env) = (false, eval e X.env) :: backTo pos (starEach [e2] X.env) := by rfl) (hpl : (backTo pos (starEach [e, e2] X.env)).any (·.1) = false := by rfl)
    (hall : (backToKw pos (keywordEach kws X.env)).all (·.1.isSome) = true := by rfl) (hnone : (backToKw pos (keywordEach kws X.env)).any (·.1.isNone) = false := by rfl) (hks : (backToKw pos (keywordEach kws X.env)).filterMap (·.1) = [Str.ofString "strict"] := by rfl) :
    PI X (.Tuple es n0 tpos) (.Call (.Name "zip" p) [e, e2] kws pos) (iZipS X.K ta tk) := by
  refine ⟨fun pins s σ H R I h => ?_⟩
  refine wpAny_Call_Name_kw (ld_blt I hg hm PyProof.Rows.boot_zip (callWith_typeK hpl hnone ?_) (by decide) (by decide))
  have run := ha.run pos pins s σ H _ I h
  rw [he] at run ⊢
  refine PyProof.Rows.evalArgs_kwB hall (thn run fun us s1 got => ?_)
  obtain ⟨vs, H1, I1, r1, q1⟩ := got
  refine thn (hk.run pos pins s1 σ H1 _ I1 q1) fun ks s2 got2 => ?_
  obtain ⟨zs, H2, J, r2, p, q, ys, ws, rfl, rfl, g1, g2, gl, hR⟩ := got2
  obtain ⟨u1, u2, rfl, c1, c2⟩ := vals2 r1
  obtain rfl : u1 = Value.ref p := c1
  obtain rfl : u2 = Value.ref q := c2
  obtain ⟨u3, rfl, c3⟩ := vals1 r2
  obtain rfl : u3 = Value.bool true := c3
  rw [hks]
  obtain ⟨l1, _, t1, _⟩ := J.tuple g1
  obtain ⟨l2, _, t2, _⟩ := J.tuple g2
  have below : ∀ {a : Addr} {xs : Array Value}, s2.heap.IsTuple a xs → a < s2.heap.objs.size := fun h => by
    obtain ⟨o, ho, _⟩ := h
    exact Heap.lt_size ho
  refine strict_begins (begins_tuple p l1.toArray) (begins_tuple q l2.toArray) t1 t2 fun g a1 a2 a3 a4 a5 a6 a7 => iterS a1 ?_
  refine ⟨_, _, _, _, H2, rfl, J.kept (t' := s2.toks) a7, turn_strict (below t1) (below t2), ⟨a1, a2, ⟨_, _, a3⟩, ⟨_, a4, rfl, rfl⟩, ⟨_, a5, rfl, rfl⟩⟩, fun c cm => ?_, hR⟩
  have le : s2.heap.objs.size ≤ c := by
    rcases mAll_mem cm with z | z | z | z | z <;> rw [z]
    · exact Nat.le_add_right _ 4
    · exact Nat.le_add_right _ 2
    · exact Nat.le_add_right _ 3
    · exact Nat.le_refl _
    · exact Nat.le_add_right _ 1
  exact J.fpOk le (J.hok.fresh le)
/-- its turns -/
theorem walk_strict {K : PySem.W.Frag} {p q : Addr} {us vs : List V} (hl : us.length = vs.length) : Walk (ItS K p q) us.length (fun H => SqT K H p us ∧ SqT K H q vs) (fun i H z H' => ∃ c u v, z = V.ref c ∧ H c = none ∧ H' = upd H c (.tup [u, v]) ∧ us[i]? = some u ∧ vs[i]? = some v) where
  goes := fun i H hi g => ⟨us, vs, us[i], vs[i]'(by omega), g.1, g.2, hl, List.getElem?_eq_getElem hi, List.getElem?_eq_getElem (by omega)⟩
  stops := fun H g => ⟨us, vs, g.1, g.2, rfl, hl.symm⟩
  yields := fun i H z H' hi g y => by
    obtain ⟨c, u, v, e, hc, e2, f1, f2⟩ := y
    exact ⟨c, u, v, e, hc, e2, f1 us g.1, f2 vs g.2⟩
end Wc

set_option Elab.async false
set_option linter.all false
set_option maxRecDepth 100000
set_option maxHeartbeats 4000000
/-! max(.., default=d) of ints; setdefault and len of a dict of nested keys -/
namespace Wc
open PySem PySem.Spec PyProof.Rows L2
open PySem.Sem (wp)
section
variable {prog : Program} {w : World} {A : Around} {R : Result → Shared → Prop} {I : Addr} {fp wr : List Addr} {G : Array GenState → Array GenState → Prop} {n : Nat} {P : Nat → Value → Prop} {St : Nat → Shared → Prop} {d : Value}
theorem max_loopD (W : WalksS prog w A.in1 I fp wr G n P St) (bt : Nat → Nat → Bool) (hcmp : CmpOf prog w A.in1 .Gt P bt) (S : Addr) (hSf : S ∉ fp) :
    ∀ (k j : Nat) (s : Shared) (vb : Value) (c : Nat), n - (j + 1) = k → j + 1 ≤ n → St (j + 1) s → P (argBest bt j) vb →
    s.heap.get? S = some { cls := .type "list", dict := none, data := .seq #[vb, vb] c, slots := #[] } →
    (∀ v s', P (argBest bt (n - 1)) v → Moved (S :: wr) G s s' → R (.ok (.ret v)) s') → codeAny (model prog w) A (.builtin "max.loop" ⟨[.ref I, .none, .ref S], [(Str.ofString "default", d)]⟩) R s := by
  have hSw : S ∉ wr := fun h => hSf (W.sub _ h)
  have hsub : ∀ b ∈ wr, b ∈ S :: wr := fun b hb => List.mem_cons_of_mem _ hb
  have hname : (toString "max" ++ toString ".loop" : String) = "max.loop" := by decide
  have notS : ∀ {b : Addr}, b ∉ S :: wr → S ≠ b := fun hb h => hb (by rw [h]; exact List.mem_cons_self)
  intro k
  induction k with
  | zero =>
    intro j s vb c hk hj hst hPb hS hR
    have hin : j + 1 = n := by omega
    refine codeAny_builtin PySem.F.entry_max_loop ?_
    rw [Around.under_plainId PySem.F.plain_max_loop _]
    show wpAny _ A.in1 (seqItems? (.ref S) >>= _) _ _ s
    refine wpAny_bind (wpAny_seqItems hS rfl ?_)
    show wpAny _ A.in1 (tryCatch (pyNext (.ref I)) _ >>= _) _ _ s
    refine wpAny_bind (wpAny_tryCatch (W.done s _ _ (hin ▸ hst) fun s' hm => ?_))
    have hS' := hm.heap S _ hSw hS
    show wpAny _ A.in1 (updateSeq S (fun _ => #[]) >>= _) _ _ _
    refine wpAny_bind ?_
    refine wpAny_updateSeq hS' rfl (wpAny_bind (wpAny_letGo (wpAny_pure ?_)))
    exact hR vb _ (by rw [← hin]; exact hPb) ((hm.mono hsub).then_heap (tk := s'.toks) (Nat.le_refl _) fun b o hb e => (Heap.get?_update_other _ _ (notS hb)).trans e)
  | succ k ih =>
    intro j s vb c hk hj hst hPb hS hR
    have hlt : j + 1 < n := by omega
    refine codeAny_builtin PySem.F.entry_max_loop ?_
    rw [Around.under_plainId PySem.F.plain_max_loop _]
    show wpAny _ A.in1 (seqItems? (.ref S) >>= _) _ _ s
    refine wpAny_bind (wpAny_seqItems hS rfl ?_)
    show wpAny _ A.in1 (tryCatch (pyNext (.ref I)) _ >>= _) _ _ s
    refine wpAny_bind (wpAny_tryCatch (W.item (j + 1) s _ _ hlt hst fun v s' hP hst' hm => ?_))
    have hS' := hm.heap S _ hSw hS
    show wpAny _ A.in1 (tryCatch (holding [v, v] (richCompare .Gt v vb >>= _)) _ >>= _) _ _ _
    refine wpAny_bind (wpAny_tryCatch (wpAny_holding (wpAny_bind (hcmp (j + 1) (argBest bt j) v vb _ _ _ hP hPb ?_))))
    refine wpAny_bind (wpAny_holding (wpAny_truthy_bool ?_))
    refine wpAny_bind (wpAny_letGo (wpAny_pure ?_))
    cases hb : bt (j + 1) (argBest bt j) with
    | true =>
      simp only [if_true]
      refine wpAny_bind ?_
      refine wpAny_updateSeq hS' rfl (wpAny_bind (wpAny_letGo ?_))
      rw [hname]
      refine wpAny_pure ⟨plainId_quiet PySem.F.plain_max_loop _, ih (j + 1) _ v _ (by omega) hlt (W.frame _ s' _ s'.toks hst' (Nat.le_refl _) fun b hbf o e => ?_) (by simp only [argBest, hb, if_true]; exact hP) (Heap.get?_update_self _ hS' rfl)
        fun v' s'' hP' hm'' => ?_⟩
      · exact (Heap.get?_update_other _ _ (fun h : S = b => hSf (by rw [h]; exact hbf))).trans e
      · exact hR v' s'' hP' (Moved.trans W.gtrans ((hm.mono hsub).then_heap (by first | exact Nat.le_refl _ | exact Nat.le_succ _ | omega) fun b o hb e => (Heap.get?_update_other _ _ (notS hb)).trans e) hm'')
    | false =>
      simp only [Bool.false_eq_true, if_false]
      refine wpAny_bind (wpAny_letGo ?_)
      rw [hname]
      refine wpAny_pure ⟨plainId_quiet PySem.F.plain_max_loop _, ih (j + 1) _ vb c (by omega) hlt hst' (by simp only [argBest, hb, Bool.false_eq_true, if_false]; exact hPb) hS' fun v' s'' hP' hm'' => ?_⟩
      exact hR v' s'' hP' (Moved.trans W.gtrans (hm.mono hsub) hm'')

theorem max_firstD (W : WalksS prog w A.in1 I fp wr G n P St) (bt : Nat → Nat → Bool) (hcmp : CmpOf prog w A.in1 .Gt P bt) (S : Addr) (hSf : S ∉ fp) (hn : 0 < n) {s : Shared} {c : Nat} (hst : St 0 s)
    (hS : s.heap.get? S = some { cls := .type "list", dict := none, data := .seq #[] c, slots := #[] })
    (hR : ∀ v s', P (argBest bt (n - 1)) v → Moved (S :: wr) G s s' → R (.ok (.ret v)) s') : codeAny (model prog w) A (.builtin "max.loop" ⟨[.ref I, .none, .ref S], [(Str.ofString "default", d)]⟩) R s := by
  have hSw : S ∉ wr := fun h => hSf (W.sub _ h)
  have hsub : ∀ b ∈ wr, b ∈ S :: wr := fun b hb => List.mem_cons_of_mem _ hb
  have hname : (toString "max" ++ toString ".loop" : String) = "max.loop" := by decide
  have notS : ∀ {b : Addr}, b ∉ S :: wr → S ≠ b := fun hb h => hb (by rw [h]; exact List.mem_cons_self)
  refine codeAny_builtin PySem.F.entry_max_loop ?_
  rw [Around.under_plainId PySem.F.plain_max_loop _]
  show wpAny _ A.in1 (seqItems? (.ref S) >>= _) _ _ s
  refine wpAny_bind (wpAny_seqItems hS rfl ?_)
  show wpAny _ A.in1 (tryCatch (pyNext (.ref I)) _ >>= _) _ _ s
  refine wpAny_bind (wpAny_tryCatch (W.item 0 s _ _ hn hst fun v s' hP hst' hm => ?_))
  have hS' := hm.heap S _ hSw hS
  show wpAny _ A.in1 (updateSeq S (fun _ => #[v, v]) >>= _) _ _ _
  refine wpAny_bind ?_
  refine wpAny_updateSeq hS' rfl ?_
  rw [hname]
  refine wpAny_pure ⟨plainId_quiet PySem.F.plain_max_loop _, max_loopD W bt hcmp S hSf _ 0 _ v _ rfl hn (W.frame _ s' _ s'.toks hst' (Nat.le_refl _) fun b hbf o e => ?_) hP (Heap.get?_update_self _ hS' rfl) fun v' s'' hP' hm'' => ?_⟩
  · exact (Heap.get?_update_other _ _ (fun h : S = b => hSf (by rw [h]; exact hbf))).trans e
  · exact hR v' s'' hP' (Moved.trans W.gtrans ((hm.mono hsub).then_heap (by first | exact Nat.le_refl _ | exact Nat.le_succ _ | omega) fun b o hb e => (Heap.get?_update_other _ _ (notS hb)).trans e) hm'')
/-- nothing to choose from -/
theorem max_noneD (W : WalksS prog w A.in1 I fp wr G 0 P St) (S : Addr) (hSf : S ∉ fp) {s : Shared} {c : Nat} (hst : St 0 s)
    (hS : s.heap.get? S = some { cls := .type "list", dict := none, data := .seq #[] c, slots := #[] })
    (hR : ∀ s', Moved (S :: wr) G s s' → R (.ok (.ret d)) s') : codeAny (model prog w) A (.builtin "max.loop" ⟨[.ref I, .none, .ref S], [(Str.ofString "default", d)]⟩) R s := by
  have hSw : S ∉ wr := fun h => hSf (W.sub _ h)
  have hsub : ∀ b ∈ wr, b ∈ S :: wr := fun b hb => List.mem_cons_of_mem _ hb
  refine codeAny_builtin PySem.F.entry_max_loop ?_
  rw [Around.under_plainId PySem.F.plain_max_loop _]
  show wpAny _ A.in1 (seqItems? (.ref S) >>= _) _ _ s
  refine wpAny_bind (wpAny_seqItems hS rfl ?_)
  show wpAny _ A.in1 (tryCatch (pyNext (.ref I)) _ >>= _) _ _ s
  refine wpAny_bind (wpAny_tryCatch (W.done s _ _ hst fun s' hm => ?_))
  exact wpAny_bind (wpAny_rule (wpAny_pure (hR s' (hm.mono hsub))))
end
theorem args_maxD (a v : Value) : argsOk "max" ⟨[a], [(Str.ofString "default", v)]⟩ := by unfold argsOk; kernel_rfl
section
variable {prog : Program} {w : World} {A : Around} {E : Value → Shared → Prop} {s : Shared}
theorem call_maxD {x d : Value} {Q : Value → Shared → Prop}
    (h : wpAny (model prog w) A.in1 (pyIter x) (fun it s₂ => ∃ I fp wr G n P St bt, it = .ref I ∧ WalksS prog w A.in1 I fp wr G n P St ∧ St 0 s₂ ∧ (∀ b ∈ fp, b < s₂.heap.objs.size) ∧ CmpOf prog w A.in1 .Gt P bt ∧
      (n = 0 → ∀ s', Moved wr G s₂ s' → Q d s') ∧ (0 < n → ∀ v s', P (argBest bt (n - 1)) v → Moved wr G s₂ s' → Q v s')) E s) :
    wpAny (model prog w) A (call (.builtin "max") [x] [(Str.ofString "default", d)]) Q E s := by
  have hname : (toString "max" ++ toString ".loop" : String) = "max.loop" := by decide
  refine kmb_tree PySem.F.kind_max PySem.F.plain_max PySem.F.entry_max (args_maxD _ _) ?_
  show wpAny _ A.in1 (Builtin.Builtins.bindParams "max" ["key", "default"] 0 ⟨[], [(Str.ofString "default", d)]⟩ >>= _) _ _ s
  refine wpAny_bind (wpAny_of_eq (show Builtin.Builtins.bindParams "max" ["key", "default"] 0 ⟨[], [(Str.ofString "default", d)]⟩ = pure [none, some d] from rfl) ?_)
  refine wpAny_bind (wpAny_pure ?_)
  refine wpAny_bind (wpAny_mono h (fun it s₂ h₂ => ?_) fun _ _ e => e)
  obtain ⟨I, fp, wr, G, n, P, St, bt, rfl, W, hst, hfp, hcmp, hQ0, hQ⟩ := h₂
  refine wpAny_bind (wpAny_newObj_type ?_)
  have hSf : s₂.heap.objs.size ∉ fp := fun hm => Nat.lt_irrefl _ (hfp _ hm)
  rw [hname]
  have st2 := W.frame 0 s₂ _ s₂.toks hst (Nat.le_refl _) (fun b _ o e => Heap.get?_push_of_some { cls := .type "list", data := .seq ([] : List Value).toArray } e)
  rcases Nat.eq_zero_or_pos n with z | hn
  · subst z
    refine wpAny_pure ⟨plainId_quiet PySem.F.plain_max_loop _, max_noneD W s₂.heap.objs.size hSf st2 (Heap.get?_push_size _ rfl) fun s' hm => ?_⟩
    exact hQ0 rfl s' (Moved.drop_new (tk := s₂.toks) hm (Nat.le_refl _))
  · refine wpAny_pure ⟨plainId_quiet PySem.F.plain_max_loop _, max_firstD W bt hcmp s₂.heap.objs.size hSf hn st2 (Heap.get?_push_size _ rfl) fun v s' hP hm => ?_⟩
    exact hQ hn v s' hP (Moved.drop_new (tk := s₂.toks) hm (Nat.le_refl _))
theorem maxD_ints {l : Addr} {xs : Array (Int × Tok)} {d : Value} {Q : Value → Shared → Prop} (hh : A.handled = none) (hl : s.heap.IsList l (intItems xs))
    (h0 : xs.size = 0 → ∀ h' tk, (∀ b o, s.heap.get? b = some o → h'.get? b = some o) → Q d { s with heap := h', toks := tk })
    (h : 0 < xs.size → ∀ v h' tk, (intItems xs)[argBest (fun i j => decide (numAt xs i > numAt xs j)) (xs.size - 1)]? = some v → (∀ b o, s.heap.get? b = some o → h'.get? b = some o) → Q v { s with heap := h', toks := tk }) :
    wpAny (model prog w) A (call (.builtin "max") [.ref l] [(Str.ofString "default", d)]) Q E s := by
  have out : ∀ {s₂ s' : Shared} {o : Obj} {v : Value}, s₂ = { s with heap := s.heap.push { cls := .type "list_iterator", data := .fields #[.ref l, .int 0 0] } } → Moved [s.heap.objs.size] (fun a b => b = a) s₂ s' →
      (∀ h' tk, (∀ b o, s.heap.get? b = some o → h'.get? b = some o) → Q v { s with heap := h', toks := tk }) → Q v s' := fun {s₂ s' o v} e hm q => by
    subst e
    obtain ⟨h1, h2, h3, h4, _⟩ := hm
    have k := q s'.heap s'.toks (old_kept h1)
    have e2 : s' = { s with heap := s'.heap, toks := s'.toks } := by
      obtain ⟨a, b, c, dd, e⟩ := s'
      cases h2
      cases h3
      cases h4
      rfl
    rw [e2]
    exact k
  refine call_maxD (iter_intList hl fun s₂ e st hfp hlI => ?_)
  have W := Walks.list (prog := prog) (w := w) (A := A.in1) (hh) s.heap.objs.size l hlI (intItems xs)
  refine ⟨_, _, _, _, _, _, _, _, rfl, W.toS, st, hfp, CmpOf.ints_gt (numAt xs) (fun _ _ => intItems_at), fun hn s' hm => ?_, fun hn v s' hP hm => ?_⟩
  · exact out (o := default) e hm (h0 (by simpa [intItems] using hn))
  · exact out (o := default) e hm fun h' tk hk => h (by simpa [intItems] using hn) v h' tk (by simpa [intItems] using hP) hk
theorem maxD_raw {l : Addr} {its : List Value} {ns : List Int} {d : Value} {Q : Value → Shared → Prop} (hh : A.handled = none) (hl : s.heap.IsList l its.toArray) (hi : IntsAre its ns)
    (h0 : ns = [] → ∀ h' tk, (∀ b o, s.heap.get? b = some o → h'.get? b = some o) → Q d { s with heap := h', toks := tk })
    (h : ∀ h' tk M t', (∀ b o, s.heap.get? b = some o → h'.get? b = some o) → M ∈ ns → (∀ a, a ∈ ns → a ≤ M) → Q (.int M t') { s with heap := h', toks := tk }) :
    wpAny (model prog w) A (call (.builtin "max") [.ref l] [(Str.ofString "default", d)]) Q E s := by
  obtain ⟨xs, e⟩ := hi.allInts.items
  have hn : numsOf (intItems xs).toList = ns := by rw [← e]; exact hi.numsOf
  rw [nums_intItems] at hn
  subst hn
  rw [e] at hl
  refine maxD_ints hh hl (fun z => h0 ?_) fun hne v h' tk hv hk => ?_
  · have : xs.toList.length = 0 := by simpa using z
    rw [List.length_eq_zero_iff.mp this]
    rfl
  · obtain ⟨t, rfl⟩ := intItems_at hv
    obtain ⟨h1, h2⟩ := argBest_gt (numAt xs) (xs.size - 1)
    refine h h' tk _ t hk ?_ fun a ha => ?_
    · rw [numAt_eq]; exact PySem.getD_mem (by rw [List.length_map, Array.length_toList]; omega)
    · obtain ⟨j, hj, rfl⟩ := mem_getD ha
      rw [List.length_map, Array.length_toList] at hj
      rw [← numAt_eq]; exact h2 j (by omega)
end
/-- max(xs, default=d), ints -/
def maxI (d : Int) (ns : List Int) : Int := ns.foldr max (if ns = [] then d else ns.headD 0)
def rMaxD (K : PySem.W.Frag) : List V → List V → Hp → VK → Prop := fun vs zs H Q => ∃ (a : Addr) (ns : List Int) (d : Int), vs = [V.ref a] ∧ zs = [V.int d] ∧ SqL K H a (ns.map V.int) ∧ (ns = [] → Q (.int d) H) ∧ ∀ m, m ∈ ns → (∀ y, y ∈ ns → y ≤ m) → Q (.int m) H
theorem cr_maxD {X : Cx} (hc : X.calm = true) : CallRK X (.builtin "max") [Str.ofString "default"] (rMaxD X.K) := by
  intro pins s σ H vs zs us ws Q I r rz h
  obtain ⟨a, ns, d, rfl, rfl, hs, q0, q⟩ := h
  obtain ⟨its, rv, hl, _⟩ := I.list hs
  rw [Vals.ref1 r]
  obtain ⟨w1, rfl, e1⟩ := vals1 rz
  obtain ⟨t, rfl⟩ : ∃ t, w1 = Value.int d t := e1
  exact maxD_raw (I.ok.hd hc) hl.isList rv.ints (fun e h' tk hk => ⟨.int d, H, I.kept hk, ⟨_, rfl⟩, q0 e⟩) fun h' tk m t' hk h1 h2 => ⟨.int _, H, I.kept hk, ⟨_, rfl⟩, q m h1 h2⟩
/-! ### d.setdefault(k, v), len(d) -/
section
variable {X : Cx}
def rNDef (P : Program) (w : World) : V → List V → Hp → VK → Prop := fun x xs H Q => ∃ a y v kvs k, x = .ref a ∧ xs = [y, v] ∧ NKey H y k ∧ Tb P w H a kvs ∧ kvs.length < sizeLine ∧
  (∀ z, valV kvs k = some z → Q z H) ∧ (valV kvs k = none → ∀ H', Fr [a] H H' → Mo H H' → ND P w H' a (kvs ++ [(k, v)]) → Q v H')
theorem mt_ndef (hu : X.A.units + 9 < cLine) : MtR X "dict.setdefault" (rNDef X.prog X.w) := by
  intro pins s σ H x xs v us Q I rx rxs h
  obtain ⟨a, y, v0, kvs, k, rfl, rfl, nk, tb, hl, q1, q2⟩ := h
  obtain ⟨u1, u2, rfl, ry, rv⟩ := vals2 rxs
  obtain rfl : v = Value.ref a := rx
  obtain ⟨mu, u0, hu0, im⟩ := tb_mut tb
  obtain ⟨_, hky, hdk⟩ := id nk
  obtain ⟨b, rfl, rfl, hk⟩ := nkey_is I.hok nk ry
  obtain ⟨xs, dd, hm, hz, rel⟩ := tb.at_ I.hok
  refine call_setdefault_heap (hsz := hz) (by show _ + 1 + 8 < cLine; exact hu) hk hm dd (fun p hp => ?_) fun hn h' dd' hs' => ?_
  · have rr := NRel.val rel k
    rw [hp] at rr
    cases e : valV kvs k with
    | none =>
      rw [e] at rr
      exact rr.elim
    | some z =>
      rw [e] at rr
      exact ⟨z, H, I.tok _, rr, q1 z e⟩
  · have e : valV kvs k = none := by
      have rr := NRel.val rel k
      rw [hn] at rr
      cases e : valV kvs k with
      | none => rfl
      | some z =>
        rw [e] at rr
        exact rr.elim
    have rel' := NRel.put rel k hky hdk rv
    have hz' : (storedH xs k b u2).length ≤ sizeLine := by
      rw [← Paired.length rel']
      have := length_putK kvs k v0
      omega
    have eP : putK kvs k v0 = kvs ++ [(k, v0)] := by
      unfold putK
      rw [if_neg]
      rw [valV_any, e]
      exact Bool.false_ne_true
    rw [eP] at rel'
    have mo : Mo H (upd H a (.ext (NDo X.prog X.w a (storedH xs k b u2)))) := Mo.upd hu0 im
    obtain ⟨n1, n2⟩ := nd_laid (h := s.heap) dd' hm hz' rel' mo
    have he : ∃ q, h'.get? a = some q := let ⟨q, _, _, hq, _⟩ := dd'; ⟨q, hq⟩
    exact ⟨v0, _, d_write I mu hs' he n1, rv, q2 e _ (Fr.updE (by simp)) mo n2⟩
def rNLen (P : Program) (w : World) : List V → Hp → VK → Prop := fun xs H Q => ∃ a kvs, xs = [.ref a] ∧ Tb P w H a kvs ∧ Q (.int kvs.length) H
theorem cr_nlen : CallR X (.builtin "len") (rNLen X.prog X.w) := by
  intro pins s σ H xs us Q I r h
  obtain ⟨a, kvs, rfl, tb, q⟩ := h
  rw [Vals.ref1 r]
  obtain ⟨xs, dd, hm, hz, rel⟩ := tb.at_ I.hok
  have hl : kvs.length = xs.length := Paired.length rel
  refine call_len_dictH hm dd (by rw [sizeLine_eq] at hz; omega) ?_
  rw [← hl]
  exact ⟨.int ((kvs.length : Nat) : Int), H, I.tok _, ⟨_, rfl⟩, q⟩
end
end Wc

set_option Elab.async false
set_option linter.all false
set_option maxRecDepth 100000
set_option maxHeartbeats 4000000
/-! == and != of instances with an own __eq__, with both answers; of an int and such an instance; isinstance of an own class -/
namespace Wc
open PySem PySem.Spec PyProof.Rows L2
section
variable {prog : Program} {w : World} {A : Around} {E : Value → Shared → Prop} {s : Shared} {K : PySem.W.Frag} {x C L f : Addr} {ox : Obj} {od : Option Obj} {name : Str} {b tb : Value}
theorem ifBound_slot {id : String} {args : List Value} {Q : Option Value → Shared → Prop} (X : K.In s.heap) (I : PySem.W.InstAt s.heap x ox C od) (hs : PySem.W.findIn K (.ref C) name = some (some (.builtin id)))
    (hb : ∀ self, bindSpecial (.builtin id) self = pure (.builtin id, [self]))
    (h : wpAny (model prog w) A (call (.builtin id) (.ref x :: args)) (fun v => Q (some v)) E s) : wpAny (model prog w) A (callSpecialIfBound? (.ref x) name args) Q E s := by
  simp only [callSpecialIfBound?, bindSpecialIfBound?]
  refine wpAny_holding (wpAny_bind (wpAny_bind (wpAny_bind (I.type.here ((PySem.W.looks_findIn X hs).here ?_)))))
  simp only [hb]
  refine wpAny_bind (wpAny_askSetting (wpAny_ite ?_))
  have fin : wpAny (model prog w) A (call (.builtin id) ([.ref x] ++ args) >>= fun v => pure (some v)) Q E s := wpAny_bind (wpAny_mono h (fun v s' h' => wpAny_pure h') fun _ _ h' => h')
  split
  · exact wpAny_bind (wpAny_pure (wpAny_pure fin))
  · exact wpAny_tryCatch (wpAny_bind (wpAny_pure (wpAny_pure fin)))
theorem slot_obj_ne : Slot "object" (cmpInfo .NotEq).2.1 "object.__ne__" :=
  Slot.of (owner := "object") (n := "__ne__") (by rw [typeLookup_type, builtinLookup_eq_fast]; kernel_rfl) (by decide +kernel) (by decide +kernel) (by decide +kernel) (.inl (by decide +kernel)) (by rw [isSubtype_type]; kernel_rfl)
/-- what stands for != in a class with an own == -/
theorem call_one (X : K.In s.heap) (I : PySem.W.InstAt s.heap x ox C od) (hu : A.units + 1 < cLine) (hm : PySem.W.mroIn K C (.type "object") = some true)
    (hs : PySem.W.findIn K (.ref C) "__eq__" = some (some (.ref f))) (hf : PySem.W.isFn K (.ref f) = true) {Q : Value → Shared → Prop}
    (h : wpAny (model prog w) A.in1 (call (.ref f) [.ref x, b]) (fun v s' => ∃ c, v = .bool c ∧ Q (.bool (!c)) s') E s) : wpAny (model prog w) A (call (.builtin "object.__ne__") [.ref x, b]) Q E s := by
  refine wpAny_call (codeAny_call_builtin slot_obj_ne.plain PySem.F.cmpEntry_ne (PySem.W.check_slot PySem.F.cmpKind_ne PySem.F.cmpSplit_ne (I.type.andThen (PySem.W.looks_mroIn X hm)) (PySem.F.cmpArgs_ne _ _) ?_))
  unfold Builtin.«object.__ne__»
  show wpAny _ _ (cRoomFor "comparison" [.ref x, b] >>= _) _ _ _
  refine wpAny_bind (wpAny_cRoomFor (by show A.units + 1 < cLine; exact hu) ?_)
  refine wpAny_bind (PySem.W.ifBound_K X I hs hf (wpAny_mono h (fun v s' hv => ?_) fun _ _ e => e))
  obtain ⟨c, rfl, q⟩ := hv
  refine wpAny_bind (wpAny_truthy_bool ?_)
  exact wpAny_pure q
theorem ne_K {Q : Value → Shared → Prop} (hu : A.units + 1 < cLine) (X : K.In s.heap) (I : PySem.W.InstAt s.heap x ox C od) (hb : PySem.W.Looks (model prog w) s.heap (typeOf b) tb) (hn : PySem.W.notFirst K C tb = true)
    (hne : PySem.W.findIn K (.ref C) "__ne__" = some (some (.builtin "object.__ne__"))) (hm : PySem.W.mroIn K C (.type "object") = some true)
    (hs : PySem.W.findIn K (.ref C) "__eq__" = some (some (.ref f))) (hf : PySem.W.isFn K (.ref f) = true)
    (h : wpAny (model prog w) A.in1 (call (.ref f) [.ref x, b]) (fun v s' => ∃ c, v = .bool c ∧ Q (.bool (!c)) s') E s) : wpAny (model prog w) A (richCompare .NotEq (.ref x) b) Q E s := by
  have one : wpAny (model prog w) A (tryCompare (.ref x) "__ne__" b) (fun r s' => ∃ v, r = some v ∧ Q v s') E s := by
    unfold tryCompare
    refine wpAny_bind (ifBound_slot X I hne slot_obj_ne.bind (call_one X I hu hm hs hf (wpAny_mono h (fun v s' hv => ?_) fun _ _ e => e)))
    obtain ⟨c, rfl, q⟩ := hv
    exact ⟨c, rfl, wpAny_pure ⟨_, rfl, q⟩⟩
  unfold richCompare
  simp only [oneThing_ref]
  refine wpAny_holding (wpAny_bind (wpAny_cRoomFor (Nat.lt_of_succ_lt hu) ?_))
  refine wpAny_bind (I.type.here (wpAny_bind (hb.here ?_)))
  split
  · rename_i q
    have e : PySem.W.subIn K tb (.ref C) = some false := by
      rcases Bool.or_eq_true_iff.mp hn with e | e
      · rw [beq_iff_eq.mp e] at q; simp at q
      · exact beq_iff_eq.mp e
    refine wpAny_bind ((PySem.W.looks_subIn X e).here ?_)
    simp only [Bool.false_eq_true, if_false]
    refine wpAny_bind (wpAny_mono one (fun r s' z => ?_) fun _ _ e => e)
    obtain ⟨v, rfl, hq⟩ := z
    exact wpAny_pure hq
  · refine wpAny_bind (wpAny_pure ?_)
    simp only [Bool.false_eq_true, if_false]
    refine wpAny_bind (wpAny_mono one (fun r s' z => ?_) fun _ _ e => e)
    obtain ⟨v, rfl, hq⟩ := z
    exact wpAny_pure hq
/-! an int on the left -/
section
variable {n : Int} {t : Tok} {dx : Addr}
theorem intEq_not {Q : PySem.Fin → Shared → Prop} (X : K.In s.heap) (I : PySem.W.InstAt s.heap x (PySem.W.instObj C dx) C od) (hi : PySem.W.mroIn K C (.type "int") = some false) (q : Q (.done (.ret .notImplemented)) s) :
    wpAny (model prog w) A (Builtin.«int.__eq__» ⟨[.int n t, .ref x], []⟩) Q E s := by
  have L : PySem.W.Looks (model prog w) s.heap (isInstance (.ref x) (.type "int")) false := I.type.andThen (PySem.W.looks_mroIn X hi)
  have l1 : ∀ {A' : Around} {E' : Value → Shared → Prop} {Q' : Bool → Shared → Prop}, Q' false s → wpAny (model prog w) A' (isInstance (.ref x) (.type "int")) Q' E' s := fun h => L.here h
  obtain ⟨hp, g, d, tk, os⟩ := s
  wp_walk using l1
  refine wpAny_load I.at_ ?_
  show wpAny _ _ (pure none) _ _ _
  refine wpAny_pure ?_
  show wpAny _ _ (rule _ >>= _) _ _ _
  exact wpAny_bind (wpAny_rule (wpAny_pure q))
theorem intNe_not {Q : PySem.Fin → Shared → Prop} (X : K.In s.heap) (I : PySem.W.InstAt s.heap x (PySem.W.instObj C dx) C od) (hi : PySem.W.mroIn K C (.type "int") = some false) (q : Q (.done (.ret .notImplemented)) s) :
    wpAny (model prog w) A (Builtin.«int.__ne__» ⟨[.int n t, .ref x], []⟩) Q E s := by
  have L : PySem.W.Looks (model prog w) s.heap (isInstance (.ref x) (.type "int")) false := I.type.andThen (PySem.W.looks_mroIn X hi)
  have l1 : ∀ {A' : Around} {E' : Value → Shared → Prop} {Q' : Bool → Shared → Prop}, Q' false s → wpAny (model prog w) A' (isInstance (.ref x) (.type "int")) Q' E' s := fun h => L.here h
  obtain ⟨hp, g, d, tk, os⟩ := s
  wp_walk using l1
  refine wpAny_load I.at_ ?_
  show wpAny _ _ (pure none) _ _ _
  refine wpAny_pure ?_
  show wpAny _ _ (rule _ >>= _) _ _ _
  exact wpAny_bind (wpAny_rule (wpAny_pure q))
theorem notFirst_t {T : String} (h : PySem.W.subIn K (.type T) (.ref C) = some false) : PySem.W.notFirst K C (.type T) = true := by
  unfold PySem.W.notFirst
  rw [h]
  simp
/-- an int compared with such an instance: the instance answers -/
theorem eq_int_own {Q : Value → Shared → Prop} (hu : A.units + 1 < cLine) (X : K.In s.heap) (I : PySem.W.InstAt s.heap x (PySem.W.instObj C dx) C od) (hi : PySem.W.mroIn K C (.type "int") = some false)
    (hs : PySem.W.findIn K (.ref C) "__eq__" = some (some (.ref f))) (hf : PySem.W.isFn K (.ref f) = true)
    (h : wpAny (model prog w) A (call (.ref f) [.ref x, .int n t]) (fun v s' => ∃ c, v = .bool c ∧ Q (.bool c) s') E s) : wpAny (model prog w) A (richCompare .Eq (.int n t) (.ref x)) Q E s := by
  unfold richCompare
  simp only [(typeIs_int s n t).oneThing_none]
  refine wpAny_holding (wpAny_bind (wpAny_cRoomFor (Nat.lt_of_succ_lt hu) ?_))
  refine wpAny_bind (wpAny_typeOf (typeIs_int s n t) (wpAny_bind (I.type.here ?_)))
  rw [if_pos (show (Value.type "int" != Value.ref C) = true from rfl)]
  refine wpAny_bind ((PySem.W.looks_mroIn X hi).here ?_)
  simp only [Bool.false_eq_true, if_false, Bool.not_false, if_true]
  refine wpAny_bind (wpAny_tryCompare_declines (typeIs_int s n t) PySem.F.slot_int_eq (wpAny_call_entry PySem.F.slot_int_eq (typeIs_int s n t) PySem.F.entry_int_eq (intEq_not X I hi ⟨_, rfl, rfl, ?_⟩) (PySem.F.args_int_eq_2 _ _)))
  unfold tryCompare
  refine wpAny_bind (wpAny_bind (PySem.W.ifBound_K X I hs hf (wpAny_mono h (fun v s' hv => ?_) fun _ _ e => e)))
  obtain ⟨c, rfl, q⟩ := hv
  exact wpAny_pure (wpAny_pure q)
theorem ne_int_own {Q : Value → Shared → Prop} (hu : A.units + 1 < cLine) (X : K.In s.heap) (I : PySem.W.InstAt s.heap x (PySem.W.instObj C dx) C od) (hi : PySem.W.mroIn K C (.type "int") = some false)
    (hne : PySem.W.findIn K (.ref C) "__ne__" = some (some (.builtin "object.__ne__"))) (hm : PySem.W.mroIn K C (.type "object") = some true)
    (hs : PySem.W.findIn K (.ref C) "__eq__" = some (some (.ref f))) (hf : PySem.W.isFn K (.ref f) = true)
    (h : wpAny (model prog w) A.in1 (call (.ref f) [.ref x, .int n t]) (fun v s' => ∃ c, v = .bool c ∧ Q (.bool (!c)) s') E s) : wpAny (model prog w) A (richCompare .NotEq (.int n t) (.ref x)) Q E s := by
  unfold richCompare
  simp only [(typeIs_int s n t).oneThing_none]
  refine wpAny_holding (wpAny_bind (wpAny_cRoomFor (Nat.lt_of_succ_lt hu) ?_))
  refine wpAny_bind (wpAny_typeOf (typeIs_int s n t) (wpAny_bind (I.type.here ?_)))
  rw [if_pos (show (Value.type "int" != Value.ref C) = true from rfl)]
  refine wpAny_bind ((PySem.W.looks_mroIn X hi).here ?_)
  simp only [Bool.false_eq_true, if_false, Bool.not_false, if_true]
  refine wpAny_bind (wpAny_tryCompare_declines (typeIs_int s n t) PySem.F.slot_int_ne (wpAny_call_entry PySem.F.slot_int_ne (typeIs_int s n t) PySem.F.entry_int_ne (intNe_not X I hi ⟨_, rfl, rfl, ?_⟩) (PySem.F.args_int_ne_2 _ _)))
  unfold tryCompare
  refine wpAny_bind (wpAny_bind (ifBound_slot X I hne slot_obj_ne.bind (call_one X I hu hm hs hf (wpAny_mono h (fun v s' hv => ?_) fun _ _ e => e))))
  obtain ⟨c, rfl, q⟩ := hv
  exact ⟨c, rfl, wpAny_pure (wpAny_pure q)⟩
end
end
/-! ### the rules -/
/-- a class with its own == -/
structure OwnC (K : PySem.W.Frag) (C f : Addr) : Prop where
  eq : PySem.W.findIn K (.ref C) "__eq__" = some (some (.ref f))
  fn : PySem.W.isFn K (.ref f) = true
  ne : PySem.W.findIn K (.ref C) "__ne__" = some (some (.builtin "object.__ne__"))
  obj : PySem.W.mroIn K C (.type "object") = some true
  int : PySem.W.mroIn K C (.type "int") = some false
  ca : PySem.W.findIn K (.ref C) "__class__" = some (some (.builtin "object.__class__"))
  cg : PySem.W.specialIn K (.builtin "object.__class__") "__get__" = some (some (.builtin "getset_descriptor.__get__"))
  ct : PySem.W.takesIn K (.builtin "object.__class__") = some true
  ki : PySem.W.kitOne K (.type "int") (.ref C) = some false
  ks : PySem.W.kitOne K (.type "str") (.ref C) = some false
  kn : PySem.W.kitOne K (.type "NoneType") (.ref C) = some false
  kt : PySem.W.kitOne K (.type "tuple") (.ref C) = some false
  kb : PySem.W.kitOne K (.type "bool") (.ref C) = some false
  kl : PySem.W.kitOne K (.type "list") (.ref C) = some false
  kd : PySem.W.kitOne K (.type "dict") (.ref C) = some false
  ci : PySem.W.kitOne K (.ref C) (.type "int") = some false
  cb : PySem.W.kitOne K (.ref C) (.type "bool") = some false
  ctp : PySem.W.kitOne K (.ref C) (.type "tuple") = some false
def ownEqB (K : PySem.W.Frag) (C f : Addr) : Bool :=
  decide (PySem.W.findIn K (.ref C) "__eq__" = some (some (.ref f))) && (PySem.W.isFn K (.ref f) && (decide (PySem.W.findIn K (.ref C) "__ne__" = some (some (.builtin "object.__ne__"))) && (decide (PySem.W.mroIn K C (.type "object") = some true) && (decide (PySem.W.mroIn K C (.type "int") = some false) &&
  (decide (PySem.W.findIn K (.ref C) "__class__" = some (some (.builtin "object.__class__"))) && (decide (PySem.W.specialIn K (.builtin "object.__class__") "__get__" = some (some (.builtin "getset_descriptor.__get__"))) && (decide (PySem.W.takesIn K (.builtin "object.__class__") = some true) &&
  ((["int", "str", "NoneType", "tuple", "bool", "list", "dict"].all fun T => decide (PySem.W.kitOne K (.type T) (.ref C) = some false)) && ["int", "bool", "tuple"].all fun T => decide (PySem.W.kitOne K (.ref C) (.type T) = some false)))))))))
theorem ownEqB_ok {K : PySem.W.Frag} {C f : Addr} (h : ownEqB K C f = true) : OwnC K C f := by
  unfold ownEqB at h
  simp only [Bool.and_eq_true, decide_eq_true_eq, List.all_cons, List.all_nil] at h
  obtain ⟨h1, h2, h3, h4, h5, h6, h7, h8, ⟨a1, a2, a3, a4, a5, a6, a7, _⟩, b1, b2, b3, _⟩ := h
  exact ⟨h1, h2, h3, h4, h5, h6, h7, h8, a1, a2, a3, a4, a5, a6, a7, b1, b2, b3⟩
theorem OwnC.ty {K : PySem.W.Frag} {C f : Addr} (O : OwnC K C f) (cl : Cls K C) {H : Hp} {a dx : Addr} {fs : List (Str × V)} (h : H a = some (.ins C dx fs)) : TyX K H (.ref a) (.ref C) := .base (.ins h cl O.ca O.cg O.ct O.obj)
theorem OwnC.self {K : PySem.W.Frag} {C : Addr} : PySem.W.kitOne K (.ref C) (.ref C) = some true := by
  unfold PySem.W.kitOne
  simp
theorem notFirst_self {K : PySem.W.Frag} {C : Addr} : PySem.W.notFirst K C (.ref C) = true := by
  unfold PySem.W.notFirst
  simp
theorem notFirst_ty {K : PySem.W.Frag} {C : Addr} {T : String} (h : (fastBuiltinMro T).map (·.contains (.ref C)) = some false) : PySem.W.notFirst K C (.type T) = true := notFirst_t h
/-- x an instance of C: x == y, as its own == says -/
def rOwn (K : PySem.W.Frag) (C : Addr) (sp : Sp) (ne : Bool) : R2 := fun x y H Q => ∃ a dx fs t, x = .ref a ∧ H a = some (.ins C dx fs) ∧ TyX K H y t ∧ PySem.W.notFirst K C t = true ∧ sp [x, y] H (fun v H' => ∃ b, v = .bl b ∧ Q (.bl (if ne = true then !b else b)) H') E0
/-- an int on the left -/
def rOwnR (C : Addr) (sp : Sp) (ne : Bool) : R2 := fun x y H Q => ∃ i a dx fs, x = .int i ∧ y = .ref a ∧ H a = some (.ins C dx fs) ∧ sp [y, x] H (fun v H' => ∃ b, v = .bl b ∧ Q (.bl (if ne = true then !b else b)) H') E0
theorem OpR.or {X : Cx} {f : Value → Value → Sem Value} {r r' : R2} (h : OpR X f r) (h' : OpR X f r') : OpR X f (fun x y H Q => r x y H Q ∨ r' x y H Q) := by
  intro pins s σ H x y u v Q I rx ry hq
  rcases hq with hq | hq
  · exact h pins s σ H x y u v Q I rx ry hq
  · exact h' pins s σ H x y u v Q I rx ry hq
section
variable {X : Cx} {CX : CXT} {k j : Nat} {C f : Addr} {ps : List Str} {sp : Sp}
/-- the own == is called -/
theorem own_call {fd : FuncData} {A : Around} {pins : List (Addr × Obj)} {σ : L2.St} {H : Hp} {s : Shared} {a : Addr} {y : V} {v : Value} {Q : VK} {E : XK} (F : FnOk X.prog X.w X.K X.mg X.base CX k f fd ps sp) (hb : Binds X.K fd ps []) (hx : Passes CX X E)
    (hr : Room k A) (ef : A.frames = X.A.frames) (I : Inv X pins σ H s) (ry : RelV y v) (h : sp [.ref a, y] H (fun v H' => ∃ b, v = .bl b ∧ Q (.bl b) H') E) :
    wpAny (model X.prog X.w) A (call (.ref f) [.ref a, v]) (fun u s' => ∃ b, u = .bool b ∧ ∃ H', Inv X pins σ H' s' ∧ Q (.bl b) H') X.xe s := by
  have e0 : Env0 X.prog X.w X.K X.mg X.base A X.stack s H := by
    have e := I.env0
    exact ⟨by rw [ef]; exact e.frames, e.mod, e.bs, e.bsz, e.funs, e.frf, e.hok, e.bare⟩
  have hl := F.len _ _ _ _ h
  have r2 : Vals [V.ref a, y] [Value.ref a, v] := .cons rfl (.cons ry .nil)
  refine wpAny_call (codeAny_mono (F.run A X.stack s H ⟨[.ref a, v], []⟩ [.ref a, v] [.ref a, y] _ E hr e0 (by
    have := hb s [.ref a, v] I.kIn (by simpa using hl)
    simpa using this) r2 h) fun r s' hq => ?_)
  cases r with
  | error e => exact hx pins σ H s e s' I hq
  | ok fl =>
    cases fl with
    | ret w =>
      obtain ⟨z, H', I', rz, b, ez, q⟩ := I.after hq
      subst ez
      obtain rfl : w = Value.bool b := rz
      exact ⟨b, rfl, H', I', q⟩
    | next => exact False.elim hq
    | brk => exact False.elim hq
    | cont => exact False.elim hq
theorem op_eqOwn (O : OwnC X.K C f) (Mt : ∃ fd, Binds X.K fd ps [] ∧ FnOk X.prog X.w X.K X.mg X.base CX k f fd ps sp) (hr : Room j X.A) (hk : k ≤ j := by decide) (hx : Passes CX X E0 := by first | exact pass0 | exact passL) : OpR X (compareOp .Eq) (rOwn X.K C sp false) := by
  intro pins s σ H x y u v Q I rx ry hq
  obtain ⟨a, dx, fs, t, rfl, ha, ty, nf, q⟩ := hq
  obtain rfl : u = Value.ref a := rx
  obtain ⟨fd, hb, F⟩ := Mt
  obtain ⟨mA, J, _⟩ := ins_get I.hok ha
  obtain ⟨od, J, _⟩ := J.look
  obtain ⟨P, Z, p, _⟩ := kit_of I ry ty
  obtain ⟨m, hF⟩ := I.fr
  show wpAny (model X.prog X.w) X.A (richCompare .Eq _ _) _ _ _
  refine PySem.W.cmp_K (op := .Eq) hr.units0 hF I.ok.mod.kin J (Z.ty _ _ I.kIn p) nf O.eq O.fn (wpAny_mono (own_call (Q := Q) F hb hx (hr.mono hk) rfl I ry q) (fun r s' z => ?_) fun _ _ e => e)
  obtain ⟨b, rfl, H', I', q⟩ := z
  exact ⟨.bl b, H', I', rfl, q⟩
theorem op_neOwn (O : OwnC X.K C f) (Mt : ∃ fd, Binds X.K fd ps [] ∧ FnOk X.prog X.w X.K X.mg X.base CX k f fd ps sp) (hr : Room j X.A) (hk : k + 1 ≤ j := by decide) (hx : Passes CX X E0 := by first | exact pass0 | exact passL) : OpR X (compareOp .NotEq) (rOwn X.K C sp true) := by
  intro pins s σ H x y u v Q I rx ry hq
  obtain ⟨a, dx, fs, t, rfl, ha, ty, nf, q⟩ := hq
  obtain rfl : u = Value.ref a := rx
  obtain ⟨fd, hb, F⟩ := Mt
  obtain ⟨mA, J, _⟩ := ins_get I.hok ha
  obtain ⟨od, J, _⟩ := J.look
  obtain ⟨P, Z, p, _⟩ := kit_of I ry ty
  show wpAny (model X.prog X.w) X.A (richCompare .NotEq _ _) _ _ _
  refine ne_K (un1 hr) I.kIn J (Z.ty _ _ I.kIn p) nf O.ne O.obj O.eq O.fn (wpAny_mono (own_call (Q := fun v H' => Q (match v with | .bl b => .bl (!b) | v => v) H') F hb hx ((hr.mono hk).in1) rfl I ry q) (fun r s' z => ?_) fun _ _ e => e)
  obtain ⟨b, rfl, H', I', q⟩ := z
  exact ⟨b, rfl, .bl (!b), H', I', rfl, q⟩
theorem op_eqOwnR (O : OwnC X.K C f) (Mt : ∃ fd, Binds X.K fd ps [] ∧ FnOk X.prog X.w X.K X.mg X.base CX k f fd ps sp) (hr : Room j X.A) (hk : k ≤ j := by decide) (hx : Passes CX X E0 := by first | exact pass0 | exact passL) : OpR X (compareOp .Eq) (rOwnR C sp false) := by
  intro pins s σ H x y u v Q I rx ry hq
  obtain ⟨i, a, dx, fs, rfl, rfl, ha, q⟩ := hq
  obtain rfl : v = Value.ref a := ry
  obtain ⟨tt, rfl⟩ : ∃ tt, u = Value.int i tt := rx
  obtain ⟨fd, hb, F⟩ := Mt
  obtain ⟨mA, J, _⟩ := ins_get I.hok ha
  obtain ⟨od, J, _⟩ := J.look
  show wpAny (model X.prog X.w) X.A (richCompare .Eq _ _) _ _ _
  refine eq_int_own (un1 hr) I.kIn J O.int O.eq O.fn (wpAny_mono (own_call (Q := Q) F hb hx (hr.mono hk) rfl I (y := .int i) ⟨tt, rfl⟩ q) (fun r s' z => ?_) fun _ _ e => e)
  obtain ⟨b, rfl, H', I', q⟩ := z
  exact ⟨b, rfl, .bl b, H', I', rfl, q⟩
theorem op_neOwnR (O : OwnC X.K C f) (Mt : ∃ fd, Binds X.K fd ps [] ∧ FnOk X.prog X.w X.K X.mg X.base CX k f fd ps sp) (hr : Room j X.A) (hk : k + 1 ≤ j := by decide) (hx : Passes CX X E0 := by first | exact pass0 | exact passL) : OpR X (compareOp .NotEq) (rOwnR C sp true) := by
  intro pins s σ H x y u v Q I rx ry hq
  obtain ⟨i, a, dx, fs, rfl, rfl, ha, q⟩ := hq
  obtain rfl : v = Value.ref a := ry
  obtain ⟨tt, rfl⟩ : ∃ tt, u = Value.int i tt := rx
  obtain ⟨fd, hb, F⟩ := Mt
  obtain ⟨mA, J, _⟩ := ins_get I.hok ha
  obtain ⟨od, J, _⟩ := J.look
  show wpAny (model X.prog X.w) X.A (richCompare .NotEq _ _) _ _ _
  refine ne_int_own (un1 hr) I.kIn J O.int O.ne O.obj O.eq O.fn (wpAny_mono (own_call (Q := fun v H' => Q (match v with | .bl b => .bl (!b) | v => v) H') F hb hx ((hr.mono hk).in1) rfl I (y := .int i) ⟨tt, rfl⟩ q) (fun r s' z => ?_) fun _ _ e => e)
  obtain ⟨b, rfl, H', I', q⟩ := z
  exact ⟨b, rfl, .bl (!b), H', I', rfl, q⟩
end
end Wc

set_option Elab.async false
set_option linter.all false
set_option maxRecDepth 100000
set_option maxHeartbeats 4000000
/-! things: what they are, their numbers, their classes -/
namespace Wc
open PySem PySem.Spec PyProof.Rows L2
/-- an int, or a thing of a class with its parts -/
inductive Tg where
  | int (i : Int)
  | th (of : Str) (ps : List Tg)
def clsT : Tg → Str
  | .int _ => "int"
  | .th of _ => of
mutual
def deepT : Tg → Nat
  | .int _ => 0
  | .th _ ps => deepM ps + 1
def deepM : List Tg → Nat
  | [] => 0
  | p :: ps => max (deepT p) (deepM ps)
end
abbrev thFs (o p d n : V) : List (Str × V) := [("of", o), ("parts", p), ("deep", d), ("number", n)]
def kInt (i : Int) : NK := .tup [.text "int", .num i]
def kTh (n : Nat) : NK := .tup [.text "thing", .num n]
def kOf (of : Str) (ls : List NK) : NK := .tup [.text of, .tup ls]
mutual
/-- the value v is t; l stands for it in a shape -/
inductive TgR (CT : Addr) (H : Hp) (ks : List NK) : V → Tg → NK → Prop
  | int (i : Int) : TgR CT H ks (.int i) (.int i) (kInt i)
  | th {a dx p : Addr} {of : Str} {vs : List V} {ps : List Tg} {ls : List NK} {n : Nat} (h : H a = some (.ins CT dx (thFs (.str of) (.ref p) (.int ((deepM ps + 1 : Nat) : Int)) (.int ((n : Nat) : Int))))) (hp : H p = some (.tup vs)) (hs : TgRs CT H ks vs ps ls)
      (hl : vs.length ≤ 1000) (ho : of.length ≤ 1000) (e : ks[n]? = some (kOf of ls)) : TgR CT H ks (.ref a) (.th of ps) (kTh n)
inductive TgRs (CT : Addr) (H : Hp) (ks : List NK) : List V → List Tg → List NK → Prop
  | nil : TgRs CT H ks [] [] []
  | cons {v : V} {t : Tg} {l : NK} {vs : List V} {ts : List Tg} {ls : List NK} (h : TgR CT H ks v t l) (r : TgRs CT H ks vs ts ls) : TgRs CT H ks (v :: vs) (t :: ts) (l :: ls)
end
theorem TgRs.len {CT : Addr} {H : Hp} {ks : List NK} : ∀ {vs : List V} {ts : List Tg} {ls : List NK}, TgRs CT H ks vs ts ls → vs.length = ts.length ∧ ts.length = ls.length
  | _, _, _, .nil => ⟨rfl, rfl⟩
  | _, _, _, .cons _ r => by
    obtain ⟨h1, h2⟩ := r.len
    simp [h1, h2]
theorem TgRs.get {CT : Addr} {H : Hp} {ks : List NK} : ∀ {vs : List V} {ts : List Tg} {ls : List NK} {i : Nat} {v : V}, TgRs CT H ks vs ts ls → vs[i]? = some v → ∃ t l, ts[i]? = some t ∧ ls[i]? = some l ∧ TgR CT H ks v t l
  | _, _, _, _, _, .nil, h => by simp at h
  | _, _, _, 0, _, .cons h _, e => by
    simp at e
    subst e
    exact ⟨_, _, rfl, rfl, h⟩
  | _, _, _, i + 1, _, .cons _ r, e => by
    obtain ⟨t, l, h1, h2, h3⟩ := TgRs.get (i := i) r (by simpa using e)
    exact ⟨t, l, by simpa using h1, by simpa using h2, h3⟩
theorem pre_at {ks ks' : List NK} (pk : ∃ l, ks' = ks ++ l) {n : Nat} {k : NK} (e : ks[n]? = some k) : ks'[n]? = some k := by
  obtain ⟨l, rfl⟩ := pk
  rw [List.getElem?_append_left (List.getElem?_eq_some_iff.mp e).1]
  exact e
mutual
theorem TgR.mo {CT : Addr} {H H' : Hp} {ks ks' : List NK} (m : Mo H H') (pk : ∃ l, ks' = ks ++ l) : ∀ (t : Tg) (v : V) (l : NK), TgR CT H ks v t l → TgR CT H' ks' v t l
  | .int i, _, _, h => by cases h; exact .int _
  | .th of ps, _, _, h => by
    cases h with
    | th h hp hs hl ho e => exact .th (m _ _ rfl h) (m _ _ rfl hp) (TgRs.mo m pk ps _ _ hs) hl ho (pre_at pk e)
theorem TgRs.mo {CT : Addr} {H H' : Hp} {ks ks' : List NK} (m : Mo H H') (pk : ∃ l, ks' = ks ++ l) : ∀ (ts : List Tg) (vs : List V) (ls : List NK), TgRs CT H ks vs ts ls → TgRs CT H' ks' vs ts ls
  | [], _, _, h => by cases h; exact .nil
  | t :: ts, _, _, h => by
    cases h with
    | cons h r => exact .cons (TgR.mo m pk t _ _ h) (TgRs.mo m pk ts _ _ r)
end
theorem nd_at {ks : List NK} (nd : ks.Nodup) {i j : Nat} {k : NK} (h : ks[i]? = some k) (h' : ks[j]? = some k) : i = j := by
  obtain ⟨hi, e⟩ := List.getElem?_eq_some_iff.mp h
  obtain ⟨hj, e'⟩ := List.getElem?_eq_some_iff.mp h'
  exact (List.getElem_inj nd).mp (e.trans e'.symm)
mutual
/-- equal things have the same number, others have other ones -/
theorem tg_inj {CT : Addr} {H H' : Hp} {ks : List NK} (nd : ks.Nodup) : ∀ (t : Tg) (v : V) (l : NK), TgR CT H ks v t l → ∀ (t' : Tg) (v' : V) (l' : NK), TgR CT H' ks v' t' l' → (l = l' ↔ t = t')
  | .int i, _, _, h, t', _, _, h' => by
    cases h
    cases h' with
    | int j =>
      constructor
      · intro e
        simp only [kInt, NestedKey.tup.injEq, List.cons.injEq, NestedKey.num.injEq] at e
        rw [e.2.1]
      · intro e
        cases e
        rfl
    | th _ _ _ _ _ _ =>
      constructor
      · intro e
        simp only [kInt, kTh, NestedKey.tup.injEq, List.cons.injEq, NestedKey.text.injEq] at e
        exact absurd e.1 (by decide)
      · intro e
        cases e
  | .th of ps, _, _, h, t', _, _, h' => by
    cases h with
    | @th a dx p _ vs _ ls n h hp hs hl ho e =>
      cases h' with
      | int j =>
        constructor
        · intro e
          simp only [kInt, kTh, NestedKey.tup.injEq, List.cons.injEq, NestedKey.text.injEq] at e
          exact absurd e.1 (by decide)
        · intro e
          cases e
      | @th a' dx' p' of' vs' ps' ls' n' h' hp' hs' hl' ho' e' =>
        have ih := tgs_inj nd ps _ _ hs ps' _ _ hs'
        constructor
        · intro q
          simp only [kTh, NestedKey.tup.injEq, List.cons.injEq, NestedKey.num.injEq] at q
          have q : n = n' := by have := q.2.1; omega
          rw [← q, e] at e'
          have e' := Option.some.inj e'
          simp only [kOf, NestedKey.tup.injEq, List.cons.injEq, NestedKey.text.injEq] at e'
          rw [e'.1, ih.mp e'.2.1]
        · intro q
          cases q
          have := ih.mpr rfl
          subst this
          rw [nd_at nd e e']
theorem tgs_inj {CT : Addr} {H H' : Hp} {ks : List NK} (nd : ks.Nodup) : ∀ (ts : List Tg) (vs : List V) (ls : List NK), TgRs CT H ks vs ts ls → ∀ (ts' : List Tg) (vs' : List V) (ls' : List NK), TgRs CT H' ks vs' ts' ls' → (ls = ls' ↔ ts = ts')
  | [], _, _, h, _, _, _, h' => by
    cases h
    cases h' with
    | nil => exact ⟨fun _ => rfl, fun _ => rfl⟩
    | cons _ _ => exact ⟨(fun e => nomatch e), (fun e => nomatch e)⟩
  | t :: ts, _, _, h, _, _, _, h' => by
    cases h with
    | cons h r =>
      cases h' with
      | nil => exact ⟨(fun e => nomatch e), (fun e => nomatch e)⟩
      | cons h' r' =>
        have i1 := tg_inj nd t _ _ h _ _ _ h'
        have i2 := tgs_inj nd ts _ _ r _ _ _ r'
        rw [List.cons.injEq, List.cons.injEq, i1, i2]
end
/-- the class of things -/
structure CsT (K : PySem.W.Frag) (CT fe : Addr) : Prop where
  c : Cls K CT
  of : NoAttr K CT "of"
  parts : NoAttr K CT "parts"
  deep : NoAttr K CT "deep"
  number : NoAttr K CT "number"
  o : OwnC K CT fe
/-- a value's type -/
theorem TgR.ty {K : PySem.W.Frag} {CT fe : Addr} {H : Hp} {ks : List NK} (C : CsT K CT fe) {v : V} {t : Tg} {l : NK} (h : TgR CT H ks v t l) :
    ∃ u b, TyX K H v u ∧ PySem.W.kitOne K u (.type "int") = some (!b) ∧ PySem.W.kitOne K u (.type "bool") = some false ∧ PySem.W.kitOne K u (.ref CT) = some b ∧ b = (match t with | .int _ => false | .th _ _ => true) := by
  cases h with
  | int i => exact ⟨_, false, .base (.int i), kit_ty (show kitB "int" "int" = some true by decide +kernel), kit_ty (show kitB "int" "bool" = some false by decide +kernel), C.o.ki, rfl⟩
  | th h _ _ _ _ _ => exact ⟨_, true, C.o.ty C.c h, C.o.ci, C.o.cb, OwnC.self, rfl⟩
/-! ### where the shapes stand -/
def shKv (ks : List NK) : List (NK × V) := ks.zipIdx.map fun x => (x.1, V.int ((x.2 : Nat) : Int))
theorem shKv_len (ks : List NK) : (shKv ks).length = ks.length := by
  unfold shKv
  simp
theorem shKv_snoc (ks : List NK) (k : NK) : shKv (ks ++ [k]) = shKv ks ++ [(k, V.int ((ks.length : Nat) : Int))] := by
  unfold shKv
  rw [List.zipIdx_append, List.map_append]
  simp
theorem sh_go : ∀ (ks : List NK) (m : Nat) (k : NK), (k ∉ ks → valV ((ks.zipIdx m).map fun x => (x.1, V.int ((x.2 : Nat) : Int))) k = none) ∧
    ∀ z, valV ((ks.zipIdx m).map fun x => (x.1, V.int ((x.2 : Nat) : Int))) k = some z → ∃ n : Nat, z = .int ((m + n : Nat) : Int) ∧ ks[n]? = some k
  | [], _, _ => ⟨fun _ => rfl, fun z e => by cases e⟩
  | x :: ks, m, k => by
    obtain ⟨h1, h2⟩ := sh_go ks (m + 1) k
    rw [List.zipIdx_cons, List.map_cons]
    by_cases q : x = k
    · rw [valV_pos (p := (x, V.int ((m : Nat) : Int))) q]
      exact ⟨fun n => absurd (List.mem_cons.mpr (.inl q.symm)) n, fun z e => ⟨0, (Option.some.inj e).symm, by rw [← q]; rfl⟩⟩
    · rw [valV_neg (p := (x, V.int ((m : Nat) : Int))) q]
      refine ⟨fun n => h1 (fun z => n (List.mem_cons_of_mem _ z)), fun z e => ?_⟩
      obtain ⟨n, e1, e2⟩ := h2 z e
      exact ⟨n + 1, by rw [e1]; congr 1; omega, e2⟩
theorem shKv_at (ks : List NK) (k : NK) : (k ∉ ks → valV (shKv ks) k = none) ∧ ∀ z, valV (shKv ks) k = some z → ∃ n : Nat, z = .int ((n : Nat) : Int) ∧ ks[n]? = some k := by
  obtain ⟨h1, h2⟩ := sh_go ks 0 k
  refine ⟨h1, fun z e => ?_⟩
  obtain ⟨n, e1, e2⟩ := h2 z e
  exact ⟨n, by rw [e1, Nat.zero_add], e2⟩
theorem shKv_mem {ks : List NK} {k : NK} (h : valV (shKv ks) k = none) : k ∉ ks := fun m => by
  have : ∀ (ks : List NK) (m : Nat), k ∈ ks → (valV ((ks.zipIdx m).map fun x => (x.1, V.int ((x.2 : Nat) : Int))) k).isSome = true := fun ks => by
    induction ks with
    | nil => intro m h; cases h
    | cons x ks ih =>
      intro m h
      rw [List.zipIdx_cons, List.map_cons]
      by_cases q : x = k
      · rw [valV_pos (p := (x, V.int ((m : Nat) : Int))) q]
        rfl
      · rw [valV_neg (p := (x, V.int ((m : Nat) : Int))) q]
        rcases List.mem_cons.mp h with e | h
        · exact absurd e.symm q
        · exact ih (m + 1) h
  have q := this ks 0 m
  rw [show valV ((ks.zipIdx 0).map fun x => (x.1, V.int ((x.2 : Nat) : Int))) k = none from h] at q
  cases q
/-! ### classes -/
/-- one below another, or the same -/
def Below (T : List Cl) (x y : Str) : Prop := ∃ l, Line T (some x) l ∧ y ∈ l
/-- of every class: its line; since when it is there -/
structure TrOk (T : List Cl) (n : Nat) : Prop where
  since : ∀ x c, findC T x = some c → c.since ≤ n
  line : ∀ x c, findC T x = some c → ∃ l, Line T (some x) l ∧ l.length ≤ 1000
  len : ∀ x c, findC T x = some c → x.length ≤ 1000
theorem below_iff {T : List Cl} {x y : Str} {l : List Str} (h : Line T (some x) l) : Below T x y ↔ y ∈ l := by
  constructor
  · rintro ⟨l', h', m⟩
    rw [h.det h']
    exact m
  · exact fun m => ⟨l, h, m⟩
/-- a row of a class's fields -/
def FlR (H : Hp) (v : V) (q : Str × Str) : Prop := ∃ t, v = .ref t ∧ H t = some (.tup [.str q.1, .str q.2])
theorem FlR.mo {H H' : Hp} {v : V} {q : Str × Str} (h : FlR H v q) (m : Mo H H') : FlR H' v q := by
  obtain ⟨t, e, h⟩ := h
  exact ⟨t, e, m _ _ rfl h⟩
/-- the thing at a: its class, its tuple of parts -/
def PtAt (CT : Addr) (H : Hp) (a : Addr) (z : Str) (p : Addr) : Prop := ∃ dx d n, H a = some (.ins CT dx (thFs (.str z) (.ref p) d n))
theorem un9t {A : Around} {k : Nat} (r : Room k A) : A.units + 9 < cLine := by
  have := un64 r
  omega
theorem isiK {X : Cx} (K : PySem.W.Frag) (e : X.K = K := by rfl) : CallR X (.builtin "isinstance") (rIsi K) := by
  subst e
  exact call_isi
/-- a plain exception that may be raised -/
structure RzOk (K : PySem.W.Frag) (mg : Str → Option Value) (x : Str) (C : Addr) : Prop where
  p : PlainOk K mg x C
  sb : PySem.W.subIn K (.ref C) (.type "BaseException") = some true
  ty : PySem.W.typeIn K (.ref C) = some (.type "type")
theorem ps_raiseP {X : Cx} {W : WX} {x m : Str} {C : Addr} {j : Nat} {p p2 pos pos' : Pos} (hc : X.calm = true) (tk : Takes X W) (R : RzOk X.K X.mg x C) (hg : Gl X x := by rfl) (hdb : (x == ("__debug__" : Str)) = false := by decide) :
    PS X (.Raise (some (.Call (.Name x p) [.Constant (.str m) j p2] [] pos)) none pos') (fun _ σ H => W (.ref C) none σ H) := ps_raise hc tk (pmk_own PySem.F.excBase_ValueError R.p.x R.p.g R.p.k (raises_own R.sb R.ty) hg hdb)
/-! ### the rules -/
section
variable {X : Cx} {o e : Expr} {es : List Expr} {to : TE} {t : TA} {name : Str} {apos cpos : Pos} {id : String} {r : V → List V → Hp → VK → Prop}
/-- a method of a dict of nested keys -/
def tNBM (P : Program) (w : World) (r : V → List V → Hp → VK → Prop) (to : TE) (t : TA) : TE := fun σ H Q => to σ H fun x H1 => ∃ a, x = .ref a ∧ (∃ kvs, Tb P w H1 a kvs) ∧ t σ H1 fun xs H2 => r x xs H2 Q
theorem pe_nbm (slot : Slot "dict" name id) (hty : typeOf (.builtin id) = pure (.type "method_descriptor")) (hm : MtR X id r) (ho : PE X o to) (ha : PA X (e :: es) t)
    (hbase : attributeBase o name X.env (eval o X.env) = eval o X.env := by rfl)
    (hfew : ((backTo cpos (starEach (e :: es) X.env)).all (fun x => !x.1) && (backToKw cpos (keywordEach [] X.env)).all (fun x => x.1.isSome)
      && decide ((e :: es).length + ([] : List Keyword).length + (if ([] : List Keyword).isEmpty then 0 else 1) < 30)) = true := by rfl)
    (hline : (apos.endLine == cpos.line) = true := by rfl) (hs : starEach (e :: es) X.env = (false, eval e X.env) :: starEach es X.env := by rfl) (hplain : (backTo cpos (starEach es X.env)).any (·.1) = false := by rfl) :
    PE X (.Call (.Attribute o name apos) (e :: es) [] cpos) (tNBM X.prog X.w r to t) := by
  refine ⟨fun pins s σ H Q I h => ?_⟩
  refine wpAny_Call_method_late hbase hfew hline rfl (thn (ho.run pins s σ H _ I h) fun v s1 ⟨x, H1, I1, r1, a, ex, ⟨kvs, tb⟩, q1⟩ => ?_)
  subst ex
  obtain rfl : v = Value.ref a := r1
  obtain ⟨xs, dd, _⟩ := tb.at_ I1.hok
  refine ⟨"dict", id, PySem.F.plainAttrs_dict, slot, hty, dd.typeIs, fun b e => ?_, ?_⟩
  · cases e
    obtain ⟨o, es, ep, g1, g2, _⟩ := dd
    exact ⟨o, g1, g2.2.1⟩
  have hA := ha.run cpos pins s1 σ H1 _ I1 q1
  rw [hs] at hA ⊢
  refine Calls.callWith_builtin (by show (false || (backTo cpos (starEach es X.env)).any (·.1)) = false; rw [hplain] <;> rfl) (Calls.evalArgs_plain ?_)
  exact thn hA fun us s2 ⟨vs, H2, I2, r2, q2⟩ => hm pins s2 σ H2 (.ref a) vs (.ref a) us Q I2 rfl r2 q2
end
theorem r_nbm {P : Program} {w : World} {r : V → List V → Hp → VK → Prop} {to : TE} {t : TA} {σ : L2.St} {H : Hp} {Q : VK} (h : to σ H fun x H1 => ∃ a, x = .ref a ∧ (∃ kvs, Tb P w H1 a kvs) ∧ t σ H1 fun xs H2 => r x xs H2 Q) : tNBM P w r to t σ H Q := h
theorem r_zipS {K : PySem.W.Frag} {ta tk : TA} {g : TG} {tb : TS} {D : Ends} {σ : L2.St} {H : Hp} (h : ta σ H fun vs H1 => tk σ H1 fun zs H2 => ∃ p q us ws, vs = [V.ref p, .ref q] ∧ zs = [V.bl true] ∧ SqT K H2 p us ∧ SqT K H2 q ws ∧ us.length = ws.length ∧ ForJ (ItS K p q) g tb D σ H2) : tFor (iZipS K ta tk) g tb D σ H := h
theorem r_ckw {r : List V → List V → Hp → VK → Prop} {t tk : TA} {σ : L2.St} {H : Hp} {Q : VK} (h : t σ H fun vs H1 => tk σ H1 fun zs H2 => r vs zs H2 Q) : tCKw r t tk σ H Q := h
/-! ### the shapes of a runtime -/
def ShF (CR : Addr) (H : Hp) (r sh : Addr) : Prop := ∃ dx fs, H r = some (.ins CR dx fs) ∧ fs.lookup ("shapes" : Str) = some (.ref sh)
structure ShAt (P : Program) (w : World) (CR : Addr) (H : Hp) (r sh : Addr) (ks : List NK) : Prop where
  f : ShF CR H r sh
  t : Tb P w H sh (shKv ks)
  nd : ks.Nodup
  lt : ks.length < 90000
theorem KeyVs.snoc {H : Hp} : ∀ {vs : List V} {ks : List NK} {v : V} {k : NK}, KeyVs H vs ks → KeyV H v k → KeyVs H (vs ++ [v]) (ks ++ [k])
  | _, _, _, _, .nil, h => .cons h .nil
  | _, _, _, _, .cons h t, h' => .cons h (KeyVs.snoc t h')
theorem TgRs.depth {CT : Addr} {H : Hp} {ks : List NK} : ∀ {vs : List V} {ts : List Tg} {ls : List NK}, TgRs CT H ks vs ts ls → NestedKey.depthAll ls ≤ 1
  | _, _, _, .nil => Nat.zero_le _
  | _, _, _, .cons (l := l) h r => by
    show max l.depth _ ≤ 1
    have h1 := r.depth
    have h2 : l.depth ≤ 1 := by
      cases h with
      | int i => exact Nat.le_refl _
      | th _ _ _ _ _ _ => exact Nat.le_refl _
    omega
theorem kOf_depth {CT : Addr} {H : Hp} {ks : List NK} {vs : List V} {ts : List Tg} {ls : List NK} (h : TgRs CT H ks vs ts ls) (of : Str) : (kOf of ls).depth ≤ 8 := by
  show (max 0 (max (NestedKey.depthAll ls + 1) 0)) + 1 ≤ 8
  have := h.depth
  omega
/-- how deep, of the things alone -/
def dI : Tg → Option Int
  | .int _ => none
  | .th _ ps => some ((deepM ps + 1 : Nat) : Int)
theorem dI_up : ∀ (ts : List Tg) (y : Int), y ∈ ts.filterMap dI → y ≤ ((deepM ts : Nat) : Int)
  | [], _, h => by cases h
  | t :: ts, y, h => by
    have e : deepM (t :: ts) = max (deepT t) (deepM ts) := rfl
    rw [e]
    cases t with
    | int i =>
      rw [List.filterMap_cons_none rfl] at h
      have := dI_up ts y h
      omega
    | th of ps =>
      rw [List.filterMap_cons_some (show dI (.th of ps) = some ((deepM ps + 1 : Nat) : Int) from rfl)] at h
      have e2 : deepT (.th of ps) = deepM ps + 1 := rfl
      rcases List.mem_cons.mp h with h | h
      · rw [e2]; omega
      · have := dI_up ts y h
        omega
theorem dI_in : ∀ (ts : List Tg), (ts.filterMap dI = [] ∧ deepM ts = 0) ∨ ((deepM ts : Nat) : Int) ∈ ts.filterMap dI
  | [] => .inl ⟨rfl, rfl⟩
  | t :: ts => by
    have e : deepM (t :: ts) = max (deepT t) (deepM ts) := rfl
    rw [e]
    cases t with
    | int i =>
      rw [List.filterMap_cons_none rfl]
      have e2 : deepT (.int i) = 0 := rfl
      rw [e2, Nat.zero_max]
      exact dI_in ts
    | th of ps =>
      rw [List.filterMap_cons_some (show dI (.th of ps) = some ((deepM ps + 1 : Nat) : Int) from rfl)]
      have e2 : deepT (.th of ps) = deepM ps + 1 := rfl
      rw [e2]
      right
      rcases dI_in ts with ⟨h1, h2⟩ | h
      · rw [h2, Nat.max_zero]
        exact List.mem_cons_self
      · rcases Nat.le_total (deepM ps + 1) (deepM ts) with q | q
        · rw [Nat.max_eq_right q]
          exact List.mem_cons_of_mem _ h
        · rw [Nat.max_eq_left q]
          exact List.mem_cons_self
theorem rMaxD_mk {K : PySem.W.Frag} {a : Addr} {H : Hp} {Q : VK} {ts : List Tg} (hs : SqL K H a ((ts.filterMap dI).map V.int)) (q : Q (.int ((deepM ts : Nat) : Int)) H) : rMaxD K [.ref a] [.int 0] H Q := by
  refine ⟨a, ts.filterMap dI, 0, rfl, rfl, hs, fun e => ?_, fun m hm hu => ?_⟩
  · rcases dI_in ts with ⟨_, h2⟩ | h
    · rw [h2] at q
      exact q
    · rw [e] at h
      cases h
  · have h1 := dI_up ts m hm
    have e : m = ((deepM ts : Nat) : Int) := by
      rcases dI_in ts with ⟨h2, _⟩ | h
      · rw [h2] at hm
        cases hm
      · have := hu _ h
        omega
    rw [e]
    exact q
/-- a value is a thing, as class_of and the like ask -/
theorem TgR.isTh {K : PySem.W.Frag} {CT fe : Addr} {H : Hp} {ks : List NK} (C : CsT K CT fe) {v : V} {t : Tg} {l : NK} (h : TgR CT H ks v t l) :
    (∃ i, t = .int i ∧ v = .int i ∧ l = kInt i ∧ TyX K H v (.type "int") ∧ PySem.W.kitOne K (.type "int") (.ref CT) = some false) ∨
    ∃ a dx p of ps vs ls n, t = .th of ps ∧ v = .ref a ∧ l = kTh n ∧ H a = some (.ins CT dx (thFs (.str of) (.ref p) (.int ((deepM ps + 1 : Nat) : Int)) (.int ((n : Nat) : Int)))) ∧ H p = some (.tup vs) ∧ TgRs CT H ks vs ps ls ∧ TyX K H v (.ref CT) ∧ PySem.W.kitOne K (.ref CT) (.ref CT) = some true := by
  cases h with
  | int i => exact .inl ⟨i, rfl, rfl, rfl, .base (.int i), C.o.ki⟩
  | th h hp hs hl ho e => exact .inr ⟨_, _, _, _, _, _, _, _, rfl, rfl, rfl, h, hp, hs, C.o.ty C.c h, OwnC.self⟩
end Wc

set_option Elab.async false
set_option linter.all false
set_option maxRecDepth 100000
set_option maxHeartbeats 0
namespace K03
open PySem PySem.Spec PyProof.Rows L2 Wc
def top (i : Nat) : Stmt := PySem.Challenge.pw_worldcalls_k03_things_made.main.body.getD i (.Pass ⟨0, 0, 0, 0⟩)
abbrev s__wall : Stmt := top 0
theorem sc__wall : FnScope ["k"] ["k"] (defScope s__wall) := ⟨rfl, rfl, rfl, by decide +kernel, rfl, by decide +kernel, by decide +kernel⟩
def d__wall : He.DefD := ⟨("_wall", none), "_wall", "_wall", defArgs s__wall, defBody s__wall, defScope s__wall, [], []⟩
abbrev s_NoClass_init : Stmt := inClass (top 3) 0
theorem sc_NoClass_init : FnScope ["self", "name"] ["self", "name"] (defScope s_NoClass_init) := ⟨rfl, rfl, rfl, by decide +kernel, rfl, by decide +kernel, by decide +kernel⟩
def d_NoClass_init : He.DefD := ⟨("NoClass", some "__init__"), "__init__", "NoClass.__init__", defArgs s_NoClass_init, defBody s_NoClass_init, defScope s_NoClass_init, [], []⟩
abbrev s_Taken_init : Stmt := inClass (top 4) 0
theorem sc_Taken_init : FnScope ["self", "name"] ["self", "name"] (defScope s_Taken_init) := ⟨rfl, rfl, rfl, by decide +kernel, rfl, by decide +kernel, by decide +kernel⟩
def d_Taken_init : He.DefD := ⟨("Taken", some "__init__"), "__init__", "Taken.__init__", defArgs s_Taken_init, defBody s_Taken_init, defScope s_Taken_init, [], []⟩
abbrev s_NoField_init : Stmt := inClass (top 5) 0
theorem sc_NoField_init : FnScope ["self", "field"] ["self", "field"] (defScope s_NoField_init) := ⟨rfl, rfl, rfl, by decide +kernel, rfl, by decide +kernel, by decide +kernel⟩
def d_NoField_init : He.DefD := ⟨("NoField", some "__init__"), "__init__", "NoField.__init__", defArgs s_NoField_init, defBody s_NoField_init, defScope s_NoField_init, [], []⟩
abbrev s_NoParts_init : Stmt := inClass (top 6) 0
theorem sc_NoParts_init : FnScope ["self", "parts"] ["self", "parts"] (defScope s_NoParts_init) := ⟨rfl, rfl, rfl, by decide +kernel, rfl, by decide +kernel, by decide +kernel⟩
def d_NoParts_init : He.DefD := ⟨("NoParts", some "__init__"), "__init__", "NoParts.__init__", defArgs s_NoParts_init, defBody s_NoParts_init, defScope s_NoParts_init, [], []⟩
abbrev s_NoFit_init : Stmt := inClass (top 7) 0
theorem sc_NoFit_init : FnScope ["self", "field"] ["self", "field"] (defScope s_NoFit_init) := ⟨rfl, rfl, rfl, by decide +kernel, rfl, by decide +kernel, by decide +kernel⟩
def d_NoFit_init : He.DefD := ⟨("NoFit", some "__init__"), "__init__", "NoFit.__init__", defArgs s_NoFit_init, defBody s_NoFit_init, defScope s_NoFit_init, [], []⟩
abbrev s_is_integer : Stmt := top 11
theorem sc_is_integer : FnScope ["thing"] ["thing"] (defScope s_is_integer) := ⟨rfl, rfl, rfl, by decide +kernel, rfl, by decide +kernel, by decide +kernel⟩
def d_is_integer : He.DefD := ⟨("is_integer", none), "is_integer", "is_integer", defArgs s_is_integer, defBody s_is_integer, defScope s_is_integer, [], []⟩
abbrev s_is_name : Stmt := top 12
theorem sc_is_name : FnScope ["thing", "letter"] ["thing"] (defScope s_is_name) := ⟨rfl, rfl, rfl, by decide +kernel, rfl, by decide +kernel, by decide +kernel⟩
def d_is_name : He.DefD := ⟨("is_name", none), "is_name", "is_name", defArgs s_is_name, defBody s_is_name, defScope s_is_name, [], []⟩
abbrev s_Kind_init : Stmt := inClass (top 14) 0
theorem sc_Kind_init : FnScope ["self", "parent", "fields", "since"] ["self", "parent", "fields", "since"] (defScope s_Kind_init) := ⟨rfl, rfl, rfl, by decide +kernel, rfl, by decide +kernel, by decide +kernel⟩
def d_Kind_init : He.DefD := ⟨("Kind", some "__init__"), "__init__", "Kind.__init__", defArgs s_Kind_init, defBody s_Kind_init, defScope s_Kind_init, [], []⟩
abbrev s_Runtime_init : Stmt := inClass (top 15) 0
theorem sc_Runtime_init : FnScope ["self"] ["self"] (defScope s_Runtime_init) := ⟨rfl, rfl, rfl, by decide +kernel, rfl, by decide +kernel, by decide +kernel⟩
def d_Runtime_init : He.DefD := ⟨("Runtime", some "__init__"), "__init__", "Runtime.__init__", defArgs s_Runtime_init, defBody s_Runtime_init, defScope s_Runtime_init, [], []⟩
abbrev s_Runtime_newest : Stmt := inClass (top 15) 1
theorem sc_Runtime_newest : FnScope ["self"] ["self"] (defScope s_Runtime_newest) := ⟨rfl, rfl, rfl, by decide +kernel, rfl, by decide +kernel, by decide +kernel⟩
def d_Runtime_newest : He.DefD := ⟨("Runtime", some "newest"), "newest", "Runtime.newest", defArgs s_Runtime_newest, defBody s_Runtime_newest, defScope s_Runtime_newest, [], []⟩
abbrev s_Runtime_table : Stmt := inClass (top 15) 2
theorem sc_Runtime_table : FnScope ["self", "world"] ["self", "world"] (defScope s_Runtime_table) := ⟨rfl, rfl, rfl, by decide +kernel, rfl, by decide +kernel, by decide +kernel⟩
def d_Runtime_table : He.DefD := ⟨("Runtime", some "table"), "table", "Runtime.table", defArgs s_Runtime_table, defBody s_Runtime_table, defScope s_Runtime_table, [], []⟩
abbrev s_Runtime_add_world : Stmt := inClass (top 15) 3
theorem sc_Runtime_add_world : FnScope ["self", "table"] ["self", "table"] (defScope s_Runtime_add_world) := ⟨rfl, rfl, rfl, by decide +kernel, rfl, by decide +kernel, by decide +kernel⟩
def d_Runtime_add_world : He.DefD := ⟨("Runtime", some "add_world"), "add_world", "Runtime.add_world", defArgs s_Runtime_add_world, defBody s_Runtime_add_world, defScope s_Runtime_add_world, [], []⟩
abbrev s_Runtime_copied : Stmt := inClass (top 15) 4
theorem sc_Runtime_copied : FnScope ["self"] ["self"] (defScope s_Runtime_copied) := ⟨rfl, rfl, rfl, by decide +kernel, rfl, by decide +kernel, by decide +kernel⟩
def d_Runtime_copied : He.DefD := ⟨("Runtime", some "copied"), "copied", "Runtime.copied", defArgs s_Runtime_copied, defBody s_Runtime_copied, defScope s_Runtime_copied, [], []⟩
abbrev s_is_class : Stmt := top 18
theorem sc_is_class : FnScope ["runtime", "name"] ["runtime", "name"] (defScope s_is_class) := ⟨rfl, rfl, rfl, by decide +kernel, rfl, by decide +kernel, by decide +kernel⟩
def d_is_class : He.DefD := ⟨("is_class", none), "is_class", "is_class", defArgs s_is_class, defBody s_is_class, defScope s_is_class, [], []⟩
abbrev s_check_class : Stmt := top 19
theorem sc_check_class : FnScope ["runtime", "name"] ["runtime", "name"] (defScope s_check_class) := ⟨rfl, rfl, rfl, by decide +kernel, rfl, by decide +kernel, by decide +kernel⟩
def d_check_class : He.DefD := ⟨("check_class", none), "check_class", "check_class", defArgs s_check_class, defBody s_check_class, defScope s_check_class, [], []⟩
abbrev s_line_of : Stmt := top 20
theorem sc_line_of : FnScope ["runtime", "name", "found"] ["runtime", "name"] (defScope s_line_of) := ⟨rfl, rfl, rfl, by decide +kernel, rfl, by decide +kernel, by decide +kernel⟩
def d_line_of : He.DefD := ⟨("line_of", none), "line_of", "line_of", defArgs s_line_of, defBody s_line_of, defScope s_line_of, [], []⟩
abbrev s_seen : Stmt := top 21
theorem sc_seen : FnScope ["runtime", "name", "world", "one"] ["runtime", "name", "world"] (defScope s_seen) := ⟨rfl, rfl, rfl, by decide +kernel, rfl, by decide +kernel, by decide +kernel⟩
def d_seen : He.DefD := ⟨("seen", none), "seen", "seen", defArgs s_seen, defBody s_seen, defScope s_seen, [], []⟩
abbrev s_below : Stmt := top 22
theorem sc_below : FnScope ["runtime", "one", "other"] ["runtime", "one", "other"] (defScope s_below) := ⟨rfl, rfl, rfl, by decide +kernel, rfl, by decide +kernel, by decide +kernel⟩
def d_below : He.DefD := ⟨("below", none), "below", "below", defArgs s_below, defBody s_below, defScope s_below, [], []⟩
abbrev s_own_fields : Stmt := top 23
theorem sc_own_fields : FnScope ["runtime", "parent", "fields", "names", "item", "name", "bound"] ["runtime", "parent", "fields"] (defScope s_own_fields) := ⟨rfl, rfl, rfl, by decide +kernel, rfl, by decide +kernel, by decide +kernel⟩
def d_own_fields : He.DefD := ⟨("own_fields", none), "own_fields", "own_fields", defArgs s_own_fields, defBody s_own_fields, defScope s_own_fields, [], []⟩
abbrev s_add_class : Stmt := top 24
theorem sc_add_class : FnScope ["runtime", "name", "parent", "fields", "every", "world"] ["runtime", "name", "parent", "fields"] (defScope s_add_class) := ⟨rfl, rfl, rfl, by decide +kernel, rfl, by decide +kernel, by decide +kernel⟩
def d_add_class : He.DefD := ⟨("add_class", none), "add_class", "add_class", defArgs s_add_class, defBody s_add_class, defScope s_add_class, [], []⟩
abbrev s_fields : Stmt := top 25
theorem sc_fields : FnScope ["runtime", "name"] ["runtime", "name"] (defScope s_fields) := ⟨rfl, rfl, rfl, by decide +kernel, rfl, by decide +kernel, by decide +kernel⟩
def d_fields : He.DefD := ⟨("fields", none), "fields", "fields", defArgs s_fields, defBody s_fields, defScope s_fields, [], []⟩
abbrev s_is_below : Stmt := top 26
theorem sc_is_below : FnScope ["runtime", "one", "other"] ["runtime", "one", "other"] (defScope s_is_below) := ⟨rfl, rfl, rfl, by decide +kernel, rfl, by decide +kernel, by decide +kernel⟩
def d_is_below : He.DefD := ⟨("is_below", none), "is_below", "is_below", defArgs s_is_below, defBody s_is_below, defScope s_is_below, [], []⟩
abbrev s_Thing_init : Stmt := inClass (top 29) 0
theorem sc_Thing_init : FnScope ["self", "of", "parts", "deep", "number"] ["self", "of", "parts", "deep", "number"] (defScope s_Thing_init) := ⟨rfl, rfl, rfl, by decide +kernel, rfl, by decide +kernel, by decide +kernel⟩
def d_Thing_init : He.DefD := ⟨("Thing", some "__init__"), "__init__", "Thing.__init__", defArgs s_Thing_init, defBody s_Thing_init, defScope s_Thing_init, [], []⟩
abbrev s_Thing_eq : Stmt := inClass (top 29) 1
theorem sc_Thing_eq : FnScope ["self", "other"] ["self", "other"] (defScope s_Thing_eq) := ⟨rfl, rfl, rfl, by decide +kernel, rfl, by decide +kernel, by decide +kernel⟩
def d_Thing_eq : He.DefD := ⟨("Thing", some "__eq__"), "__eq__", "Thing.__eq__", defArgs s_Thing_eq, defBody s_Thing_eq, defScope s_Thing_eq, [], []⟩
abbrev s_is_value : Stmt := top 30
theorem sc_is_value : FnScope ["thing"] ["thing"] (defScope s_is_value) := ⟨rfl, rfl, rfl, by decide +kernel, rfl, by decide +kernel, by decide +kernel⟩
def d_is_value : He.DefD := ⟨("is_value", none), "is_value", "is_value", defArgs s_is_value, defBody s_is_value, defScope s_is_value, [], []⟩
abbrev s_class_of : Stmt := top 31
theorem sc_class_of : FnScope ["value"] ["value"] (defScope s_class_of) := ⟨rfl, rfl, rfl, by decide +kernel, rfl, by decide +kernel, by decide +kernel⟩
def d_class_of : He.DefD := ⟨("class_of", none), "class_of", "class_of", defArgs s_class_of, defBody s_class_of, defScope s_class_of, [], []⟩
abbrev s_seen_of : Stmt := top 32
theorem sc_seen_of : FnScope ["runtime", "value", "world"] ["runtime", "value", "world"] (defScope s_seen_of) := ⟨rfl, rfl, rfl, by decide +kernel, rfl, by decide +kernel, by decide +kernel⟩
def d_seen_of : He.DefD := ⟨("seen_of", none), "seen_of", "seen_of", defArgs s_seen_of, defBody s_seen_of, defScope s_seen_of, [], []⟩
abbrev s_made : Stmt := top 33
theorem sc_made : FnScope ["runtime", "name", "parts", "world", "field", "bound", "part", "deep", "key"] ["runtime", "name", "parts", "world"] (defScope s_made) := ⟨rfl, rfl, rfl, by decide +kernel, rfl, by decide +kernel, by decide +kernel⟩
def d_made : He.DefD := ⟨("made", none), "made", "made", defArgs s_made, defBody s_made, defScope s_made, [], []⟩
abbrev s_make : Stmt := top 34
theorem sc_make : FnScope ["runtime", "name", "parts", "many", "part"] ["runtime", "name", "parts"] (defScope s_make) := ⟨rfl, rfl, rfl, by decide +kernel, rfl, by decide +kernel, by decide +kernel⟩
def d_make : He.DefD := ⟨("make", none), "make", "make", defArgs s_make, defBody s_make, defScope s_make, [], []⟩
abbrev s_l_cell_at : Stmt := top 36
theorem sc_l_cell_at : FnScope ["_law_script", "_law_k"] ["_law_script", "_law_k"] (defScope s_l_cell_at) := ⟨rfl, rfl, rfl, by decide +kernel, rfl, by decide +kernel, by decide +kernel⟩
def d_l_cell_at : He.DefD := ⟨("_law_cell_at", none), "_law_cell_at", "_law_cell_at", defArgs s_l_cell_at, defBody s_l_cell_at, defScope s_l_cell_at, [], []⟩
abbrev s_l_well : Stmt := top 37
theorem sc_l_well : FnScope ["_law_cell"] ["_law_cell"] (defScope s_l_well) := ⟨rfl, rfl, rfl, by decide +kernel, rfl, by decide +kernel, by decide +kernel⟩
def d_l_well : He.DefD := ⟨("_law_well", none), "_law_well", "_law_well", defArgs s_l_well, defBody s_l_well, defScope s_l_well, [], []⟩
abbrev s_l_draw : Stmt := top 38
theorem sc_l_draw : FnScope ["_law_well_here", "_law_many", "_law_digit", "_law_prime", "_law_number"] ["_law_well_here", "_law_many"] (defScope s_l_draw) := ⟨rfl, rfl, rfl, by decide +kernel, rfl, by decide +kernel, by decide +kernel⟩
def d_l_draw : He.DefD := ⟨("_law_draw", none), "_law_draw", "_law_draw", defArgs s_l_draw, defBody s_l_draw, defScope s_l_draw, [], []⟩
abbrev s_l_one : Stmt := top 39
theorem sc_l_one : FnScope ["_law_well_here", "_law_some"] ["_law_well_here", "_law_some"] (defScope s_l_one) := ⟨rfl, rfl, rfl, by decide +kernel, rfl, by decide +kernel, by decide +kernel⟩
def d_l_one : He.DefD := ⟨("_law_one", none), "_law_one", "_law_one", defArgs s_l_one, defBody s_l_one, defScope s_l_one, [], []⟩
abbrev s_l_said : Stmt := top 40
theorem sc_l_said : FnScope ["_law_ask", "e"] ["_law_ask"] (defScope s_l_said) := ⟨rfl, rfl, rfl, by decide +kernel, rfl, by decide +kernel, by decide +kernel⟩
def d_l_said : He.DefD := ⟨("_law_said", none), "_law_said", "_law_said", defArgs s_l_said, defBody s_l_said, defScope s_l_said, [], []⟩
abbrev s_l_tree : Stmt := top 41
theorem sc_l_tree : FnScope ["_law_well_here", "_law_runtime", "_law_names", "_law_k", "_law_name", "_law_some", "_law_j", "_law_word"] ["_law_well_here", "_law_runtime"] (defScope s_l_tree) := ⟨rfl, rfl, rfl, by decide +kernel, rfl, by decide +kernel, by decide +kernel⟩
def d_l_tree : He.DefD := ⟨("_law_tree", none), "_law_tree", "_law_tree", defArgs s_l_tree, defBody s_l_tree, defScope s_l_tree, [], []⟩
abbrev s_l_coded : Stmt := top 42
theorem sc_l_coded : FnScope ["_law_codes", "_law_code"] ["_law_codes", "_law_code"] (defScope s_l_coded) := ⟨rfl, rfl, rfl, by decide +kernel, rfl, by decide +kernel, by decide +kernel⟩
def d_l_coded : He.DefD := ⟨("_law_coded", none), "_law_coded", "_law_coded", defArgs s_l_coded, defBody s_l_coded, defScope s_l_coded, [], []⟩
abbrev s_l_made_right : Stmt := top 43
theorem sc_l_made_right : FnScope ["_law_well_here", "_law_runtime", "_law_names", "_law_values", "_law_codes", "_law_name", "_law_rows", "_law_drawn", "_law_some", "_law_due", "_law_item", "_law_value", "_law_sort", "_law_odd", "_law_told", "_law_number", "_law_other", "_law_one_here"] ["_law_well_here", "_law_runtime", "_law_names", "_law_values", "_law_codes"] (defScope s_l_made_right) := ⟨rfl, rfl, rfl, by decide +kernel, rfl, by decide +kernel, by decide +kernel⟩
def d_l_made_right : He.DefD := ⟨("_law_made_right", none), "_law_made_right", "_law_made_right", defArgs s_l_made_right, defBody s_l_made_right, defScope s_l_made_right, [], []⟩
abbrev s_l_chain_right : Stmt := top 44
theorem sc_l_chain_right : FnScope ["_law_many", "_law_runtime", "_law_one_here", "_law_other", "_law_third", "_law_k"] ["_law_many"] (defScope s_l_chain_right) := ⟨rfl, rfl, rfl, by decide +kernel, rfl, by decide +kernel, by decide +kernel⟩
def d_l_chain_right : He.DefD := ⟨("_law_chain_right", none), "_law_chain_right", "_law_chain_right", defArgs s_l_chain_right, defBody s_l_chain_right, defScope s_l_chain_right, [], []⟩
abbrev s_law : Stmt := top 45
theorem sc_law : FnScope ["_law_script", "_law_cell", "_law_well_here", "_law_runtime", "_law_names", "_law_codes", "_law_values", "_law_k", "_law_number"] ["_law_script"] (defScope s_law) := ⟨rfl, rfl, rfl, by decide +kernel, rfl, by decide +kernel, by decide +kernel⟩
def d_law : He.DefD := ⟨("law", none), "law", "law", defArgs s_law, defBody s_law, defScope s_law, [], []⟩
def fn : List He.DefD := [d__wall, d_NoClass_init, d_Taken_init, d_NoField_init, d_NoParts_init, d_NoFit_init, d_is_integer, d_is_name, d_Kind_init, d_Runtime_init, d_Runtime_newest, d_Runtime_table, d_Runtime_add_world, d_Runtime_copied, d_is_class, d_check_class, d_line_of, d_seen, d_below, d_own_fields, d_add_class, d_fields, d_is_below, d_Thing_init, d_Thing_eq, d_is_value, d_class_of, d_seen_of, d_made, d_make, d_l_cell_at, d_l_well, d_l_draw, d_l_one, d_l_said, d_l_tree, d_l_coded, d_l_made_right, d_l_chain_right, d_law]
-- globals: _wall WorldError NoClass Taken NoField NoParts NoFit TooDeep is_integer is_name Kind Runtime is_class check_class line_of seen below own_fields add_class fields is_below Thing is_value class_of seen_of made make _law_cell_at _law_well _law_draw _law_one _law_said _law_tree _law_coded _law_made_right _law_chain_right law
-- law at 45, row worldcalls_k03_things_made

def own : List (Str × Str) := [("NoClass", "name"), ("Taken", "name"), ("NoField", "field"), ("NoParts", "parts"), ("NoFit", "field")]
def plain : List Str := ["TooDeep"]
def kinds : List Str := own.map (·.1) ++ plain
/-- a keyword-only default that is a tuple -/
def kwTB (K : PySem.W.Frag) (x nm : Str) (vs : List V) : Bool := match K.lookup (He.fAd K (x, none)) with
  | some ⟨_, _, .func fd, _⟩ => (match fd.kwdefaults with
    | .ref D => (match PySem.W.nsIn K D nm with
      | some (some (.ref t)) => seqB K t vs
      | _ => false)
    | _ => false)
  | _ => false
theorem kwTB_ok {K : PySem.W.Frag} {x nm : Str} {vs : List V} {oc : Value} {od : Option Addr} {fd : FuncData} {osl : Array (Option Value)} (h : kwTB K x nm vs = true) (lk : K.lookup (He.fAd K (x, none)) = some ⟨oc, od, .func fd, osl⟩) : ∃ D t, fd.kwdefaults = .ref D ∧ PySem.W.nsIn K D nm = some (some (.ref t)) ∧ seqB K t vs = true := by
  unfold kwTB at h
  rw [lk] at h
  dsimp only at h
  split at h
  · rename_i D e
    split at h
    · rename_i t e2
      exact ⟨D, t, e, e2, h⟩
    · cases h
  · cases h
def kindsB (K : PySem.W.Frag) (l : List Str) : Bool := l.all fun x => l.all fun y => decide (PySem.W.exmOne K (.ref (He.ga K x)) (.ref (He.ga K y)) = some (decide (x = y)))
def upB (K : PySem.W.Frag) (l : List Str) : Bool := l.all fun x => decide (PySem.W.subIn K (.ref (He.ga K x)) (.type "BaseException") = some true) && (exIsB K (He.ga K x) && (exRdB K (He.ga K x) && decide (PySem.W.exmOne K (.ref (He.ga K x)) (.ref (He.ga K "WorldError")) = some true)))
def ownB (K : PySem.W.Frag) : Bool := own.all fun p => exB K (He.ga K p.1) && (exInB K (He.ga K p.1) (He.ma K (He.ga K p.1) "__init__") && decide (PySem.W.findIn K (.ref (He.ga K p.1)) p.2 = some none))
def ex (K : PySem.W.Frag) : Bool := baseB K (He.ga K "WorldError") && (kindsB K kinds && (upB K kinds && (ownB K && (kwTB K "add_class" "fields" [] && (ownEqB K (He.ga K "Thing") (He.ma K (He.ga K "Thing") "__eq__") && (decide ((He.cT K ("_law_made_right", none)).2 ≠ (He.cT K ("_law_chain_right", none)).2)))))))
def gloL : List Str := (["_wall", "WorldError", "NoClass", "Taken", "NoField", "NoParts", "NoFit", "TooDeep", "is_integer", "is_name", "Kind", "Runtime", "is_class", "check_class", "line_of", "seen", "below", "own_fields", "add_class", "fields", "is_below", "Thing", "is_value", "class_of", "seen_of", "made", "make", "_law_cell_at", "_law_well", "_law_draw"] : List Str) ++ ((["_law_one", "_law_said", "_law_tree", "_law_coded", "_law_made_right", "_law_chain_right", "law"] : List Str))
def freeL : List Str := ["ValueError", "all", "bool", "dict", "int", "isinstance", "len", "list", "max", "range", "sorted", "str", "tuple", "zip"]
def intL : List (Str × Int) := [("MOST_FIELDS", 3), ("MOST_DEEP", 100)]
def strL : List (Str × Str) := [("LETTERS", "abcdefghijklmnopqrstuvwxyz")]
def clsL : List Str := ["Kind", "Runtime", "Thing"]
def noatL : List (Str × Str) := [("Kind", "fields"), ("Kind", "parent"), ("Kind", "since"), ("Runtime", "entries"), ("Runtime", "kinds"), ("Runtime", "made"), ("Runtime", "shapes"), ("Runtime", "solutions"), ("Runtime", "tables"), ("Runtime", "tasks"), ("Thing", "deep"), ("Thing", "number"), ("Thing", "of"), ("Thing", "parts")]
def methL : List (Str × Str) := [("Runtime", "newest"), ("Runtime", "table"), ("Runtime", "add_world"), ("Runtime", "copied"), ("Thing", "__eq__")]
def fa : List He.Fa := gloL.map He.Fa.glo ++ (freeL.map He.Fa.free ++ (plain.map He.Fa.exc ++ (intL.map (fun p => He.Fa.int p.1 p.2) ++ (strL.map (fun p => He.Fa.str p.1 p.2) ++ (clsL.map He.Fa.cls ++ (clsL.map He.Fa.mkr ++ (noatL.map (fun p => He.Fa.noat p.1 p.2) ++ methL.map (fun p => He.Fa.meth p.1 p.2))))))))
def tf : List He.Defn := [("_law_made_right", none), ("_law_chain_right", none)]
def loose : List Str := (["_wall", "WorldError", "NoClass", "Taken", "NoField", "NoParts", "NoFit", "TooDeep", "is_integer", "is_name", "Kind", "Runtime", "is_class", "check_class", "line_of", "seen", "below", "own_fields", "add_class", "fields", "is_below", "Thing", "is_value", "class_of", "seen_of", "made", "make", "_law_cell_at", "_law_well", "_law_draw"] : List Str) ++ ((["_law_one", "_law_said", "_law_tree", "_law_coded", "_law_made_right", "_law_chain_right", "MOST_FIELDS", "MOST_DEEP", "LETTERS"] : List Str))
abbrev R : PySem.W.OpenRow := PySem.W.OpenLaw.row PySem.Challenge.rw_worldcalls_k03_things_made
abbrev hk : PySem.W.Hook := hookY 5 fa fn tf ex
def ob (s : PySem.W.SharedT) : AlC := obsY 5 fa fn tf ex (HandSHeadRun.getT s)
theorem ob_eq (s : PySem.W.SharedT) : ob s = hk.obs s.abs := obsY_eq (HandSHeadRun.getT_eq s)
theorem run (w : World) : HandSHeadRun.RunEq R (PySem.W.view R.prog [45]) hk ob 20000 loose w := by
  intro os
  kernel_rfl
end K03

set_option Elab.async false
set_option linter.all false
set_option maxRecDepth 100000
set_option maxHeartbeats 4000000
namespace K03
open PySem L2 Wc
local macro_rules | `(tactic| walk_at "lk") => `(tactic| first | with_reducible exact Look.here | (with_reducible apply Look.there; walk_at "lk"))
local macro_rules | `(tactic| walk_at "ul") => `(tactic| first | with_reducible exact UpL.here | (with_reducible apply UpL.there; walk_at "ul"))
local macro_rules | `(tactic| walk_at "ga") => `(tactic| first | exact GetAt.here | (apply GetAt.there; walk_at "ga"))
local macro_rules | `(tactic| walk_at "sa") => `(tactic| first | exact SetAt.here | (apply SetAt.there; walk_at "sa"))
local macro_rules | `(tactic| walk_at "hp") => `(tactic| first | assumption | (refine' KH.find ?k ?h; (case k => assumption); (case h => walk_at "lk")))
local macro_rules | `(tactic| walk_at "sql") => `(tactic| first | assumption | (refine' SqL.of ?h; (case h => walk_at "hp")) | (refine' Fr.sql (KH.fr ?k) ?n ?h; (case k => assumption); (case h => assumption); (case n => (simp; done))))
local macro_rules | `(tactic| walk_at "sqt") => `(tactic| first | assumption | (refine' SqT.of ?h; (case h => walk_at "hp")))
local macro_rules | `(tactic| walk_at "side") => `(tactic| first | exact (show (0 : Int) < _ by decide) | exact (show (0 : Int) < _ by omega) | exact ⟨by decide, by decide, by decide⟩ | exact ⟨by decide, by decide, by omega⟩ | exact ⟨by decide, by decide⟩ | exact ⟨by omega, by omega⟩ | exact Or.inl ⟨by omega, by omega⟩ | exact Or.inr ⟨by omega, by omega⟩)
local macro_rules | `(tactic| walk_at "siz") => `(tactic| first | (refine sz_of ?_; first | decide | omega | (simp; done) | (simp; omega)) | (refine sz_lt ?_; first | decide | omega | (simp; done) | (simp; omega)))
local macro_rules | `(tactic| walk_at "own") => `(tactic| first | (exact Or.inr (by assumption)) | (refine Or.inl ?_; simp; done))
local macro_rules | `(tactic| walk_at "al") => `(tactic| (refine' AllocO.mk ?k ?_; (case k => assumption); intro _ _ _ _))
local macro_rules | `(tactic| walk_at "up") => `(tactic| (refine' UpdO.mk ?k ?h ?m ?_; (case k => assumption); (case h => walk_at "ul"); (case m => walk_at "own"); intro _ _))
local macro_rules | `(tactic| walk_at "st") => `(tactic| first
  | ((with_reducible refine' r_var ?h ?_); (case h => walk_at "ga"))
  | (with_reducible refine' r_seq ?_) | (with_reducible refine' r_next ?_) | (with_reducible refine' r_asg ?_) | (with_reducible refine' r_drop ?_) | (with_reducible refine' r_ret ?_) | (with_reducible refine' r_retN ?_)
  | (with_reducible refine' r_ifs ?_) | (with_reducible refine' r_cont ?_) | (with_reducible refine' r_break ?_) | (with_reducible refine' r_c ?_) | (with_reducible refine' r_op ?_) | (with_reducible refine' r_un ?_)
  | (with_reducible refine' r_test ?_) | (with_reducible refine' r_tB ?_) | (with_reducible refine' r_not ?_) | (with_reducible refine' r_and ?_) | (with_reducible refine' r_or ?_) | (with_reducible refine' r_notV ?_)
  | (with_reducible refine' r_andV ?_) | (with_reducible refine' r_orV ?_) | (with_reducible refine' r_ifE ?_) | (with_reducible refine' r_bl ?_) | (with_reducible refine' r_nil ?_) | (with_reducible refine' r_cons ?_)
  | (with_reducible refine' r_tup ?_) | (with_reducible refine' r_lst ?_) | (with_reducible refine' r_cb ?_) | (with_reducible refine' r_call ?_) | ((with_reducible refine' r_name ?h ?_); (case h => walk_at "sa")) | (with_reducible refine' r_gnil ?_)
  | (with_reducible refine' r_gcons ?_) | (with_reducible refine' r_gsub ?_) | (with_reducible refine' r_par ?_) | (with_reducible refine' r_par2 ?_) | (with_reducible refine' r_I0 ?_) | (with_reducible refine' r_U ?_)
  | ((with_reducible refine' r_eq ?h ?_); (case h => rfl)) | ((with_reducible refine' r_ne ?h ?_); (case h => rfl))
  | ((with_reducible refine' r_ixL ?h ?a ?_); (case h => walk_at "sql"); (case a => rfl))
  | ((with_reducible refine' r_ixT ?h ?a ?_); (case h => walk_at "sqt"); (case a => rfl))
  | ((with_reducible refine' r_setL ?h ?a ?_); (case h => walk_at "hp"); (case a => rfl))
  | ((with_reducible refine' r_I ?c ?_); (case c => walk_at "side"))
  | (with_reducible refine' r_sl ?_) | (with_reducible refine' r_part ?_) | (with_reducible refine' r_nopart ?_) | (with_reducible refine' r_ii ?_)
  | ((with_reducible refine' r_slL ?h ?_); (case h => walk_at "sql"))
  | (with_reducible refine' r_bm ?_) | (with_reducible refine' r_bm0 ?_) | (with_reducible refine' r_int1 ?_) | (with_reducible refine' r_int1b ?_)
  | ((with_reducible refine' r_aug ?h ?_); (case h => walk_at "ga"))
  | ((with_reducible refine' r_cat ?a ?b ?z ?_); (case a => walk_at "hp"); (case b => walk_at "hp"); (case z => walk_at "siz"))
  | ((with_reducible refine' r_append ?a ?z ?_); (case a => walk_at "hp"); (case z => walk_at "siz"))
  | ((with_reducible refine' And.intro ?z ?_); (case z => first | walk_at "siz" | exact Or.inl ⟨rfl, _, by walk_at "sql"⟩))
  | ((with_reducible refine' r_gtup ?h ?l ?_); (case h => walk_at "sqt"); (case l => rfl))
  | (with_reducible refine' r_forL ?_) | (with_reducible refine' r_forE ?_) | (with_reducible refine' r_forR ?_) | ((with_reducible refine' r_forL2 ?h ?_); (case h => walk_at "sql")) | ((with_reducible refine' r_forE2 ?h ?_); (case h => walk_at "sql"))
  | (with_reducible refine' r_lcR ?_) | ((with_reducible refine' r_iteT ?h ?_); (case h => rfl)) | ((with_reducible refine' r_iteF ?h ?_); (case h => rfl))
  | (with_reducible refine' r_dnew ?_) | (with_reducible refine' r_vei ?_) | (with_reducible refine' r_ost ?_) | (with_reducible refine' r_mkV ?_) | (with_reducible refine' r_mkX ?_) | (with_reducible refine' r_xfld ?_)
  | ((with_reducible refine' MkG.mk ?o ?n ?k ?_); (case o => exact ErrOk.o (by assumption)); (case n => exact ErrOk.no (by assumption)); (case k => assumption); intro _ _ _ _)
  | ((with_reducible refine' AllocX.mk ?k ?_); (case k => assumption); intro _ _ _ _)
  | (with_reducible refine' r_chain ?_) | (with_reducible refine' r_lcS ?_) | (with_reducible refine' r_lcS2 ?_) | (with_reducible refine' r_lcL ?_) | (with_reducible refine' r_lcT ?_) | (with_reducible refine' r_lcI ?_) | (with_reducible refine' r_yes ?_)
  | (with_reducible refine' r_fld ?_) | (with_reducible refine' r_sfld ?_) | (with_reducible refine' r_meth ?_) | (with_reducible refine' r_make ?_) | (with_reducible refine' r_dget ?_) | (with_reducible refine' r_din ?_) | (with_reducible refine' r_dput ?_)
  | ((with_reducible refine' r_disp ?k ?_); (case k => assumption); intro _ _ _ _) | (with_reducible refine' r_pnil ?_) | (with_reducible refine' r_pcons ?_)
  | (walk_at "al") | (walk_at "up"))
local macro_rules | `(tactic| walk_at "go") => `(tactic| repeat walk_at "st")

structure Bt (mg : Str → Option Value) : Prop where
  f_len : mg "len" = none
  f_int : mg "int" = none
  f_isinstance : mg "isinstance" = none
  f_str : mg "str" = none
  f_bool : mg "bool" = none
  f_list : mg "list" = none
  f_tuple : mg "tuple" = none
  f_all : mg "all" = none
  f_sorted : mg "sorted" = none
  f_range : mg "range" = none
  LETTERS : ∃ t, mg "LETTERS" = some (.str LET t)
  MOST : ∃ t, mg "MOST_FIELDS" = some (.int 3 t)
/-- the program's two plain classes -/
structure Cs (K : PySem.W.Frag) (CK CR : Addr) : Prop where
  k : Cls K CK
  r : Cls K CR
  k_parent : NoAttr K CK "parent"
  k_fields : NoAttr K CK "fields"
  k_since : NoAttr K CK "since"
  r_kinds : NoAttr K CR "kinds"
  r_tables : NoAttr K CR "tables"
section
variable {P : Program} {w : World} {K : PySem.W.Frag} {mg : Str → Option Value} {base : Heap} {f : Addr} {fd : FuncData} {CK CR NC : Addr}
abbrev FnP (K : PySem.W.Frag) (x : Str) (st : Stmt) (f : Addr) (fd : FuncData) : Prop := FunD K x x (defArgs st) (defBody st) (defScope st) [] [] f fd
abbrev MeP (K : PySem.W.Frag) (x q : Str) (st : Stmt) (f : Addr) (fd : FuncData) : Prop := FunD K x q (defArgs st) (defBody st) (defScope st) [] [] f fd
def spIsName (K : PySem.W.Frag) : Sp := fun vs H Q _ => ∃ x tp, vs = [x] ∧ Th K H x tp ∧ ∀ H', Wc.Ext H H' → Q (.bl (nameV x)) H'
abbrev NN_is_name : List Str := ["thing", "letter"]
theorem ok_is_name (F : FnP K "is_name" s_is_name f fd) (T : Bt mg) : FnOk P w K mg base CX0 1 f fd ["thing"] (spIsName K) := by
  obtain ⟨tL, hL⟩ := T.LETTERS
  refine F.ok sc_is_name (fun vs H Q E h => ?_) (fun cdv A outer s H vs Q E hr h => ?_)
  · obtain ⟨x, tp, rfl, _⟩ := h
    rfl
  · refine ⟨_, PSs.nox (pss_one (ps_ret (pe_and (pe_callB call_isi (by rfl) T.f_isinstance PyProof.Rows.boot_isinstance (pa_cons (pv 0) (pa_cons (pe_bltn (v := .ty "str") (by rfl) T.f_str PyProof.Rows.boot_str rfl) pa_nil))) (pe_and (pe_chain op_le op_le pe_int (pe_callB call_len_str (by rfl) T.f_len PySem.boot_len (pa_cons (pv 0) pa_nil)) pe_int) (pe_one (pe_callB (cr_all rfl) (by rfl) T.f_all PyProof.Rows.boot_all (pa_cons (pe_lc (own := [("letter", 1)]) rfl sc_is_name.nd (pi_str (pv 0)) (blkOk_by (N := NN_is_name) (sc := defScope s_is_name) (by decide +kernel)) (fun _ _ _ _ _ => (pg_name (i := 1) sc_is_name.nd rfl (by first | exact Or.inl rfl | exact Or.inr rfl))) (fun _ _ _ _ _ => pts_nil) (fun _ _ _ _ _ => (pe_cmpR op_in_str (pv 1) (pe_glob (v := .str LET) (by rfl) hL ⟨_, rfl⟩) (by rfl)))) pa_nil))))))), ?_⟩
    obtain ⟨x, tp, rfl, th, k⟩ := h
    rw [show L2.start ["thing", "letter"] [x] = ([some (x), none] : List (Option V)) from rfl]
    have kh := KH.start (H := H)
    walk_at "go"
    obtain ⟨ty, h1, h2, h3⟩ := th.ty
    refine r_isi (.ty _) h1 h2 ?_
    walk_at "go"
    cases hs : Wc.isS x with
    | false =>
      walk_at "go"
      have e := nameV_of hs
      rw [e] at k
      exact k _ (Wc.Ext.refl _)
    | true =>
      obtain ⟨z, rfl, hz⟩ := th.isS hs
      walk_at "go"
      refine ⟨z, rfl, sz_of (by omega), ?_⟩
      walk_at "go"
      cases h1 : decide ((1 : Int) ≤ (z.length : Int)) with
      | false =>
        walk_at "go"
        have e : nameV (.str z) = false := by show nameS z = false; unfold nameS; rw [h1]; rfl
        rw [e] at k
        exact k _ (Wc.Ext.refl _)
      | true =>
        walk_at "go"
        cases h2 : decide ((z.length : Int) ≤ 8) with
        | false =>
          walk_at "go"
          have e : nameV (.str z) = false := by show nameS z = false; unfold nameS; rw [h1, h2]; rfl
          rw [e] at k
          exact k _ (Wc.Ext.refl _)
        | true =>
          walk_at "go"
          refine lcJ walk_str (fun i => z.cps[i]?.map fun c => V.bl (letB ⟨#[c]⟩)) (show z.length ≤ 100000 by omega) (fun _ _ => trivial) ?_ ?_
          · rintro i x H1 H2 R N hi e1 ⟨rfl, c, hc, rfl⟩ hR hN
            walk_at "go"
            refine ⟨rfl, ?_⟩
            walk_at "go"
            refine ⟨_, _, rfl, rfl, ?_⟩
            refine hR _ _ ?_ (Wc.Ext.refl _)
            rw [hc] <;> rfl
          · intro p H' hp e1 hl
            walk_at "go"
            rw [strs_fm z] at hl
            refine ⟨p, z.cps.toList.map fun c => letB ⟨#[c]⟩, rfl, SqL.of (by rw [hl, List.map_map]; rfl), ?_⟩
            have e : nameV (.str z) = (z.cps.toList.map fun c => letB ⟨#[c]⟩).all id := by show nameS z = _; unfold nameS; rw [h1, h2]; rfl
            rw [e] at k
            exact k _ e1
def spIsClass (K : PySem.W.Frag) (CK CR : Addr) : Sp := fun vs H Q _ => ∃ r kd tl T n x tp, vs = [.ref r, x] ∧ RtAt K CK CR H r kd tl T n ∧ Th K H x tp ∧ ∀ H', Wc.Ext H H' → Q (.bl (clsV T x)) H'
theorem ok_is_class (F : FnP K "is_class" s_is_class f fd) (T : Bt mg) (C : Cs K CK CR) (D_is_name : DfOk P w K mg base CX0 1 "is_name" ["thing"] (spIsName K)) : FnOk P w K mg base CX0 2 f fd ["runtime", "name"] (spIsClass K CK CR) := by
  refine F.ok sc_is_class (fun vs H Q E h => ?_) (fun cdv A outer s H vs Q E hr h => ?_)
  · obtain ⟨r, kd, tl, T, n, x, tp, rfl, _⟩ := h
    rfl
  · refine ⟨_, PSs.nox (pss_one (ps_ret (pe_and (pe_callD D_is_name hr (pa_cons (pv 1) pa_nil)) (pe_one (pe_cmp (pc_din (un1 hr) (pv 1) (pe_fld (pv 0) rfl))))))), ?_⟩
    obtain ⟨r, kd, tl, T, n, x, tp, rfl, R, th, k⟩ := h
    rw [show L2.start ["runtime", "name"] [V.ref r, x] = ([some (V.ref r), some (x)] : List (Option V)) from rfl]
    have kh := KH.start (H := H)
    walk_at "go"
    refine ⟨x, tp, rfl, th, fun H1 e1 => ?_⟩
    walk_at "go"
    cases hn : nameV x with
    | false =>
      walk_at "go"
      rw [clsV_of hn] at k
      exact k _ e1
    | true =>
      obtain ⟨z, rfl, hz⟩ := th.isS (by cases x <;> first | rfl | cases hn)
      obtain ⟨⟨dx, fs, h1, _⟩, ⟨kvs, h2, bn⟩, _⟩ := R
      walk_at "go"
      refine FldAt.mk (e1 _ _ h1) C.r C.r_kinds rfl ?_
      refine din_mk (rd_ext h2 e1) ?_
      rw [bn.isSome]
      have e : clsV T (.str z) = (findC T z).isSome := by
        show (nameS z && _) = _
        have hn : nameS z = true := hn
        rw [hn] <;> rfl
      rw [e] at k
      exact k _ e1
/-- x is a class, or NoClass(x) -/
def spCheck (K : PySem.W.Frag) (CK CR NC : Addr) : Sp := fun vs H Q E => ∃ r kd tl T n x tp, vs = [.ref r, x] ∧ RtAt K CK CR H r kd tl T n ∧ Th K H x tp ∧ (clsV T x = true → ∀ H', Wc.Ext H H' → Q .non H') ∧
  (clsV T x = false → ∀ d H', Wc.Ext H H' → H d = none → H' d = some (.xd [("name", x)]) → E (.ref NC) (some d) H')
theorem ok_check_class (F : FnP K "check_class" s_check_class f fd) (T : Bt mg) (C : Cs K CK CR) (E_NoClass : ErrOk P w K mg base "NoClass" NC "name") (D_is_class : DfOk P w K mg base CX0 2 "is_class" ["runtime", "name"] (spIsClass K CK CR)) :
    FnOk P w K mg base (L2.CX P w) 3 f fd ["runtime", "name"] (spCheck K CK CR NC) := by
  refine F.ok sc_check_class (fun vs H Q E h => ?_) (fun cdv A outer s H vs Q E hr h => ?_)
  · obtain ⟨r, kd, tl, T, n, x, tp, rfl, _⟩ := h
    rfl
  · refine ⟨_, (pss_one (ps_if (pt_not (pt_val (pe_callD D_is_class hr (pa_cons (pv 0) (pa_cons (pv 1) pa_nil))))) (pss_one (ps_raiseE rfl (takes_of rfl rfl rfl rfl) E_NoClass hr (pv 1))) pss_nil)), ?_⟩
    obtain ⟨r, kd, tl, T, n, x, tp, rfl, R, th, k1, k2⟩ := h
    rw [show L2.start ["runtime", "name"] [V.ref r, x] = ([some (V.ref r), some (x)] : List (Option V)) from rfl]
    have kh := KH.start (H := H)
    walk_at "go"
    refine ⟨r, kd, tl, T, n, x, tp, rfl, R, th, fun H1 e1 => ?_⟩
    walk_at "go"
    cases hc : clsV T x with
    | true =>
      walk_at "go"
      exact k1 hc _ e1
    | false =>
      walk_at "go"
      refine RsG.mk E_NoClass.o E_NoClass.no fun d H2 e2 hd hx => k2 hc d H2 (e1.trans e2) (e1.free hd) hx
def spLineOf (K : PySem.W.Frag) (CK CR : Addr) : Sp := fun vs H Q _ => ∃ r kd tl T n o l, vs = [.ref r, optV o] ∧ RtAt K CK CR H r kd tl T n ∧ Line T o l ∧ l.length ≤ 1000 ∧ ∀ p H', H p = none → Wc.Ext H H' → H' p = some (.lst (l.map V.str)) → Q (.ref p) H'
theorem ok_line_of (F : FnP K "line_of" s_line_of f fd) (T : Bt mg) (C : Cs K CK CR) : FnOk P w K mg base CX0 1 f fd ["runtime", "name"] (spLineOf K CK CR) := by
  refine F.ok sc_line_of (fun vs H Q E h => ?_) (fun cdv A outer s H vs Q E hr h => ?_)
  · obtain ⟨r, kd, tl, T, n, o, l, rfl, _⟩ := h
    rfl
  · refine ⟨_, PSs.nox (pss_cons (ps_set (i := 2) sc_line_of.nd rfl (by first | exact Or.inl rfl | exact Or.inr rfl) (pe_lst pa_nil))
      (pss_cons (ps_while PassesOwn.never (pt_cmpR op_notN (pv 1) pe_non (nomark _)) (pss_cons (ps_expr (pe_bm PySem.F.plainAttrs_list PySem.F.slot_list_append PySem.F.type_list_append mt_append (pv 2) (pa_cons (pv 1) pa_nil)))
      (pss_one (ps_set (i := 1) sc_line_of.nd rfl (by first | exact Or.inl rfl | exact Or.inr rfl) (pe_fld (pe_dget (un1 hr) (pe_fld (pv 0) rfl) (pv 1) (fun _ _ => rfl)) rfl)))))
      (pss_one (ps_ret (pv 2))))), ?_⟩
    obtain ⟨r, kd, tl, T, n, o, l, rfl, R, ln, hz, k⟩ := h
    rw [show L2.start ["runtime", "name", "found"] [V.ref r, optV o] = ([some (V.ref r), some (optV o), none] : List (Option V)) from rfl]
    have kh := KH.start (H := H)
    walk_at "go"
    rename_i p H1 np k1
    refine r_while ?_
    refine WhG.mk (fun m σ H2 => ∃ o2 done rest, σ = [some (.ref r), some (optV o2), some (.ref p)] ∧ Line T o2 rest ∧ done ++ rest = l ∧ m = rest.length ∧ KH H [] [(p, .lst (done.map V.str))] H2) l.length ⟨o, [], l, rfl, ln, rfl, rfl, k1⟩ ?_
    rintro m σ H2 ⟨o2, done, rest, rfl, ln2, hd, rfl, k2⟩
    obtain ⟨⟨dx, fs, h1, _⟩, ⟨kvs, h2, bn⟩, _⟩ := R
    walk_at "go"
    refine ⟨rfl, ?_⟩
    walk_at "go"
    cases ln2 with
    | nil =>
      walk_at "go"
      rw [List.append_nil] at hd
      subst hd
      exact k p H2 np k2.extE (k2.find .here)
    | @cons x c rest h t =>
      have hl : done.length + (rest.length + 1) ≤ 1000 := by
        have e := congrArg List.length hd
        rw [List.length_append, List.length_cons] at e
        omega
      refine r_iteT rfl (whN ?_)
      walk_at "go"
      rename_i H3 k3
      have e3 := k3.extE
      obtain ⟨v, hv, q, dx2, ft, rfl, hq, hft⟩ := bn.some h
      refine FldAt.mk (e3 _ _ h1) C.r C.r_kinds rfl ?_
      walk_at "go"
      refine dget_mk' (y := optV (some x)) rfl (rd_ext h2 e3) hv ?_
      refine FldAt.mk (e3 _ _ hq) C.k C.k_parent rfl ?_
      walk_at "go"
      exact ⟨c.par, done ++ [x], rest, rfl, t, by rw [← hd, List.append_assoc]; rfl, rfl, by rw [List.map_append]; exact k3⟩
/-- the classes that a world knows -/
def knownL (T : List Cl) (n : Nat) : List Str := (T.filter fun c => decide ((c.since : Int) ≤ (n : Int))).map (·.name)
def spKnown (K : PySem.W.Frag) (CK CR : Addr) : Sp := fun vs H Q _ => ∃ r kd tl T n m kvs, vs = [.ref r, .int (m : Nat)] ∧ RtAt K CK CR H r kd tl T n ∧ H kd = some (.dK kvs) ∧ T.length < 64 ∧
  ∀ ys p H', ys.Perm (knownL T m) → PyProof.Rows.sortedS ys = true → H p = none → Wc.Ext H H' → H' p = some (.lst (ys.map V.str)) → Q (.ref p) H'
abbrev NN_known : List Str := ["runtime", "world", "name", "kind"]
def spBelow (K : PySem.W.Frag) (CK CR : Addr) : Sp := fun vs H Q _ => ∃ r kd tl T n x y l, vs = [.ref r, .str x, .str y] ∧ RtAt K CK CR H r kd tl T n ∧ Line T (some x) l ∧ l.length ≤ 1000 ∧ ∀ H', Wc.Ext H H' → Q (.bl (inV (.str y) (l.map V.str))) H'
theorem ok_below (F : FnP K "below" s_below f fd) (T : Bt mg) (D_line_of : DfOk P w K mg base CX0 1 "line_of" ["runtime", "name"] (spLineOf K CK CR)) : FnOk P w K mg base CX0 2 f fd ["runtime", "one", "other"] (spBelow K CK CR) := by
  refine F.ok sc_below (fun vs H Q E h => ?_) (fun cdv A outer s H vs Q E hr h => ?_)
  · obtain ⟨r, kd, tl, T, n, x, y, l, rfl, _⟩ := h
    rfl
  · refine ⟨_, PSs.nox (pss_one (ps_ret (pe_cmpR op_in_seq (pv 2) (pe_callD D_line_of hr (pa_cons (pv 0) (pa_cons (pv 1) pa_nil))) (by rfl)))), ?_⟩
    obtain ⟨r, kd, tl, T, n, x, y, l, rfl, R, ln, hz, k⟩ := h
    rw [show L2.start ["runtime", "one", "other"] [V.ref r, V.str x, V.str y] = ([some (V.ref r), some (V.str x), some (V.str y)] : List (Option V)) from rfl]
    walk_at "go"
    refine ⟨r, kd, tl, T, n, some x, l, rfl, R, ln, hz, fun p H' hp e hl => ?_⟩
    exact ⟨p, _, rfl, .inl (SqL.of hl), rfl, by rw [List.all_map]; exact List.all_eq_true.mpr fun _ _ => rfl, k _ e⟩
end
end K03


set_option Elab.async false
set_option linter.all false
set_option maxRecDepth 100000
set_option maxHeartbeats 4000000
namespace K03
open PySem L2 Wc
local macro_rules | `(tactic| walk_at "lk") => `(tactic| first | with_reducible exact Look.here | (with_reducible apply Look.there; walk_at "lk"))
local macro_rules | `(tactic| walk_at "ul") => `(tactic| first | with_reducible exact UpL.here | (with_reducible apply UpL.there; walk_at "ul"))
local macro_rules | `(tactic| walk_at "ga") => `(tactic| first | exact GetAt.here | (apply GetAt.there; walk_at "ga"))
local macro_rules | `(tactic| walk_at "sa") => `(tactic| first | exact SetAt.here | (apply SetAt.there; walk_at "sa"))
local macro_rules | `(tactic| walk_at "hp") => `(tactic| first | assumption | (refine' KH.find ?k ?h; (case k => assumption); (case h => walk_at "lk")))
local macro_rules | `(tactic| walk_at "sql") => `(tactic| first | assumption | (refine' SqL.of ?h; (case h => walk_at "hp")) | (refine' Fr.sql (KH.fr ?k) ?n ?h; (case k => assumption); (case h => assumption); (case n => (simp; done))))
local macro_rules | `(tactic| walk_at "sqt") => `(tactic| first | assumption | (refine' SqT.of ?h; (case h => walk_at "hp")))
local macro_rules | `(tactic| walk_at "side") => `(tactic| first | exact (show (0 : Int) < _ by decide) | exact (show (0 : Int) < _ by omega) | exact ⟨by decide, by decide, by decide⟩ | exact ⟨by decide, by decide, by omega⟩ | exact ⟨by decide, by decide⟩ | exact ⟨by omega, by omega⟩ | exact Or.inl ⟨by omega, by omega⟩ | exact Or.inr ⟨by omega, by omega⟩)
local macro_rules | `(tactic| walk_at "siz") => `(tactic| first | (refine sz_of ?_; first | decide | omega | (simp; done) | (simp; omega)) | (refine sz_lt ?_; first | decide | omega | (simp; done) | (simp; omega)))
local macro_rules | `(tactic| walk_at "own") => `(tactic| first | (exact Or.inr (by assumption)) | (refine Or.inl ?_; simp; done))
local macro_rules | `(tactic| walk_at "al") => `(tactic| (refine' AllocO.mk ?k ?_; (case k => assumption); intro _ _ _ _))
local macro_rules | `(tactic| walk_at "up") => `(tactic| (refine' UpdO.mk ?k ?h ?m ?_; (case k => assumption); (case h => walk_at "ul"); (case m => walk_at "own"); intro _ _))
local macro_rules | `(tactic| walk_at "st") => `(tactic| first
  | ((with_reducible refine' r_var ?h ?_); (case h => walk_at "ga"))
  | (with_reducible refine' r_seq ?_) | (with_reducible refine' r_next ?_) | (with_reducible refine' r_asg ?_) | (with_reducible refine' r_drop ?_) | (with_reducible refine' r_ret ?_) | (with_reducible refine' r_retN ?_)
  | (with_reducible refine' r_ifs ?_) | (with_reducible refine' r_cont ?_) | (with_reducible refine' r_break ?_) | (with_reducible refine' r_c ?_) | (with_reducible refine' r_op ?_) | (with_reducible refine' r_un ?_)
  | (with_reducible refine' r_test ?_) | (with_reducible refine' r_tB ?_) | (with_reducible refine' r_not ?_) | (with_reducible refine' r_and ?_) | (with_reducible refine' r_or ?_) | (with_reducible refine' r_notV ?_)
  | (with_reducible refine' r_andV ?_) | (with_reducible refine' r_orV ?_) | (with_reducible refine' r_ifE ?_) | (with_reducible refine' r_bl ?_) | (with_reducible refine' r_nil ?_) | (with_reducible refine' r_cons ?_)
  | (with_reducible refine' r_tup ?_) | (with_reducible refine' r_lst ?_) | (with_reducible refine' r_cb ?_) | (with_reducible refine' r_call ?_) | ((with_reducible refine' r_name ?h ?_); (case h => walk_at "sa")) | (with_reducible refine' r_gnil ?_)
  | (with_reducible refine' r_gcons ?_) | (with_reducible refine' r_gsub ?_) | (with_reducible refine' r_par ?_) | (with_reducible refine' r_par2 ?_) | (with_reducible refine' r_I0 ?_) | (with_reducible refine' r_U ?_)
  | ((with_reducible refine' r_eq ?h ?_); (case h => rfl)) | ((with_reducible refine' r_ne ?h ?_); (case h => rfl))
  | ((with_reducible refine' r_ixL ?h ?a ?_); (case h => walk_at "sql"); (case a => rfl))
  | ((with_reducible refine' r_ixT ?h ?a ?_); (case h => walk_at "sqt"); (case a => rfl))
  | ((with_reducible refine' r_setL ?h ?a ?_); (case h => walk_at "hp"); (case a => rfl))
  | ((with_reducible refine' r_I ?c ?_); (case c => walk_at "side"))
  | (with_reducible refine' r_sl ?_) | (with_reducible refine' r_part ?_) | (with_reducible refine' r_nopart ?_) | (with_reducible refine' r_ii ?_)
  | ((with_reducible refine' r_slL ?h ?_); (case h => walk_at "sql"))
  | (with_reducible refine' r_bm ?_) | (with_reducible refine' r_bm0 ?_) | (with_reducible refine' r_int1 ?_) | (with_reducible refine' r_int1b ?_)
  | ((with_reducible refine' r_aug ?h ?_); (case h => walk_at "ga"))
  | ((with_reducible refine' r_cat ?a ?b ?z ?_); (case a => walk_at "hp"); (case b => walk_at "hp"); (case z => walk_at "siz"))
  | ((with_reducible refine' r_append ?a ?z ?_); (case a => walk_at "hp"); (case z => walk_at "siz"))
  | ((with_reducible refine' And.intro ?z ?_); (case z => first | walk_at "siz" | exact Or.inl ⟨rfl, _, by walk_at "sql"⟩))
  | ((with_reducible refine' r_gtup ?h ?l ?_); (case h => walk_at "sqt"); (case l => rfl))
  | (with_reducible refine' r_forL ?_) | (with_reducible refine' r_forE ?_) | (with_reducible refine' r_forR ?_) | ((with_reducible refine' r_forL2 ?h ?_); (case h => walk_at "sql")) | ((with_reducible refine' r_forE2 ?h ?_); (case h => walk_at "sql"))
  | (with_reducible refine' r_lcR ?_) | ((with_reducible refine' r_iteT ?h ?_); (case h => rfl)) | ((with_reducible refine' r_iteF ?h ?_); (case h => rfl))
  | (with_reducible refine' r_dnew ?_) | (with_reducible refine' r_vei ?_) | (with_reducible refine' r_ost ?_) | (with_reducible refine' r_mkV ?_) | (with_reducible refine' r_mkX ?_) | (with_reducible refine' r_xfld ?_)
  | ((with_reducible refine' MkG.mk ?o ?n ?k ?_); (case o => exact ErrOk.o (by assumption)); (case n => exact ErrOk.no (by assumption)); (case k => assumption); intro _ _ _ _)
  | ((with_reducible refine' AllocX.mk ?k ?_); (case k => assumption); intro _ _ _ _)
  | (with_reducible refine' r_chain ?_) | (with_reducible refine' r_lcS ?_) | (with_reducible refine' r_lcS2 ?_) | (with_reducible refine' r_lcL ?_) | (with_reducible refine' r_lcT ?_) | (with_reducible refine' r_lcI ?_) | (with_reducible refine' r_yes ?_)
  | (with_reducible refine' r_fld ?_) | (with_reducible refine' r_sfld ?_) | (with_reducible refine' r_meth ?_) | (with_reducible refine' r_make ?_) | (with_reducible refine' r_dget ?_) | (with_reducible refine' r_din ?_) | (with_reducible refine' r_dput ?_)
  | ((with_reducible refine' r_disp ?k ?_); (case k => assumption); intro _ _ _ _) | (with_reducible refine' r_pnil ?_) | (with_reducible refine' r_pcons ?_)
  | (walk_at "al") | (walk_at "up"))
local macro_rules | `(tactic| walk_at "go") => `(tactic| repeat walk_at "st")

structure Cs2 (K : PySem.W.Frag) (CR : Addr) : Prop where
  entries : NoAttr K CR "entries"
  tasks : NoAttr K CR "tasks"
  solutions : NoAttr K CR "solutions"
  shapes : NoAttr K CR "shapes"
  made : NoAttr K CR "made"
section
variable {P : Program} {w : World} {K : PySem.W.Frag} {mg : Str → Option Value} {base : Heap} {f : Addr} {fd : FuncData} {CK CR NC : Addr}
abbrev kindFs (pv fv sv : V) : List (Str × V) := [("parent", pv), ("fields", fv), ("since", sv)]
def spKind (CK : Addr) : Sp := fun vs H Q _ => ∃ a dx pv fv sv, vs = [.ref a, pv, fv, sv] ∧ H a = some (.ins CK dx []) ∧ ∀ H', Fr [a] H H' → H' a = some (.ins CK dx (kindFs pv fv sv)) → Q .non H'
theorem ok_kind (F : MeP K "__init__" "Kind.__init__" s_Kind_init f fd) (C : Cs K CK CR) : FnOk P w K mg base CX0 1 f fd ["self", "parent", "fields", "since"] (spKind CK) := by
  refine F.ok sc_Kind_init (fun vs H Q E h => ?_) (fun cdv A outer s H vs Q E hr h => ?_)
  · obtain ⟨a, dx, pv, fv, sv, rfl, _⟩ := h
    rfl
  · refine ⟨_, PSs.nox (pss_cons (ps_fld (pv 0) (pv 1) rfl)
      (pss_cons (ps_fld (pv 0) (pv 2) rfl)
      (pss_one (ps_fld (pv 0) (pv 3) rfl)))), ?_⟩
    obtain ⟨a, dx, p0, f0, s0, rfl, ha, k⟩ := h
    rw [show L2.start ["self", "parent", "fields", "since"] [V.ref a, p0, f0, s0] = ([some (V.ref a), some (p0), some (f0), some (s0)] : List (Option V)) from rfl]
    have kh := KH.start1 ha
    walk_at "go"
    refine SFldAt.mk kh (by walk_at "ul") C.k C.k_parent (by decide) (.inl (by simp)) (kh.find .here) fun H1 k1 => ?_
    walk_at "go"
    refine SFldAt.mk k1 (by walk_at "ul") C.k C.k_fields (by show (1 : Nat) < 1000; decide) (.inl (by simp)) (k1.find .here) fun H2 k2 => ?_
    walk_at "go"
    refine SFldAt.mk k2 (by walk_at "ul") C.k C.k_since (by show (2 : Nat) < 1000; decide) (.inl (by simp)) (k2.find .here) fun H3 k3 => ?_
    walk_at "go"
    exact k H3 k3.fr (k3.find .here)
theorem mkKind {H0 H : Hp} {M : List Addr} {Lk : List (Addr × HO)} {pv fv sv : V} {Q : Addr → Hp → Prop} {E : XK} (k : KH H0 M Lk H) (q : ∀ x dx H', H0 x = none → KH H0 M ((x, .ins CK dx (kindFs pv fv sv)) :: (dx, .own x) :: Lk) H' → Q x H') :
    ∀ x dx, H x = none → H dx = none → dx ≠ x → spKind CK (.ref x :: ([pv, fv, sv] ++ [])) (upd (upd H dx (.own x)) x (.ins CK dx [])) (fun v H2 => v = .non ∧ Q x H2) E := fun x dx hx hd ne => by
  have k1 := (k.new (o := .own x) hd).new (p := x) (o := .ins CK dx []) (by rw [upd_ne (Ne.symm ne)]; exact hx)
  refine ⟨x, dx, pv, fv, sv, rfl, upd_same, fun H' fr h' => ⟨rfl, q x dx H' (k.fresh hx) (k1.up .here fr h' (.inr (k.fresh hx)))⟩⟩
/-- the first classes -/
abbrev T0 : List Cl := [⟨"any", none, [], [], 0⟩, ⟨"int", some "any", [], [], 0⟩]
def spRuntime (K : PySem.W.Frag) (CK CR : Addr) : Sp := fun vs H Q _ => ∃ a dx, vs = [.ref a] ∧ H a = some (.ins CR dx []) ∧ ∀ kd tl t0 H', Fr [a] H H' → RtW K CK CR H' a kd tl T0 0 → H kd = none → H tl = none → H' tl = some (.lst [.ref t0]) → H' t0 = some (.dK []) → H t0 = none → ∀ sh, ShF CR H' a sh → H' sh = some (.dK []) → H sh = none → Q .non H'
theorem ok_runtime (F : MeP K "__init__" "Runtime.__init__" s_Runtime_init f fd) (C : Cs K CK CR) (C2 : Cs2 K CR) (K_Kind : MkOk P w K mg base CX0 1 "Kind" CK ["self", "parent", "fields", "since"] (spKind CK)) :
    FnOk P w K mg base CX0 3 f fd ["self"] (spRuntime K CK CR) := by
  refine F.ok sc_Runtime_init (fun vs H Q E h => ?_) (fun cdv A outer s H vs Q E hr h => ?_)
  · obtain ⟨a, dx, rfl, _⟩ := h
    rfl
  · refine ⟨_, PSs.nox (pss_cons (ps_fld (pv 0) (pe_disp (pps_cons pe_str (pe_makeC K_Kind hr (pa_cons pe_non (pa_cons (pe_tup pa_nil) (pa_cons pe_int pa_nil)))) (pps_cons pe_str (pe_makeC K_Kind hr (pa_cons pe_str (pa_cons (pe_tup pa_nil) (pa_cons pe_int pa_nil)))) pps_nil)) rfl rfl (fun z => nomatch z) (by decide)) rfl)
      (pss_cons (ps_fld (pv 0) (pe_lst (pa_cons pe_dnewK pa_nil)) rfl)
      (pss_cons (ps_fld (pv 0) (pe_lst pa_nil) rfl)
      (pss_cons (ps_fld (pv 0) (pe_lst pa_nil) rfl)
      (pss_cons (ps_fld (pv 0) pe_dnewK rfl)
      (pss_cons (ps_fld (pv 0) pe_dnewK rfl)
      (pss_one (ps_fld (pv 0) (pe_disp (pps_cons pe_str pe_int (pps_cons pe_str pe_int (pps_cons pe_str pe_int (pps_cons pe_str pe_int pps_nil)))) rfl rfl (fun z => nomatch z) (by decide)) rfl)))))))), ?_⟩
    obtain ⟨a, dx, rfl, ha, k⟩ := h
    rw [show L2.start ["self"] [V.ref a] = ([some (V.ref a)] : List (Option V)) from rfl]
    have kh := KH.start1 ha
    walk_at "go"
    rename_i kd H1 nk k1 tup H2 nt k2
    refine mkKind k2 fun x1 dx1 H3 nx1 k3 => ?_
    walk_at "go"
    rename_i tup2 H4 nt2 k4
    refine mkKind k4 fun x2 dx2 H5 nx2 k5 => ?_
    walk_at "go"
    refine' r_dispE [(.inr "any", .ref x1), (.inr "int", .ref x2)] ?h ?e ?l ?_
    case h => exact k5.find (by walk_at "lk")
    case e => rfl
    case l => simp
    have k6 := KH.up k5 (o' := .dK [(.inr "any", .ref x1), (.inr "int", .ref x2)]) (by walk_at "ul") (Fr.updE (by simp)) upd_same (.inr nk)
    rw [show mergeK [] [(Sum.inr ("any" : Str), V.ref x1), (Sum.inr ("int" : Str), V.ref x2)] = ([(Sum.inr ("any" : Str), V.ref x1), (Sum.inr ("int" : Str), V.ref x2)] : List (Key × V)) from rfl]
    generalize upd H5 kd _ = H6 at k6 ⊢
    walk_at "go"
    refine SFldAt.mk (by assumption) (by walk_at "ul") C.r C.r_kinds (by show (0 : Nat) < 1000; decide) (.inl (by simp)) (by walk_at "hp") fun H10 k10 => ?_
    walk_at "go"
    refine SFldAt.mk (by assumption) (by walk_at "ul") C.r C.r_tables (by show (1 : Nat) < 1000; decide) (.inl (by simp)) (by walk_at "hp") fun H11 k11 => ?_
    walk_at "go"
    refine SFldAt.mk (by assumption) (by walk_at "ul") C.r C2.entries (by show (2 : Nat) < 1000; decide) (.inl (by simp)) (by walk_at "hp") fun H12 k12 => ?_
    walk_at "go"
    refine SFldAt.mk (by assumption) (by walk_at "ul") C.r C2.tasks (by show (3 : Nat) < 1000; decide) (.inl (by simp)) (by walk_at "hp") fun H13 k13 => ?_
    walk_at "go"
    refine SFldAt.mk (by assumption) (by walk_at "ul") C.r C2.solutions (by show (4 : Nat) < 1000; decide) (.inl (by simp)) (by walk_at "hp") fun H14 k14 => ?_
    walk_at "go"
    refine SFldAt.mk (by assumption) (by walk_at "ul") C.r C2.shapes (by show (5 : Nat) < 1000; decide) (.inl (by simp)) (by walk_at "hp") fun H15 k15 => ?_
    walk_at "go"
    rename_i md H17 nmd k17
    refine' r_dispE [(.inr "direct", .int 0), (.inr "split", .int 0), (.inr "looked", .int 0), (.inr "newest", .int 0)] ?h ?e ?l ?_
    case h => exact k17.find (by walk_at "lk")
    case e => rfl
    case l => simp
    have k18 := KH.up k17 (o' := .dK (mergeK [] [(Sum.inr ("direct" : Str), V.int 0), (Sum.inr ("split" : Str), V.int 0), (Sum.inr ("looked" : Str), V.int 0), (Sum.inr ("newest" : Str), V.int 0)])) (by walk_at "ul") (Fr.updE (by simp)) upd_same (.inr nmd)
    generalize upd H17 md _ = H18 at k18 ⊢
    walk_at "go"
    refine SFldAt.mk (by assumption) (by walk_at "ul") C.r C2.made (by show (6 : Nat) < 1000; decide) (.inl (by simp)) (by walk_at "hp") fun H16 k16 => ?_
    walk_at "go"
    have ho := k16.find (p := a) (by walk_at "lk")
    have hx1 := k16.find (p := x1) (by walk_at "lk")
    have hx2 := k16.find (p := x2) (by walk_at "lk")
    refine k kd _ _ H16 k16.fr ⟨⟨⟨dx, _, ho, rfl, rfl, rfl⟩, ⟨_, .inl (k16.find (p := kd) (by walk_at "lk")), .cons ⟨rfl, _, _, _, rfl, hx1, .inl (k16.find (p := tup) (by walk_at "lk"))⟩ (.cons ⟨rfl, _, _, _, rfl, hx2, .inl (k16.find (p := tup2) (by walk_at "lk"))⟩ .nil)⟩, _, k16.find (by walk_at "lk"), rfl⟩, _, k16.find (by walk_at "lk")⟩ nk (by assumption) (k16.find (by walk_at "lk")) (k16.find (by walk_at "lk")) (by assumption) _ ⟨dx, _, ho, rfl⟩ (k16.find (by walk_at "lk")) (by assumption)
def spNewest (K : PySem.W.Frag) (CK CR : Addr) : Sp := fun vs H Q _ => ∃ r kd tl T n, vs = [.ref r] ∧ RtAt K CK CR H r kd tl T n ∧ Q (.int (n : Nat)) H
theorem ok_newest (F : MeP K "newest" "Runtime.newest" s_Runtime_newest f fd) (T : Bt mg) (C : Cs K CK CR) : FnOk P w K mg base CX0 1 f fd ["self"] (spNewest K CK CR) := by
  refine F.ok sc_Runtime_newest (fun vs H Q E h => ?_) (fun cdv A outer s H vs Q E hr h => ?_)
  · obtain ⟨r, kd, tl, T, n, rfl, _⟩ := h
    rfl
  · refine ⟨_, PSs.nox (pss_one (ps_ret (pe_op op_sub (pe_callB call_len_seq (by rfl) T.f_len PySem.boot_len (pa_cons (pe_fld (pv 0) rfl) pa_nil)) pe_int))), ?_⟩
    obtain ⟨r, kd, tl, T, n, rfl, R, k⟩ := h
    rw [show L2.start ["self"] [V.ref r] = ([some (V.ref r)] : List (Option V)) from rfl]
    obtain ⟨⟨dx, fs, h1, _⟩, _, xs, h2, h3⟩ := R
    walk_at "go"
    refine FldAt.mk h1 C.r C.r_tables rfl ?_
    refine ⟨tl, xs, rfl, .inl (SqL.of h2), ?_⟩
    walk_at "go"
    rw [h3, show (((n + 1 : Nat) : Int) - 1) = (n : Int) by omega]
    exact k
def spTable (K : PySem.W.Frag) (CK CR : Addr) : Sp := fun vs H Q _ => ∃ r kd tl T n m, vs = [.ref r, .int (m : Nat)] ∧ RtAt K CK CR H r kd tl T n ∧ m ≤ n ∧ ∀ xs v, H tl = some (.lst xs) → xs[m]? = some v → Q v H
theorem ok_table (F : MeP K "table" "Runtime.table" s_Runtime_table f fd) (T : Bt mg) (C : Cs K CK CR) : FnOk P w K mg base CX0 1 f fd ["self", "world"] (spTable K CK CR) := by
  refine F.ok sc_Runtime_table (fun vs H Q E h => ?_) (fun cdv A outer s H vs Q E hr h => ?_)
  · obtain ⟨r, kd, tl, T, n, m, rfl, _⟩ := h
    rfl
  · refine ⟨_, PSs.nox (pss_one (ps_ret (pe_ix ix_list (pe_fld (pv 0) rfl) (pv 1) (fun _ _ => rfl)))), ?_⟩
    obtain ⟨r, kd, tl, T, n, m, rfl, R, hm, k⟩ := h
    rw [show L2.start ["self", "world"] [V.ref r, V.int m] = ([some (V.ref r), some (V.int m)] : List (Option V)) from rfl]
    obtain ⟨⟨dx, fs, h1, _⟩, _, xs, h2, h3⟩ := R
    walk_at "go"
    refine FldAt.mk h1 C.r C.r_tables rfl ?_
    walk_at "go"
    exact r_ixL (SqL.of h2) (atI_nat (List.getElem?_eq_getElem (show m < xs.length by omega))) (k xs _ h2 (List.getElem?_eq_getElem (show m < xs.length by omega)))
def spAddWorld (K : PySem.W.Frag) (CK CR : Addr) : Sp := fun vs H Q _ => ∃ r kd tl T n v, vs = [.ref r, v] ∧ RtAt K CK CR H r kd tl T n ∧ n < 50000 ∧ ∀ xs H', H tl = some (.lst xs) → Fr [tl] H H' → RtAt K CK CR H' r kd tl T (n + 1) → H' tl = some (.lst (xs ++ [v])) → Q (.int ((n + 1 : Nat) : Int)) H'
theorem rt_fr_tl {H H' : Hp} {r kd tl : Addr} {T : List Cl} {n : Nat} {xs : List V} (R : RtAt K CK CR H r kd tl T n) (f : Fr [tl] H H') (h : H' tl = some (.lst xs)) : RtAt K CK CR H' r kd tl T (xs.length - 1) ∨ xs = [] := by
  cases xs with
  | nil => exact .inr rfl
  | cons x xs =>
    obtain ⟨⟨dx, fs, h1, hn⟩, ⟨kvs, h2, bn⟩, ys, h3, _⟩ := R
    have mo := Mo.fr1 f h3 rfl
    refine .inl ⟨⟨dx, fs, mo _ _ rfl h1, hn⟩, ⟨kvs, ?_, bn.mono fun _ _ z => z.mo mo⟩, _, h, by simp⟩
    rcases h2 with h2 | ⟨o, h2⟩
    · exact .inl (f _ _ (by simpa using ne_of h2 h3 (by intro z; cases z)) h2)
    · exact .inr ⟨o, f _ _ (by simpa using ne_of h2 h3 (by intro z; cases z)) h2⟩
theorem ok_add_world (F : MeP K "add_world" "Runtime.add_world" s_Runtime_add_world f fd) (T : Bt mg) (C : Cs K CK CR) (M_newest : MtOk P w K mg base CX0 1 CR "newest" ["self"] (spNewest K CK CR)) : FnOk P w K mg base CX0 2 f fd ["self", "table"] (spAddWorld K CK CR) := by
  refine F.ok sc_Runtime_add_world (fun vs H Q E h => ?_) (fun cdv A outer s H vs Q E hr h => ?_)
  · obtain ⟨r, kd, tl, T, n, v, rfl, _⟩ := h
    rfl
  · refine ⟨_, PSs.nox (pss_cons (ps_expr (pe_bm PySem.F.plainAttrs_list PySem.F.slot_list_append PySem.F.type_list_append mt_append (pe_fld (pv 0) rfl) (pa_cons (pv 1) pa_nil)))
      (pss_one (ps_ret (pe_methC0 M_newest hr (pv 0))))), ?_⟩
    obtain ⟨r, kd, tl, T, n, v, rfl, R, hn, k⟩ := h
    rw [show L2.start ["self", "table"] [V.ref r, v] = ([some (V.ref r), some (v)] : List (Option V)) from rfl]
    have R2 := R
    obtain ⟨⟨dx, fs, h1, hs, _⟩, _, xs, h2, h3⟩ := R2
    have kh := KH.start1 h2
    walk_at "go"
    refine FldAt.mk h1 C.r C.r_tables rfl ?_
    refine ⟨.inl ⟨rfl, _, SqL.of h2⟩, ?_⟩
    walk_at "go"
    rename_i H1 k1
    have hl := k1.find (p := tl) .here
    have R1 : RtAt K CK CR H1 r kd tl T (n + 1) := by
      rcases rt_fr_tl R k1.fr hl with z | z
      · rw [List.length_append, h3] at z
        exact z
      · simp at z
    obtain ⟨⟨dx1, fs1, hr1, hs1, _⟩, _⟩ := id R1
    refine ⟨r, dx1, _, rfl, hr1, hs1, ?_⟩
    walk_at "go"
    exact ⟨r, kd, tl, T, n + 1, rfl, R1, k xs H1 h2 k1.fr R1 hl⟩
def spNow (K : PySem.W.Frag) (CK CR : Addr) : Sp := fun vs H Q _ => ∃ r kd tl T n, vs = [.ref r] ∧ RtAt K CK CR H r kd tl T n ∧ Q (.int (n : Nat)) H
/-- world_of(runtime, None) -/
def spWorldN (K : PySem.W.Frag) (CK CR : Addr) : Sp := fun vs H Q _ => ∃ r kd tl T n, vs = [.ref r, .non] ∧ RtAt K CK CR H r kd tl T n ∧ Q (.int (n : Nat)) H
/-- classes(runtime) -/
def spClasses (K : PySem.W.Frag) (CK CR : Addr) : Sp := fun vs H Q _ => ∃ r kd tl T n, vs = [.ref r, .non] ∧ RtW K CK CR H r kd tl T n ∧ T.length < 64 ∧
  ∀ ys p H', ys.Perm (knownL T n) → PyProof.Rows.sortedS ys = true → H p = none → Wc.Ext H H' → H' p = some (.lst (ys.map V.str)) → Q (.ref p) H'
/-- parent(runtime, name), of a class -/
def spParent (K : PySem.W.Frag) (CK CR : Addr) : Sp := fun vs H Q _ => ∃ r kd tl T n x c, vs = [.ref r, .str x] ∧ RtAt K CK CR H r kd tl T n ∧ nameS x = true ∧ x.length ≤ 1000 ∧ findC T x = some c ∧ ∀ H', Wc.Ext H H' → Q (optV c.par) H'
/-- fields(runtime, name), of a class -/
def spFields (K : PySem.W.Frag) (CK CR : Addr) : Sp := fun vs H Q _ => ∃ r kd tl T n x c, vs = [.ref r, .str x] ∧ RtAt K CK CR H r kd tl T n ∧ nameS x = true ∧ x.length ≤ 1000 ∧ findC T x = some c ∧ ∀ p H', H p = none → Wc.Ext H H' → H' p = some (.lst c.all) → Q (.ref p) H'
theorem ok_fields (F : FnP K "fields" s_fields f fd) (T : Bt mg) (C : Cs K CK CR) (D_check_class : DfOk P w K mg base (L2.CX P w) 3 "check_class" ["runtime", "name"] (spCheck K CK CR NC)) : FnOk P w K mg base CX0 4 f fd ["runtime", "name"] (spFields K CK CR) := by
  refine F.ok sc_fields (fun vs H Q E h => ?_) (fun cdv A outer s H vs Q E hr h => ?_)
  · obtain ⟨r, kd, tl, T, n, x, c, rfl, _⟩ := h
    rfl
  · refine ⟨_, PSs.nox (pss_cons (ps_expr (pe_callD D_check_class hr (pa_cons (pv 0) (pa_cons (pv 1) pa_nil))))
      (pss_one (ps_ret (pe_callTy call_list_of (by rfl) T.f_list PyProof.Rows.boot_list (pa_cons (pe_fld (pe_dget (un1 hr) (pe_fld (pv 0) rfl) (pv 1) (fun _ _ => rfl)) rfl) pa_nil))))), ?_⟩
    obtain ⟨r, kd, tl, T, n, x, c, rfl, R, hn, hx, hc, k⟩ := h
    rw [show L2.start ["runtime", "name"] [V.ref r, V.str x] = ([some (V.ref r), some (V.str x)] : List (Option V)) from rfl]
    have hcls : clsV T (.str x) = true := by
      show (nameS x && (findC T x).isSome) = true
      rw [hn, hc] <;> rfl
    walk_at "go"
    refine ⟨r, kd, tl, T, n, _, _, rfl, R, .str hx, fun _ H1 e1 => ?_, fun z => by rw [hcls] at z; cases z⟩
    obtain ⟨⟨dx, fs, h1, _⟩, ⟨kvs, h2, bn⟩, _⟩ := R
    obtain ⟨v, hv, q, dx2, ft, rfl, hq, hft⟩ := bn.some hc
    walk_at "go"
    refine FldAt.mk (e1 _ _ h1) C.r C.r_kinds rfl ?_
    walk_at "go"
    refine dget_mk (rd_ext h2 e1) hv ?_
    refine FldAt.mk (e1 _ _ hq) C.k C.k_fields rfl ?_
    walk_at "go"
    refine ⟨ft, c.all, rfl, .inr (hft.ext e1).t, fun l hl => ?_⟩
    exact k l _ (e1.free hl) (e1.trans (.new hl)) upd_same
/-- is_below(runtime, one, other), of classes -/
def spIsBelow (K : PySem.W.Frag) (CK CR : Addr) : Sp := fun vs H Q _ => ∃ r kd tl T n x y l, vs = [.ref r, .str x, .str y] ∧ RtAt K CK CR H r kd tl T n ∧ clsV T (.str x) = true ∧ clsV T (.str y) = true ∧ x.length ≤ 1000 ∧ y.length ≤ 1000 ∧ Line T (some x) l ∧ l.length ≤ 1000 ∧ ∀ H', Wc.Ext H H' → Q (.bl (inV (.str y) (l.map V.str))) H'
theorem ok_is_below (F : FnP K "is_below" s_is_below f fd) (D_check_class : DfOk P w K mg base (L2.CX P w) 3 "check_class" ["runtime", "name"] (spCheck K CK CR NC)) (D_below : DfOk P w K mg base CX0 2 "below" ["runtime", "one", "other"] (spBelow K CK CR)) : FnOk P w K mg base CX0 4 f fd ["runtime", "one", "other"] (spIsBelow K CK CR) := by
  refine F.ok sc_is_below (fun vs H Q E h => ?_) (fun cdv A outer s H vs Q E hr h => ?_)
  · obtain ⟨r, kd, tl, T, n, x, y, l, rfl, _⟩ := h
    rfl
  · refine ⟨_, PSs.nox (pss_cons (ps_expr (pe_callD D_check_class hr (pa_cons (pv 0) (pa_cons (pv 1) pa_nil))))
      (pss_cons (ps_expr (pe_callD D_check_class hr (pa_cons (pv 0) (pa_cons (pv 2) pa_nil))))
      (pss_one (ps_ret (pe_callD D_below hr (pa_cons (pv 0) (pa_cons (pv 1) (pa_cons (pv 2) pa_nil)))))))), ?_⟩
    obtain ⟨r, kd, tl, T, n, x, y, l, rfl, R, hx, hy, lx, ly, ln, hz, k⟩ := h
    rw [show L2.start ["runtime", "one", "other"] [V.ref r, V.str x, V.str y] = ([some (V.ref r), some (V.str x), some (V.str y)] : List (Option V)) from rfl]
    walk_at "go"
    refine ⟨r, kd, tl, T, n, _, _, rfl, R, .str lx, fun _ H1 e1 => ?_, fun z => by rw [hx] at z; cases z⟩
    walk_at "go"
    refine ⟨r, kd, tl, T, n, _, _, rfl, R.ext e1, .str ly, fun _ H2 e2 => ?_, fun z => by rw [hy] at z; cases z⟩
    walk_at "go"
    exact ⟨r, kd, tl, T, n, x, y, l, rfl, (R.ext e1).ext e2, ln, hz, fun H' e3 => k H' ((e1.trans e2).trans e3)⟩
end
end K03


set_option Elab.async false
set_option linter.all false
set_option maxRecDepth 100000
set_option maxHeartbeats 4000000
namespace K03
open PySem L2 Wc
local macro_rules | `(tactic| walk_at "lk") => `(tactic| first | with_reducible exact Look.here | (with_reducible apply Look.there; walk_at "lk"))
local macro_rules | `(tactic| walk_at "ul") => `(tactic| first | with_reducible exact UpL.here | (with_reducible apply UpL.there; walk_at "ul"))
local macro_rules | `(tactic| walk_at "ga") => `(tactic| first | exact GetAt.here | (apply GetAt.there; walk_at "ga"))
local macro_rules | `(tactic| walk_at "sa") => `(tactic| first | exact SetAt.here | (apply SetAt.there; walk_at "sa"))
local macro_rules | `(tactic| walk_at "hp") => `(tactic| first | assumption | (refine' KH.find ?k ?h; (case k => assumption); (case h => walk_at "lk")))
local macro_rules | `(tactic| walk_at "sql") => `(tactic| first | assumption | (refine' SqL.of ?h; (case h => walk_at "hp")) | (refine' Fr.sql (KH.fr ?k) ?n ?h; (case k => assumption); (case h => assumption); (case n => (simp; done))))
local macro_rules | `(tactic| walk_at "sqt") => `(tactic| first | assumption | (refine' SqT.of ?h; (case h => walk_at "hp")))
local macro_rules | `(tactic| walk_at "side") => `(tactic| first | exact (show (0 : Int) < _ by decide) | exact (show (0 : Int) < _ by omega) | exact ⟨by decide, by decide, by decide⟩ | exact ⟨by decide, by decide, by omega⟩ | exact ⟨by decide, by decide⟩ | exact ⟨by omega, by omega⟩ | exact Or.inl ⟨by omega, by omega⟩ | exact Or.inr ⟨by omega, by omega⟩)
local macro_rules | `(tactic| walk_at "siz") => `(tactic| first | (refine sz_of ?_; first | decide | omega | (simp; done) | (simp; omega)) | (refine sz_lt ?_; first | decide | omega | (simp; done) | (simp; omega)))
local macro_rules | `(tactic| walk_at "own") => `(tactic| first | (exact Or.inr (by assumption)) | (refine Or.inl ?_; simp; done))
local macro_rules | `(tactic| walk_at "al") => `(tactic| (refine' AllocO.mk ?k ?_; (case k => assumption); intro _ _ _ _))
local macro_rules | `(tactic| walk_at "up") => `(tactic| (refine' UpdO.mk ?k ?h ?m ?_; (case k => assumption); (case h => walk_at "ul"); (case m => walk_at "own"); intro _ _))
local macro_rules | `(tactic| walk_at "st") => `(tactic| first
  | ((with_reducible refine' r_var ?h ?_); (case h => walk_at "ga"))
  | (with_reducible refine' r_seq ?_) | (with_reducible refine' r_next ?_) | (with_reducible refine' r_asg ?_) | (with_reducible refine' r_drop ?_) | (with_reducible refine' r_ret ?_) | (with_reducible refine' r_retN ?_)
  | (with_reducible refine' r_ifs ?_) | (with_reducible refine' r_cont ?_) | (with_reducible refine' r_break ?_) | (with_reducible refine' r_c ?_) | (with_reducible refine' r_op ?_) | (with_reducible refine' r_un ?_)
  | (with_reducible refine' r_test ?_) | (with_reducible refine' r_tB ?_) | (with_reducible refine' r_not ?_) | (with_reducible refine' r_and ?_) | (with_reducible refine' r_or ?_) | (with_reducible refine' r_notV ?_)
  | (with_reducible refine' r_andV ?_) | (with_reducible refine' r_orV ?_) | (with_reducible refine' r_ifE ?_) | (with_reducible refine' r_bl ?_) | (with_reducible refine' r_nil ?_) | (with_reducible refine' r_cons ?_)
  | (with_reducible refine' r_tup ?_) | (with_reducible refine' r_lst ?_) | (with_reducible refine' r_cb ?_) | (with_reducible refine' r_call ?_) | ((with_reducible refine' r_name ?h ?_); (case h => walk_at "sa")) | (with_reducible refine' r_gnil ?_)
  | (with_reducible refine' r_gcons ?_) | (with_reducible refine' r_gsub ?_) | (with_reducible refine' r_par ?_) | (with_reducible refine' r_par2 ?_) | (with_reducible refine' r_I0 ?_) | (with_reducible refine' r_U ?_)
  | ((with_reducible refine' r_eq ?h ?_); (case h => rfl)) | ((with_reducible refine' r_ne ?h ?_); (case h => rfl))
  | ((with_reducible refine' r_ixL ?h ?a ?_); (case h => walk_at "sql"); (case a => rfl))
  | ((with_reducible refine' r_ixT ?h ?a ?_); (case h => walk_at "sqt"); (case a => rfl))
  | ((with_reducible refine' r_setL ?h ?a ?_); (case h => walk_at "hp"); (case a => rfl))
  | ((with_reducible refine' r_I ?c ?_); (case c => walk_at "side"))
  | (with_reducible refine' r_sl ?_) | (with_reducible refine' r_part ?_) | (with_reducible refine' r_nopart ?_) | (with_reducible refine' r_ii ?_)
  | ((with_reducible refine' r_slL ?h ?_); (case h => walk_at "sql"))
  | (with_reducible refine' r_bm ?_) | (with_reducible refine' r_bm0 ?_) | (with_reducible refine' r_int1 ?_) | (with_reducible refine' r_int1b ?_)
  | ((with_reducible refine' r_aug ?h ?_); (case h => walk_at "ga"))
  | ((with_reducible refine' r_cat ?a ?b ?z ?_); (case a => walk_at "hp"); (case b => walk_at "hp"); (case z => walk_at "siz"))
  | ((with_reducible refine' r_append ?a ?z ?_); (case a => walk_at "hp"); (case z => walk_at "siz"))
  | ((with_reducible refine' And.intro ?z ?_); (case z => first | walk_at "siz" | exact Or.inl ⟨rfl, _, by walk_at "sql"⟩))
  | ((with_reducible refine' r_gtup ?h ?l ?_); (case h => walk_at "sqt"); (case l => rfl))
  | (with_reducible refine' r_forL ?_) | (with_reducible refine' r_forE ?_) | (with_reducible refine' r_forR ?_) | ((with_reducible refine' r_forL2 ?h ?_); (case h => walk_at "sql")) | ((with_reducible refine' r_forE2 ?h ?_); (case h => walk_at "sql"))
  | (with_reducible refine' r_lcR ?_) | ((with_reducible refine' r_iteT ?h ?_); (case h => rfl)) | ((with_reducible refine' r_iteF ?h ?_); (case h => rfl))
  | (with_reducible refine' r_dnew ?_) | (with_reducible refine' r_vei ?_) | (with_reducible refine' r_ost ?_) | (with_reducible refine' r_mkV ?_) | (with_reducible refine' r_mkX ?_) | (with_reducible refine' r_xfld ?_)
  | ((with_reducible refine' MkG.mk ?o ?n ?k ?_); (case o => exact ErrOk.o (by assumption)); (case n => exact ErrOk.no (by assumption)); (case k => assumption); intro _ _ _ _)
  | ((with_reducible refine' AllocX.mk ?k ?_); (case k => assumption); intro _ _ _ _)
  | (with_reducible refine' r_chain ?_) | (with_reducible refine' r_lcS ?_) | (with_reducible refine' r_lcS2 ?_) | (with_reducible refine' r_lcL ?_) | (with_reducible refine' r_lcT ?_) | (with_reducible refine' r_lcI ?_) | (with_reducible refine' r_yes ?_)
  | (with_reducible refine' r_fld ?_) | (with_reducible refine' r_sfld ?_) | (with_reducible refine' r_meth ?_) | (with_reducible refine' r_make ?_) | (with_reducible refine' r_dget ?_) | (with_reducible refine' r_din ?_) | (with_reducible refine' r_dput ?_)
  | ((with_reducible refine' r_disp ?k ?_); (case k => assumption); intro _ _ _ _) | (with_reducible refine' r_pnil ?_) | (with_reducible refine' r_pcons ?_)
  | (walk_at "al") | (walk_at "up"))
local macro_rules | `(tactic| walk_at "go") => `(tactic| repeat walk_at "st")

abbrev Vw := V × Option (List V)
def okI (T : List Cl) (names : List V) : Option (List V) → Bool
  | some [a, b] => nameV a && (!inV a names && clsV T b)
  | _ => false
def fstV : Option (List V) → V
  | some (a :: _) => a
  | _ => .non
/-- the first item that is no field -/
def scan (T : List Cl) : List V → List Vw → Option V
  | _, [] => none
  | names, (x, tp) :: r => if okI T names tp = true then scan T (names ++ [fstV tp]) r else some x
/-- what is seen of an item -/
structure ItemAt (K : PySem.W.Frag) (H : Hp) (q : Vw) : Prop where
  th : Th K H q.1 q.2
  parts : ∀ ys, q.2 = some ys → ys.length ≤ 1000 ∧ ∀ y, y ∈ ys → ∃ tq, Th K H y tq
/-- a field: its name -/
def FNm (H : Hp) (x : V) (a : Str) : Prop := ∃ t b, x = .ref t ∧ H t = some (.tup [.str a, .str b]) ∧ PyData.strOk a = true ∧ PyData.strOk b = true
theorem th_ext {K : PySem.W.Frag} {H H' : Hp} {x : V} {tp : Option (List V)} (t : Th K H x tp) (e : Wc.Ext H H') : Th K H' x tp := by
  obtain ⟨⟨ty, h1, h2, h3⟩, h4, h5, h6⟩ := t
  refine ⟨⟨ty, ?_, h2, h3⟩, fun xs z => ?_, h5, h6⟩
  · cases h1 with
    | base h =>
      refine .base ?_
      cases h with
      | non => exact .non
      | bl b => exact .bl b
      | int i => exact .int i
      | str s => exact .str s
      | flt s => exact .flt s
      | lst h => exact .lst (e _ _ h)
      | frz h => exact .frz (e _ _ h)
      | tup h => exact .tup (e _ _ h)
      | dK h => exact .dK (e _ _ h)
      | dT h => exact .dT (e _ _ h)
      | ins h c a b d g => exact .ins (e _ _ h) c a b d g
    | byt b => exact .byt b
    | set h => exact .set (e _ _ h)
    | kList h c => exact .kList h c
    | kTuple h c => exact .kTuple h c
    | kDict h c => exact .kDict h c
    | fTuple h => exact .fTuple (e _ _ h)
    | fDict h => exact .fDict (e _ _ h)
  · obtain ⟨a, h6, h7⟩ := h4 xs z
    exact ⟨a, h6, h7.ext e⟩
/-- a for over a tuple -/
def ForT (K : PySem.W.Frag) (a : Addr) (g : TG) (tb : TS) (D : Ends) (σ : L2.St) (H : Hp) : Prop := ∃ W : Nat → Nat → L2.St → Hp → Prop, (∃ m, W 0 m σ H) ∧ ∀ i m σ H, W i m σ H →
  ((Itt K a).stop i H ∧ D.nx σ H) ∨ ((Itt K a).go i H ∧ ∃ N : L2.St → Hp → Prop, (∀ σ' H', N σ' H' → ∃ m', m' < m ∧ W (i + 1) m' σ' H') ∧ ∀ x H', (Itt K a).yld i H x H' → g x σ H' fun σ2 H2 => tb { D with nx := N, ct := N, bk := D.nx } σ2 H2)
theorem ForT.mk {K : PySem.W.Frag} {a : Addr} {xs : List V} {g : TG} {tb : TS} {D : Ends} {σ : L2.St} {H : Hp} (Pv : Nat → L2.St → Hp → Prop) (h0 : Pv 0 σ H) (hl : ∀ i σ H, i ≤ xs.length → Pv i σ H → SqT K H a xs)
    (hs : ∀ i x σ H, xs[i]? = some x → Pv i σ H → g x σ H fun σ2 H2 => tb { D with nx := Pv (i + 1), ct := Pv (i + 1), bk := D.nx } σ2 H2) (hd : ∀ σ H, Pv xs.length σ H → D.nx σ H) : ForT K a g tb D σ H := for_tup Pv h0 hl hs hd
theorem paired_get1 {α β : Type} {F : α → β → Prop} : ∀ {xs : List α} {ys : List β} {i : Nat} {x : α}, PySem.Paired F xs ys → xs[i]? = some x → ∃ y, ys[i]? = some y ∧ F x y
  | _, _, _, _, .nil, e => by simp at e
  | _, _, 0, _, .cons h _, e => by
    simp at e
    subst e
    exact ⟨_, rfl, h⟩
  | _, _, i + 1, y, .cons _ t, e => by
    obtain ⟨x, h1, h2⟩ := paired_get1 (i := i) (x := y) t (by simpa using e)
    exact ⟨x, by simpa using h1, h2⟩
theorem range_mapG {α β : Type} (l : List α) (g : α → β) : (List.range l.length).filterMap (fun i => l[i]?.map g) = l.map g := by
  have e := range_fm l (fun c => some (g c))
  rw [List.filterMap_eq_map'] at e
  rw [← e]
  simp [Option.map_eq_bind]
  rfl
section
variable {P : Program} {w : World} {K : PySem.W.Frag} {mg : Str → Option Value} {base : Heap} {f : Addr} {fd : FuncData} {CK CR NC NF TK : Addr}
theorem r_forT {D : Ends} {σ : L2.St} {H : Hp} {g : TG} {tb : TS} {tl : TE} (h : tl σ H fun x H1 => ∃ a, x = .ref a ∧ (∃ xs, SqT K H1 a xs) ∧ ForT K a g tb D σ H1) : tFor (iTup K tl) g tb D σ H := h
def spOwn (K : PySem.W.Frag) (CK CR NF : Addr) : Sp := fun vs H Q E => ∃ r kd tl T n p c as fl tf, vs = [.ref r, .str p, fl] ∧ RtAt K CK CR H r kd tl T n ∧ findC T p = some c ∧ Paired (FNm H) c.all as ∧ as.length ≤ 1000 ∧ Th K H fl tf ∧
  (∀ xs, tf = some xs → xs.length ≤ 3 → ∃ vw : List Vw, vw.map (·.1) = xs ∧ (∀ q, q ∈ vw → ItemAt K H q) ∧ (∀ x, scan T (as.map V.str) vw = some x → ExTo E H NF "field" x) ∧
    (scan T (as.map V.str) vw = none → ∀ a H', Wc.Ext H H' → SqM K H' a (c.all ++ xs) → Q (.ref a) H')) ∧
  ((tf = none ∨ ∃ xs, tf = some xs ∧ 3 < xs.length) → ExTo E H NF "field" fl)
abbrev NN_own_fields : List Str := ["runtime", "parent", "fields", "names", "item", "name", "bound"]
theorem ok_own_fields (F : FnP K "own_fields" s_own_fields f fd) (T : Bt mg) (C : Cs K CK CR) (E_NoField : ErrOk P w K mg base "NoField" NF "field") (D_is_name : DfOk P w K mg base CX0 1 "is_name" ["thing"] (spIsName K))
    (D_is_class : DfOk P w K mg base CX0 2 "is_class" ["runtime", "name"] (spIsClass K CK CR)) :
    FnOk P w K mg base (L2.CX P w) 3 f fd ["runtime", "parent", "fields"] (spOwn K CK CR NF) := by
  obtain ⟨tM, hM⟩ := T.MOST
  refine F.ok sc_own_fields (fun vs H Q E h => ?_) (fun cdv A outer s H vs Q E hr h => ?_)
  · obtain ⟨r, kd, tl, T, n, p, c, as, fl, tf, rfl, _⟩ := h
    rfl
  · refine ⟨_, (pss_cons (ps_if (PW.pt (pw_or (pt_not (pt_val (pe_callB call_isi (by rfl) T.f_isinstance PyProof.Rows.boot_isinstance (pa_cons (pv 2) (pa_cons (pe_bltn (v := .ty "tuple") (by rfl) T.f_tuple PyProof.Rows.boot_tuple rfl) pa_nil))))) (pw_or1 (pt_cmpR op_gt (pe_callB call_len_seq (by rfl) T.f_len PySem.boot_len (pa_cons (pv 2) pa_nil)) (pe_glob (v := .int 3) (by rfl) hM ⟨_, rfl⟩) (nomark _))))) (pss_one (ps_raiseE rfl (takes_of rfl rfl rfl rfl) E_NoField hr (pv 2))) pss_nil)
      (pss_cons (ps_setLc (i := 3) (own := [("name", 5), ("bound", 6)]) (g := (gTup K 2 (gCons (gName 5) (gCons (gName 6) gNil)))) rfl sc_own_fields.nd rfl rfl (sw_true rfl rfl rfl (by decide +kernel)) (pi_tup (pe_fld (pe_dget (un1 hr) (pe_fld (pv 0) rfl) (pv 1) (fun _ _ => rfl)) rfl)) (blkOk_by (N := NN_own_fields) (sc := defScope s_own_fields) (by decide +kernel)) (fun _ _ _ _ _ => (pg_tup rfl (pgs_cons (pg_name (i := 5) sc_own_fields.nd rfl (by first | exact Or.inl rfl | exact Or.inr rfl)) (pgs_cons (pg_name (i := 6) sc_own_fields.nd rfl (by first | exact Or.inl rfl | exact Or.inr rfl)) pgs_nil)))) (fun _ _ _ _ _ => pts_nil) (fun _ _ _ _ _ => (pv 5)))
      (pss_cons (ps_for (passes_of rfl) rfl (pi_tup (pv 2)) (pg_name (i := 4) sc_own_fields.nd rfl (by first | exact Or.inl rfl | exact Or.inr rfl)) (pss_cons (ps_if (PW.pt (pw_or (pt_not (pt_val (pe_callB call_isi (by rfl) T.f_isinstance PyProof.Rows.boot_isinstance (pa_cons (pv 4) (pa_cons (pe_bltn (v := .ty "tuple") (by rfl) T.f_tuple PyProof.Rows.boot_tuple rfl) pa_nil))))) (pw_or (pt_cmpR op_ne (pe_callB call_len_seq (by rfl) T.f_len PySem.boot_len (pa_cons (pv 4) pa_nil)) pe_int (nomark _)) (pw_or (pt_not (pt_val (pe_callD D_is_name hr (pa_cons (pe_ix ix_tup (pv 4) pe_int (fun _ _ => rfl)) pa_nil)))) (pw_or1 (pt_cmpR op_in_seq (pe_ix ix_tup (pv 4) pe_int (fun _ _ => rfl)) (pv 3) (by rfl))))))) (pss_one (ps_raiseE rfl (takes_of rfl rfl rfl rfl) E_NoField hr (pv 4))) pss_nil)
      (pss_cons (ps_if (pt_not (pt_val (pe_callD D_is_class hr (pa_cons (pv 0) (pa_cons (pe_ix ix_tup (pv 4) pe_int (fun _ _ => rfl)) pa_nil))))) (pss_one (ps_raiseE rfl (takes_of rfl rfl rfl rfl) E_NoField hr (pv 4))) pss_nil)
      (pss_one (ps_expr (pe_bm PySem.F.plainAttrs_list PySem.F.slot_list_append PySem.F.type_list_append mt_append (pv 3) (pa_cons (pe_ix ix_tup (pv 4) pe_int (fun _ _ => rfl)) pa_nil)))))))
      (pss_one (ps_ret (pe_op op_catA (pe_fld (pe_dget (un1 hr) (pe_fld (pv 0) rfl) (pv 1) (fun _ _ => rfl)) rfl) (pv 2))))))), ?_⟩
    obtain ⟨r, kd, tl, T, n, p, c, as, fl, tf, rfl, R, hc, hp, hz, th, k1, k2⟩ := h
    rw [show L2.start ["runtime", "parent", "fields", "names", "item", "name", "bound"] [V.ref r, V.str p, fl] = ([some (V.ref r), some (V.str p), some (fl), none, none, none, none] : List (Option V)) from rfl]
    have kh := KH.start (H := H)
    obtain ⟨⟨dx, fs, h1, _⟩, ⟨kvs, h2, bn⟩, _⟩ := id R
    obtain ⟨v, hv, q, dx2, ft, rfl, hq, hft⟩ := bn.some hc
    obtain ⟨ty, t1, t2, t3⟩ := th.ty
    walk_at "go"
    refine r_isi (.ty _) t1 t3 ?_
    walk_at "go"
    cases tf with
    | none =>
      walk_at "go"
      exact RsG.mk E_NoField.o E_NoField.no (k2 (.inl rfl))
    | some xs =>
      obtain ⟨a, rfl, ha⟩ := th.tup xs rfl
      walk_at "go"
      refine ⟨a, xs, rfl, .inr ha.t, ?_⟩
      walk_at "go"
      by_cases hl : 3 < xs.length
      · rw [show decide ((xs.length : Int) > 3) = true from decide_eq_true (by omega)]
        walk_at "go"
        exact RsG.mk E_NoField.o E_NoField.no (k2 (.inr ⟨xs, rfl, hl⟩))
      · rw [show decide ((xs.length : Int) > 3) = false from decide_eq_false (by omega)]
        obtain ⟨vw, hvw, hit, hbad, hgood⟩ := k1 xs rfl (by omega)
        walk_at "go"
        refine FldAt.mk h1 C.r C.r_kinds rfl ?_
        walk_at "go"
        refine dget_mk h2 hv ?_
        refine FldAt.mk hq C.k C.k_fields rfl ?_
        have hla : c.all.length = as.length := Paired.length hp
        refine ⟨ft, rfl, ⟨_, hft.t⟩, ?_⟩
        refine lcJ (walk_tup (xs := c.all)) (fun i => as[i]?.map V.str) (by omega) (fun _ e => (hft.ext e).t) ?_ ?_
        · rintro i x H1 H2 R' N hi e1 ⟨rfl, hx⟩ hR hN
          obtain ⟨a1, ha1, t, b, rfl, ht, _⟩ := paired_get1 hp hx
          have ht1 := e1 _ _ ht
          walk_at "go"
          refine ⟨rfl, ?_⟩
          walk_at "go"
          exact hR _ _ (by rw [ha1] <;> rfl) (Wc.Ext.refl _)
        · intro q2 H1 nq e1 hl1
          rw [hla, range_mapG] at hl1
          have kq := (KH.start (H := H)).consN e1 nq hl1
          walk_at "go"
          refine r_forT ?_
          walk_at "go"
          refine ⟨a, rfl, ⟨xs, (ha.ext e1).t⟩, ?_⟩
          refine ForT.mk (xs := xs) (fun i σ H2 => (∃ v4 v5 v6 : Option V, σ = [some (.ref r), some (.str p), some (.ref a), some (.ref q2), v4, v5, v6]) ∧ ∃ nm, KH H [] [(q2, .lst nm)] H2 ∧ scan T (as.map V.str) vw = scan T nm (vw.drop i) ∧ nm.all flatV = true ∧ nm.length ≤ as.length + i)
            ⟨⟨_, _, _, rfl⟩, _, kq, rfl, by rw [List.all_map]; exact List.all_eq_true.mpr fun _ _ => rfl, by rw [List.length_map]; exact Nat.le_refl _⟩ (fun i σ H2 _ z => by
              obtain ⟨_, nm, kz, _⟩ := z
              exact (ha.ext kz.extE).t) ?_ ?_
          · rintro i x σ H2 hx ⟨⟨v4, v5, v6, rfl⟩, nm, kn, hs, hf, hn⟩
            have hi : i < xs.length := (List.getElem?_eq_some_iff.mp hx).1
            obtain ⟨tp, hw⟩ : ∃ tp, vw[i]? = some (x, tp) := by
              rw [← hvw, List.getElem?_map] at hx
              obtain ⟨z, hz1, hz2⟩ := Option.map_eq_some_iff.mp hx
              exact ⟨z.2, by rw [hz1, ← hz2]⟩
            have hdr : vw.drop i = (x, tp) :: vw.drop (i + 1) := by
              obtain ⟨hlt, hg⟩ := List.getElem?_eq_some_iff.mp hw
              rw [List.drop_eq_getElem_cons hlt, hg]
            rw [hdr] at hs
            have e02 := kn.extE
            have bad : okI T nm tp = false → ExTo E H2 NF "field" x := fun z => (hbad x (by rw [hs]; show (if _ then _ else _) = _; rw [if_neg (by rw [z]; simp)])).ext e02
            have I := hit _ (List.mem_of_getElem? hw)
            have thx := th_ext I.th e02
            obtain ⟨ty, t1, t2, t3⟩ := thx.ty
            walk_at "go"
            refine r_isi (.ty _) t1 t3 ?_
            walk_at "go"
            cases tp with
            | none =>
              walk_at "go"
              exact RsG.mk E_NoField.o E_NoField.no (bad rfl)
            | some ys =>
              obtain ⟨ay, rfl, hay⟩ := thx.tup ys rfl
              walk_at "go"
              refine ⟨ay, ys, rfl, .inr (hay.t), ?_⟩
              walk_at "go"
              match ys, hay, I, bad, hs with
              | [], hay, I, bad, hs =>
                walk_at "go"
                exact RsG.mk E_NoField.o E_NoField.no (bad rfl)
              | [_], hay, I, bad, hs =>
                walk_at "go"
                exact RsG.mk E_NoField.o E_NoField.no (bad rfl)
              | (_ :: _ :: y3 :: ys), hay, I, bad, hs =>
                rw [show decide (V.int (((_ :: _ :: y3 :: ys : List V).length : Nat) : Int) = V.int 2) = false from decide_eq_false (fun z => by have z := V.int.inj z; simp at z; omega)]
                walk_at "go"
                exact RsG.mk E_NoField.o E_NoField.no (bad rfl)
              | [y0, y1], hay, I, bad, hs =>
                have hayt := hay.t
                walk_at "go"
                obtain ⟨tq0, th0⟩ := (I.parts _ rfl).2 y0 (by simp)
                obtain ⟨tq1, th1⟩ := (I.parts _ rfl).2 y1 (by simp)
                refine ⟨y0, tq0, rfl, th_ext th0 e02, fun H3 e3 => ?_⟩
                have k3 := kn.ext e3
                have hay3 := hay.ext e3
                have hay3t := hay3.t
                walk_at "go"
                cases h0 : nameV y0 with
                | false =>
                  walk_at "go"
                  exact RsG.mk E_NoField.o E_NoField.no ((bad (by show (_ && _) = false; rw [h0]; rfl)).ext e3)
                | true =>
                  walk_at "go"
                  refine ⟨q2, nm, rfl, .inl (SqL.of (k3.find .here)), by (cases y0 <;> first | rfl | cases h0), hf, ?_⟩
                  walk_at "go"
                  cases h3 : inV y0 nm with
                  | true =>
                    walk_at "go"
                    exact RsG.mk E_NoField.o E_NoField.no ((bad (by show (_ && (!inV y0 nm && _)) = false; rw [h3]; simp)).ext e3)
                  | false =>
                    walk_at "go"
                    refine ⟨r, kd, tl, T, n, y1, tq1, rfl, R.ext (e02.trans e3), th_ext th1 (e02.trans e3), fun H4 e4 => ?_⟩
                    have k4 := k3.ext e4
                    have hay4 := hay3.ext e4
                    have hay4t := hay4.t
                    walk_at "go"
                    cases h4 : clsV T y1 with
                    | false =>
                      walk_at "go"
                      exact RsG.mk E_NoField.o E_NoField.no ((bad (by show (_ && (_ && clsV T y1)) = false; rw [h4]; simp)).ext (e3.trans e4))
                    | true =>
                      walk_at "go"
                      rename_i H5 k5
                      refine ⟨⟨_, _, _, rfl⟩, _, k5, ?_, ?_, ?_⟩
                      · rw [hs]
                        show (if okI T nm (some [y0, y1]) = true then _ else _) = _
                        rw [if_pos (by show (nameV y0 && (!inV y0 nm && clsV T y1)) = true; rw [h0, h3, h4]; rfl)]
                        rfl
                      · rw [List.all_append, hf]
                        cases y0 <;> first | rfl | cases h0
                      · rw [List.length_append]
                        show nm.length + 1 ≤ _
                        omega
          · rintro σ H2 ⟨⟨v4, v5, v6, rfl⟩, nm, kn, hs, hf, hn⟩
            have hvl : vw.length = xs.length := by rw [← hvw, List.length_map]
            rw [← hvl, List.drop_length] at hs
            have good := hgood hs
            have e02 := kn.extE
            walk_at "go"
            refine FldAt.mk (e02 _ _ h1) C.r C.r_kinds rfl ?_
            walk_at "go"
            refine dget_mk (rd_ext h2 e02) hv ?_
            refine FldAt.mk (e02 _ _ hq) C.k C.k_fields rfl ?_
            walk_at "go"
            refine ⟨ft, a, c.all, xs, rfl, rfl, (hft.ext e02).t, (ha.ext e02).t, sz_of (by omega), fun z => ?_, fun z1 z2 => ?_, fun z1 z2 p' hp' => ?_⟩
            · exact good a H2 e02 (by rw [z]; exact ha.ext e02)
            · exact good ft H2 e02 (by rw [z2, List.append_nil]; exact hft.ext e02)
            · exact good p' _ (e02.trans (.new hp')) (.inl upd_same)
/-- add_class(runtime, name, parent, fields=fields): what comes, in this order -/
def spAdd (K : PySem.W.Frag) (CK CR NC TK NF : Addr) : Sp := fun vs H Q E => ∃ r kd tl T n nm tn pr tp fl tf, vs = [.ref r, nm, pr, fl] ∧ RtW K CK CR H r kd tl T n ∧ n < 50000 ∧ T.length < 50000 ∧ Th K H nm tn ∧ Th K H pr tp ∧ Th K H fl tf ∧
  (nameV nm = false → ExTo E H NC "name" nm) ∧
  (∀ z, nm = .str z → nameS z = true → ((findC T z).isSome = true → ExTo E H TK "name" nm) ∧
    (findC T z = none → (clsV T pr = false → ExTo E H NC "name" pr) ∧
      (clsV T pr = true → ∀ p, pr = .str p → (p = "int" → ExTo E H NC "name" pr) ∧
        (p ≠ "int" → ∀ c, findC T p = some c → ∃ as, Paired (FNm H) c.all as ∧ as.length ≤ 1000 ∧ ((tf = none ∨ ∃ xs, tf = some xs ∧ 3 < xs.length) → ExTo E H NF "field" fl) ∧
          (∀ xs, tf = some xs → xs.length ≤ 3 → ∃ vw : List Vw, vw.map (·.1) = xs ∧ (∀ q, q ∈ vw → ItemAt K H q) ∧ (∀ x, scan T (as.map V.str) vw = some x → ExTo E H NF "field" x) ∧
            (scan T (as.map V.str) vw = none → ∀ ts tv H', H tl = some (.lst ts) → ts[n]? = some tv → Fr [kd, tl] H H' → RtW K CK CR H' r kd tl (T ++ [⟨z, some p, xs, c.all ++ xs, n + 1⟩]) (n + 1) → H' tl = some (.lst (ts ++ [tv])) → Q (.int ((n + 1 : Nat) : Int)) H'))))))
theorem ItemAt.ext {K : PySem.W.Frag} {H H' : Hp} {q : Vw} (I : ItemAt K H q) (e : Wc.Ext H H') : ItemAt K H' q := ⟨th_ext I.th e, fun ys z => ⟨(I.parts ys z).1, fun y hy => by
  obtain ⟨tq, t⟩ := (I.parts ys z).2 y hy
  exact ⟨tq, th_ext t e⟩⟩⟩
theorem FNm.ext {H H' : Hp} {x : V} {a : Str} (h : FNm H x a) (e : Wc.Ext H H') : FNm H' x a := by
  obtain ⟨t, b, h1, h2, h3⟩ := h
  exact ⟨t, b, h1, e _ _ h2, h3⟩
theorem ok_add_class (F : FunD K "add_class" "add_class" (defArgs s_add_class) (defBody s_add_class) (defScope s_add_class) [] [] f fd) (T : Bt mg) (C : Cs K CK CR) (E_NoClass : ErrOk P w K mg base "NoClass" NC "name") (E_Taken : ErrOk P w K mg base "Taken" TK "name")
    (D_is_name : DfOk P w K mg base CX0 1 "is_name" ["thing"] (spIsName K)) (D_check_class : DfOk P w K mg base (L2.CX P w) 3 "check_class" ["runtime", "name"] (spCheck K CK CR NC)) (D_own_fields : DfOk P w K mg base (L2.CX P w) 3 "own_fields" ["runtime", "parent", "fields"] (spOwn K CK CR NF))
    (M_newest : MtOk P w K mg base CX0 1 CR "newest" ["self"] (spNewest K CK CR)) (M_table : MtOk P w K mg base CX0 1 CR "table" ["self", "world"] (spTable K CK CR)) (M_add_world : MtOk P w K mg base CX0 2 CR "add_world" ["self", "table"] (spAddWorld K CK CR))
    (K_Kind : MkOk P w K mg base CX0 1 "Kind" CK ["self", "parent", "fields", "since"] (spKind CK)) :
    FnOk P w K mg base (L2.CX P w) 4 f fd ["runtime", "name", "parent", "fields"] (spAdd K CK CR NC TK NF) := by
  refine F.ok sc_add_class (fun vs H Q E h => ?_) (fun cdv A outer s H vs Q E hr h => ?_)
  · obtain ⟨r, kd, tl, T, n, nm, tn, pr, tp, fl, tf, rfl, _⟩ := h
    rfl
  · refine ⟨_, (pss_cons (ps_if (pt_not (pt_val (pe_callD D_is_name hr (pa_cons (pv 1) pa_nil)))) (pss_one (ps_raiseE rfl (takes_of rfl rfl rfl rfl) E_NoClass hr (pv 1))) pss_nil)
      (pss_cons (ps_if (pt_cmp (pc_din (un1 hr) (pv 1) (pe_fld (pv 0) rfl))) (pss_one (ps_raiseE rfl (takes_of rfl rfl rfl rfl) E_Taken hr (pv 1))) pss_nil)
      (pss_cons (ps_expr (pe_callDX (E := E) D_check_class hr (passes_call (takes_of rfl rfl rfl rfl) (fun _ _ _ _ z => z)) (pa_cons (pv 0) (pa_cons (pv 2) pa_nil))))
      (pss_cons (ps_if (pt_cmpR op_eq (pv 2) pe_str (nomark _)) (pss_one (ps_raiseE rfl (takes_of rfl rfl rfl rfl) E_NoClass hr (pv 2))) pss_nil)
      (pss_cons (ps_set (i := 4) sc_add_class.nd rfl (by first | exact Or.inl rfl | exact Or.inr rfl) (pe_callDX (E := E) D_own_fields hr (passes_call (takes_of rfl rfl rfl rfl) (fun _ _ _ _ z => z)) (pa_cons (pv 0) (pa_cons (pv 2) (pa_cons (pv 3) pa_nil)))))
      (pss_cons (ps_set (i := 5) sc_add_class.nd rfl (by first | exact Or.inl rfl | exact Or.inr rfl) (pe_methC M_add_world hr (pv 0) (pa_cons (pe_methC M_table hr (pv 0) (pa_cons (pe_methC0 M_newest hr (pv 0)) pa_nil)) pa_nil)))
      (pss_cons (ps_dput (un1 hr) (pe_fld (pv 0) rfl) (pv 1) (pe_makeC K_Kind hr (pa_cons (pv 2) (pa_cons (pv 4) (pa_cons (pv 5) pa_nil)))) rfl)
      (pss_one (ps_ret (pv 5)))))))))), ?_⟩
    obtain ⟨r, kd, tl, T, n, nm, tn, pr, tp, fl, tf, rfl, R, hn, hT, thn, thp, thf, k0, k1⟩ := h
    rw [show L2.start ["runtime", "name", "parent", "fields", "every", "world"] [V.ref r, nm, pr, fl] = ([some (V.ref r), some (nm), some (pr), some (fl), none, none] : List (Option V)) from rfl]
    have kh := KH.start (H := H)
    walk_at "go"
    refine ⟨nm, tn, rfl, thn, fun H1 e1 => ?_⟩
    walk_at "go"
    cases hnm : nameV nm with
    | false =>
      walk_at "go"
      exact RsG.mk E_NoClass.o E_NoClass.no ((k0 hnm).ext e1)
    | true =>
      obtain ⟨z, rfl, hz⟩ := thn.isS (by cases nm <;> first | rfl | cases hnm)
      obtain ⟨kA, kB⟩ := k1 z rfl hnm
      obtain ⟨⟨dx, fs, h1, hs1, hs2, hs3⟩, ⟨kvs, h2, bn⟩, _⟩ := id R.at_
      walk_at "go"
      refine FldAt.mk (e1 _ _ h1) C.r C.r_kinds rfl ?_
      refine din_mkR (rd_ext h2 e1) ?_
      rw [bn.isSome]
      walk_at "go"
      cases hf : findC T z with
      | some c0 =>
        walk_at "go"
        exact RsG.mk E_Taken.o E_Taken.no ((kA (by rw [hf] <;> rfl)).ext e1)
      | none =>
        obtain ⟨kC, kD⟩ := kB hf
        walk_at "go"
        refine ⟨r, kd, tl, T, n, pr, tp, rfl, R.at_.ext e1, th_ext thp e1, fun hc H2 e2 => ?_, fun hc => (kC hc).ext e1⟩
        obtain ⟨p, rfl⟩ : ∃ p, pr = .str p := by
          cases pr <;> first | exact ⟨_, rfl⟩ | cases hc
        obtain ⟨kE, kF⟩ := kD hc p rfl
        have e02 := e1.trans e2
        walk_at "go"
        by_cases hp : p = "int"
        · rw [show decide (V.str p = V.str "int") = true from decide_eq_true (by rw [hp])]
          walk_at "go"
          exact RsG.mk E_NoClass.o E_NoClass.no ((kE hp).ext e02)
        · rw [show decide (V.str p = V.str "int") = false from decide_eq_false (fun z => hp (V.str.inj z))]
          walk_at "go"
          obtain ⟨c, hcp⟩ : ∃ c, findC T p = some c := by
            cases q : findC T p with
            | some c => exact ⟨c, rfl⟩
            | none =>
              have hc : (nameS p && (findC T p).isSome) = true := hc
              rw [q] at hc
              simp at hc
          obtain ⟨as, ha, hal, kG, kH'⟩ := kF hp c hcp
          refine ⟨r, kd, tl, T, n, p, c, as, fl, tf, rfl, R.at_.ext e02, hcp, Paired.mapP ha fun _ _ z => z.ext e02, hal, th_ext thf e02, fun xs hx hxl => ?_, fun z => (kG z).ext e02⟩
          obtain ⟨vw, hv1, hv2, hv3, hv4⟩ := kH' xs hx hxl
          refine ⟨vw, hv1, fun q hq => (hv2 q hq).ext e02, fun x hx => (hv3 x hx).ext e02, fun hsc ev H3 e3 hev => ?_⟩
          have good := hv4 hsc
          have e03 := e02.trans e3
          have R3 := R.at_.ext e03
          walk_at "go"
          refine ⟨r, dx, _, rfl, e03 _ _ h1, hs3, ?_⟩
          walk_at "go"
          refine ⟨r, dx, _, rfl, e03 _ _ h1, hs2, ?_⟩
          walk_at "go"
          refine ⟨r, dx, _, rfl, e03 _ _ h1, hs1, ?_⟩
          walk_at "go"
          refine ⟨r, kd, tl, T, n, rfl, R3, ?_⟩
          walk_at "go"
          refine ⟨r, kd, tl, T, n, n, rfl, R3, Nat.le_refl _, fun ts3 tv hts3 htv3 => ?_⟩
          walk_at "go"
          refine ⟨r, kd, tl, T, n, tv, rfl, R3, hn, fun ts4 H4 hts4 f4 R4 hl4 => ?_⟩
          have k4 := KH.start (H := H4)
          walk_at "go"
          refine mkKind k4 fun x dx2 H5 nx k5 => ?_
          have e45 := k5.extE
          have R5 := R4.ext e45
          obtain ⟨⟨dx5, fs5, h5, _⟩, ⟨kvs5, hk5, bn5⟩, xs5, ht5, hl5⟩ := id R5
          obtain ⟨kvs0, hkd0⟩ := R.kd
          obtain ⟨xs3, ht3, _⟩ := R3.tl
          have nkt : kd ≠ tl := ne_of (e03 _ _ hkd0) ht3 (by intro z; cases z)
          have hkd5 : H5 kd = some (.dK kvs0) := e45 _ _ (f4 _ _ (by simpa using nkt) (e03 _ _ hkd0))
          obtain rfl : kvs5 = kvs0 := by
            rcases hk5 with hk5 | ⟨_, hk5⟩ <;> rw [hkd5] at hk5 <;> cases hk5
            rfl
          walk_at "go"
          refine FldAt.mk h5 C.r C.r_kinds rfl ?_
          walk_at "go"
          refine ⟨kd, _, rfl, DPut.k (k := .inr z) hkd5 (by have := bn5.length; exact sz_lt (by omega)), ?_⟩
          walk_at "go"
          have mo5 : Mo H5 (upd H5 kd (.dK (putK kvs5 (.inr z) (.ref x)))) := Mo.upd hkd5 rfl
          have mo3 : Mo H3 H4 := Mo.fr1 f4 ht3 rfl
          obtain ⟨ts0, hts0, _⟩ := id R.at_.tl
          have ex3 := e03 _ _ hts0
          obtain rfl : ts0 = ts3 := by
            rw [ex3] at hts3
            cases hts3
            rfl
          obtain rfl : ts0 = ts4 := by
            rw [ex3] at hts4
            cases hts4
            rfl
          refine good ts0 tv _ hts0 htv3 (fun a o ha0 h0 => ?_) ⟨⟨⟨dx5, fs5, mo5 _ _ rfl h5, by assumption⟩, ⟨_, .inl upd_same, (bn5.mono fun _ _ z => z.mo mo5).put hf ⟨x, dx2, ev, rfl, mo5 _ _ rfl (k5.find .here), (((hev.mo mo3).ext e45).mo mo5)⟩⟩, xs5, by rw [upd_ne (Ne.symm nkt)]; exact ht5, hl5⟩, _, upd_same⟩ (by rw [upd_ne (Ne.symm nkt)]; exact e45 _ _ hl4)
          have n1 : a ≠ kd := fun z => ha0 (by rw [z]; simp)
          have n2 : a ≠ tl := fun z => ha0 (by rw [z]; simp)
          rw [upd_ne n1]
          exact e45 _ _ (f4 _ _ (by simpa using n2) (e03 _ _ h0))
end
end K03


set_option Elab.async false
set_option linter.all false
set_option maxRecDepth 100000
set_option maxHeartbeats 4000000
namespace K03
open PySem L2 Wc
local macro_rules | `(tactic| walk_at "lk") => `(tactic| first | with_reducible exact Look.here | (with_reducible apply Look.there; walk_at "lk"))
local macro_rules | `(tactic| walk_at "ul") => `(tactic| first | with_reducible exact UpL.here | (with_reducible apply UpL.there; walk_at "ul"))
local macro_rules | `(tactic| walk_at "ga") => `(tactic| first | exact GetAt.here | (apply GetAt.there; walk_at "ga"))
local macro_rules | `(tactic| walk_at "sa") => `(tactic| first | exact SetAt.here | (apply SetAt.there; walk_at "sa"))
local macro_rules | `(tactic| walk_at "hp") => `(tactic| first | assumption | (refine' KH.find ?k ?h; (case k => assumption); (case h => walk_at "lk")))
local macro_rules | `(tactic| walk_at "sql") => `(tactic| first | assumption | (refine' SqL.of ?h; (case h => walk_at "hp")) | (refine' Fr.sql (KH.fr ?k) ?n ?h; (case k => assumption); (case h => assumption); (case n => (simp; done))))
local macro_rules | `(tactic| walk_at "sqt") => `(tactic| first | assumption | (refine' SqT.of ?h; (case h => walk_at "hp")))
local macro_rules | `(tactic| walk_at "side") => `(tactic| first | exact (show (0 : Int) < _ by decide) | exact (show (0 : Int) < _ by omega) | exact ⟨by decide, by decide, by decide⟩ | exact ⟨by decide, by decide, by omega⟩ | exact ⟨by decide, by decide⟩ | exact ⟨by omega, by omega⟩ | exact Or.inl ⟨by omega, by omega⟩ | exact Or.inr ⟨by omega, by omega⟩)
local macro_rules | `(tactic| walk_at "siz") => `(tactic| first | (refine sz_of ?_; first | decide | omega | (simp; done) | (simp; omega)) | (refine sz_lt ?_; first | decide | omega | (simp; done) | (simp; omega)))
local macro_rules | `(tactic| walk_at "own") => `(tactic| first | (exact Or.inr (by assumption)) | (refine Or.inl ?_; simp; done))
local macro_rules | `(tactic| walk_at "al") => `(tactic| (refine' AllocO.mk ?k ?_; (case k => assumption); intro _ _ _ _))
local macro_rules | `(tactic| walk_at "up") => `(tactic| (refine' UpdO.mk ?k ?h ?m ?_; (case k => assumption); (case h => walk_at "ul"); (case m => walk_at "own"); intro _ _))
local macro_rules | `(tactic| walk_at "st") => `(tactic| first
  | ((with_reducible refine' r_var ?h ?_); (case h => walk_at "ga"))
  | (with_reducible refine' r_seq ?_) | (with_reducible refine' r_next ?_) | (with_reducible refine' r_asg ?_) | (with_reducible refine' r_drop ?_) | (with_reducible refine' r_ret ?_) | (with_reducible refine' r_retN ?_)
  | (with_reducible refine' r_ifs ?_) | (with_reducible refine' r_cont ?_) | (with_reducible refine' r_break ?_) | (with_reducible refine' r_c ?_) | (with_reducible refine' r_op ?_) | (with_reducible refine' r_un ?_)
  | (with_reducible refine' r_test ?_) | (with_reducible refine' r_tB ?_) | (with_reducible refine' r_not ?_) | (with_reducible refine' r_and ?_) | (with_reducible refine' r_or ?_) | (with_reducible refine' r_notV ?_)
  | (with_reducible refine' r_andV ?_) | (with_reducible refine' r_orV ?_) | (with_reducible refine' r_ifE ?_) | (with_reducible refine' r_bl ?_) | (with_reducible refine' r_nil ?_) | (with_reducible refine' r_cons ?_)
  | (with_reducible refine' r_tup ?_) | (with_reducible refine' r_lst ?_) | (with_reducible refine' r_cb ?_) | (with_reducible refine' r_call ?_) | ((with_reducible refine' r_name ?h ?_); (case h => walk_at "sa")) | (with_reducible refine' r_gnil ?_)
  | (with_reducible refine' r_gcons ?_) | (with_reducible refine' r_gsub ?_) | (with_reducible refine' r_par ?_) | (with_reducible refine' r_par2 ?_) | (with_reducible refine' r_I0 ?_) | (with_reducible refine' r_U ?_)
  | ((with_reducible refine' r_eq ?h ?_); (case h => rfl)) | ((with_reducible refine' r_ne ?h ?_); (case h => rfl))
  | ((with_reducible refine' r_ixL ?h ?a ?_); (case h => walk_at "sql"); (case a => rfl))
  | ((with_reducible refine' r_ixT ?h ?a ?_); (case h => walk_at "sqt"); (case a => rfl))
  | ((with_reducible refine' r_setL ?h ?a ?_); (case h => walk_at "hp"); (case a => rfl))
  | ((with_reducible refine' r_I ?c ?_); (case c => walk_at "side"))
  | (with_reducible refine' r_sl ?_) | (with_reducible refine' r_part ?_) | (with_reducible refine' r_nopart ?_) | (with_reducible refine' r_ii ?_)
  | ((with_reducible refine' r_slL ?h ?_); (case h => walk_at "sql"))
  | (with_reducible refine' r_bm ?_) | (with_reducible refine' r_bm0 ?_) | (with_reducible refine' r_int1 ?_) | (with_reducible refine' r_int1b ?_)
  | ((with_reducible refine' r_aug ?h ?_); (case h => walk_at "ga"))
  | ((with_reducible refine' r_cat ?a ?b ?z ?_); (case a => walk_at "hp"); (case b => walk_at "hp"); (case z => walk_at "siz"))
  | ((with_reducible refine' r_append ?a ?z ?_); (case a => walk_at "hp"); (case z => walk_at "siz"))
  | ((with_reducible refine' And.intro ?z ?_); (case z => first | walk_at "siz" | exact Or.inl ⟨rfl, _, by walk_at "sql"⟩))
  | ((with_reducible refine' r_gtup ?h ?l ?_); (case h => walk_at "sqt"); (case l => rfl))
  | (with_reducible refine' r_forL ?_) | (with_reducible refine' r_forE ?_) | (with_reducible refine' r_forR ?_) | ((with_reducible refine' r_forL2 ?h ?_); (case h => walk_at "sql")) | ((with_reducible refine' r_forE2 ?h ?_); (case h => walk_at "sql"))
  | (with_reducible refine' r_lcR ?_) | ((with_reducible refine' r_iteT ?h ?_); (case h => rfl)) | ((with_reducible refine' r_iteF ?h ?_); (case h => rfl))
  | (with_reducible refine' r_dnew ?_) | (with_reducible refine' r_vei ?_) | (with_reducible refine' r_ost ?_) | (with_reducible refine' r_mkV ?_) | (with_reducible refine' r_mkX ?_) | (with_reducible refine' r_xfld ?_)
  | ((with_reducible refine' MkG.mk ?o ?n ?k ?_); (case o => exact ErrOk.o (by assumption)); (case n => exact ErrOk.no (by assumption)); (case k => assumption); intro _ _ _ _)
  | ((with_reducible refine' AllocX.mk ?k ?_); (case k => assumption); intro _ _ _ _)
  | (with_reducible refine' r_chain ?_) | (with_reducible refine' r_lcS ?_) | (with_reducible refine' r_lcS2 ?_) | (with_reducible refine' r_lcL ?_) | (with_reducible refine' r_lcT ?_) | (with_reducible refine' r_lcI ?_) | (with_reducible refine' r_yes ?_)
  | (with_reducible refine' r_fld ?_) | (with_reducible refine' r_sfld ?_) | (with_reducible refine' r_meth ?_) | (with_reducible refine' r_make ?_) | (with_reducible refine' r_dget ?_) | (with_reducible refine' r_din ?_) | (with_reducible refine' r_dput ?_)
  | ((with_reducible refine' r_disp ?k ?_); (case k => assumption); intro _ _ _ _) | (with_reducible refine' r_pnil ?_) | (with_reducible refine' r_pcons ?_)
  | (walk_at "al") | (walk_at "up"))
local macro_rules | `(tactic| walk_at "go") => `(tactic| repeat walk_at "st")

section
variable {P : Program} {w : World} {K : PySem.W.Frag} {mg : Str → Option Value} {base : Heap} {f : Addr} {fd : FuncData} {CK CR CT fe : Addr}
def spThing (CT : Addr) : Sp := fun vs H Q _ => ∃ a dx ov pv dv nv, vs = [.ref a, ov, pv, dv, nv] ∧ H a = some (.ins CT dx []) ∧ ∀ H', Fr [a] H H' → H' a = some (.ins CT dx (thFs ov pv dv nv)) → Q .non H'
theorem ok_thing (F : MeP K "__init__" "Thing.__init__" s_Thing_init f fd) (C : CsT K CT fe) : FnOk P w K mg base CX0 1 f fd ["self", "of", "parts", "deep", "number"] (spThing CT) := by
  refine F.ok sc_Thing_init (fun vs H Q E h => ?_) (fun cdv A outer s H vs Q E hr h => ?_)
  · obtain ⟨a, dx, ov, pv, dv, nv, rfl, _⟩ := h
    rfl
  · refine ⟨_, PSs.nox (pss_cons (ps_fld (pv 0) (pv 1) rfl)
      (pss_cons (ps_fld (pv 0) (pv 2) rfl)
      (pss_cons (ps_fld (pv 0) (pv 3) rfl)
      (pss_one (ps_fld (pv 0) (pv 4) rfl))))), ?_⟩
    obtain ⟨a, dx, ov, pv, dv, nv, rfl, ha, k⟩ := h
    rw [show L2.start ["self", "of", "parts", "deep", "number"] [V.ref a, ov, pv, dv, nv] = ([some (V.ref a), some (ov), some (pv), some (dv), some (nv)] : List (Option V)) from rfl]
    have kh := KH.start1 ha
    walk_at "go"
    refine SFldAt.mk kh (by walk_at "ul") C.c C.of (by decide) (.inl (by simp)) (kh.find .here) fun H1 k1 => ?_
    walk_at "go"
    refine SFldAt.mk k1 (by walk_at "ul") C.c C.parts (by show (1 : Nat) < 1000; decide) (.inl (by simp)) (k1.find .here) fun H2 k2 => ?_
    walk_at "go"
    refine SFldAt.mk k2 (by walk_at "ul") C.c C.deep (by show (2 : Nat) < 1000; decide) (.inl (by simp)) (k2.find .here) fun H3 k3 => ?_
    walk_at "go"
    refine SFldAt.mk k3 (by walk_at "ul") C.c C.number (by show (3 : Nat) < 1000; decide) (.inl (by simp)) (k3.find .here) fun H4 k4 => ?_
    walk_at "go"
    exact k H4 k4.fr (k4.find .here)
theorem mkThing {H0 H : Hp} {M : List Addr} {Lk : List (Addr × HO)} {pv tv cv nv : V} {Q : Addr → Hp → Prop} {E : XK} (k : KH H0 M Lk H) (q : ∀ x dx H', H0 x = none → H x = none → KH H0 M ((x, .ins CT dx (thFs pv tv cv nv)) :: (dx, .own x) :: Lk) H' → Q x H') :
    ∀ x dx, H x = none → H dx = none → dx ≠ x → spThing CT (.ref x :: ([pv, tv, cv, nv] ++ [])) (upd (upd H dx (.own x)) x (.ins CT dx [])) (fun v H2 => v = .non ∧ Q x H2) E := fun x dx hx hd ne => by
  have k1 := (k.new (o := .own x) hd).new (p := x) (o := .ins CT dx []) (by rw [upd_ne (Ne.symm ne)]; exact hx)
  refine ⟨x, dx, pv, tv, cv, nv, rfl, upd_same, fun H' fr h' => ⟨rfl, q x dx H' (k.fresh hx) hx (k1.up .here fr h' (.inr (k.fresh hx)))⟩⟩
/-- == of a thing -/
def spTEq (K : PySem.W.Frag) (CT : Addr) : Sp := fun vs H Q _ => ∃ a dx fs n y, vs = [.ref a, y] ∧ H a = some (.ins CT dx fs) ∧ fs.lookup ("number" : Str) = some (.int n) ∧
  ((∃ t, TyX K H y t ∧ PySem.W.kitOne K t (.ref CT) = some false ∧ Q (.bl false) H) ∨
   ∃ b dx' fs' m, y = .ref b ∧ H b = some (.ins CT dx' fs') ∧ fs'.lookup ("number" : Str) = some (.int m) ∧ Q (.bl (decide (n = m))) H)
theorem ok_teq (F : MeP K "__eq__" "Thing.__eq__" s_Thing_eq f fd) (T : Bt mg) (C : CsT K CT fe) (gT : mg "Thing" = some (.ref CT)) : FnOk P w K mg base CX0 1 f fd ["self", "other"] (spTEq K CT) := by
  refine F.ok sc_Thing_eq (fun vs H Q E h => ?_) (fun cdv A outer s H vs Q E hr h => ?_)
  · obtain ⟨a, dx, fs, n, y, rfl, _⟩ := h
    rfl
  · refine ⟨_, PSs.nox (pss_one (ps_ret (pe_and (pe_callB call_isi (by rfl) T.f_isinstance PyProof.Rows.boot_isinstance (pa_cons (pv 1) (pa_cons (pe_glob (v := .ref CT) (by rfl) gT rfl) pa_nil))) (pe_one (pe_cmpR op_eq (pe_fld (pv 0) rfl) (pe_fld (pv 1) rfl) (nomark _)))))), ?_⟩
    obtain ⟨a, dx, fs, n, y, rfl, ha, hn, k⟩ := h
    rw [show L2.start ["self", "other"] [V.ref a, y] = ([some (V.ref a), some (y)] : List (Option V)) from rfl]
    have kh := KH.start (H := H)
    walk_at "go"
    rcases k with ⟨t, h1, h2, k⟩ | ⟨b, dx', fs', m, rfl, hb, hm, k⟩
    · refine r_isi (.own CT) h1 h2 ?_
      walk_at "go"
      exact k
    · refine r_isi (.own CT) (C.o.ty C.c hb) OwnC.self ?_
      walk_at "go"
      refine FldAt.mk ha C.c C.number hn ?_
      walk_at "go"
      refine FldAt.mk hb C.c C.number hm ?_
      walk_at "go"
      have e : (decide (V.int n = V.int m)) = decide (n = m) := by
        by_cases q : n = m
        · rw [decide_eq_true q, decide_eq_true (by rw [q])]
        · rw [decide_eq_false q, decide_eq_false (fun z => q (V.int.inj z))]
      rw [← e] at k
      exact k
def spIsI (K : PySem.W.Frag) : Sp := fun vs H Q _ => ∃ x t b c, vs = [x] ∧ TyX K H x t ∧ PySem.W.kitOne K t (.type "int") = some b ∧ PySem.W.kitOne K t (.type "bool") = some c ∧ Q (.bl (b && !c)) H
theorem ok_isI (F : FnP K "is_integer" s_is_integer f fd) (T : Bt mg) : FnOk P w K mg base CX0 1 f fd ["thing"] (spIsI K) := by
  refine F.ok sc_is_integer (fun vs H Q E h => ?_) (fun cdv A outer s H vs Q E hr h => ?_)
  · obtain ⟨x, t, b, c, rfl, _⟩ := h
    rfl
  · refine ⟨_, PSs.nox (pss_one (ps_ret (pe_and (pe_callB call_isi (by rfl) T.f_isinstance PyProof.Rows.boot_isinstance (pa_cons (pv 0) (pa_cons (pe_bltn (v := .ty "int") (by rfl) T.f_int PyProof.Rows.boot_int rfl) pa_nil))) (pe_one (pe_not (pe_callB call_isi (by rfl) T.f_isinstance PyProof.Rows.boot_isinstance (pa_cons (pv 0) (pa_cons (pe_bltn (v := .ty "bool") (by rfl) T.f_bool PyProof.Rows.boot_bool rfl) pa_nil)))))))), ?_⟩
    obtain ⟨x, t, b, c, rfl, h1, h2, h3, k⟩ := h
    rw [show L2.start ["thing"] [x] = ([some (x)] : List (Option V)) from rfl]
    have kh := KH.start (H := H)
    walk_at "go"
    refine r_isi (.ty _) h1 h2 ?_
    walk_at "go"
    cases b with
    | false =>
      walk_at "go"
      exact k
    | true =>
      walk_at "go"
      refine r_isi (.ty _) h1 h3 ?_
      walk_at "go"
      exact k
def spIsV (K : PySem.W.Frag) (CT : Addr) : Sp := fun vs H Q _ => ∃ x t b c d, vs = [x] ∧ TyX K H x t ∧ PySem.W.kitOne K t (.type "int") = some b ∧ PySem.W.kitOne K t (.type "bool") = some c ∧ PySem.W.kitOne K t (.ref CT) = some d ∧ Q (.bl ((b && !c) || d)) H
theorem ok_is_value (F : FnP K "is_value" s_is_value f fd) (T : Bt mg) (gT : mg "Thing" = some (.ref CT)) (D_is_integer : DfOk P w K mg base CX0 1 "is_integer" ["thing"] (spIsI K)) : FnOk P w K mg base CX0 2 f fd ["thing"] (spIsV K CT) := by
  refine F.ok sc_is_value (fun vs H Q E h => ?_) (fun cdv A outer s H vs Q E hr h => ?_)
  · obtain ⟨x, t, b, c, d, rfl, _⟩ := h
    rfl
  · refine ⟨_, PSs.nox (pss_one (ps_ret (pe_or (pe_callD D_is_integer hr (pa_cons (pv 0) pa_nil)) (pe_one (pe_callB call_isi (by rfl) T.f_isinstance PyProof.Rows.boot_isinstance (pa_cons (pv 0) (pa_cons (pe_glob (v := .ref CT) (by rfl) gT rfl) pa_nil))))))), ?_⟩
    obtain ⟨x, t, b, c, d, rfl, h1, h2, h3, h4, k⟩ := h
    rw [show L2.start ["thing"] [x] = ([some (x)] : List (Option V)) from rfl]
    have kh := KH.start (H := H)
    walk_at "go"
    refine ⟨x, t, b, c, rfl, h1, h2, h3, ?_⟩
    cases hb : (b && !c) with
    | true =>
      rw [hb] at k
      walk_at "go"
      exact k
    | false =>
      rw [hb] at k
      walk_at "go"
      refine r_isi (.own CT) h1 h4 ?_
      walk_at "go"
      exact k
def spClsOf (CT : Addr) : Sp := fun vs H Q _ => ∃ v t l ks, vs = [v] ∧ TgR CT H ks v t l ∧ Q (.str (clsT t)) H
theorem ok_class_of (F : FnP K "class_of" s_class_of f fd) (T : Bt mg) (C : CsT K CT fe) (gT : mg "Thing" = some (.ref CT)) : FnOk P w K mg base CX0 1 f fd ["value"] (spClsOf CT) := by
  refine F.ok sc_class_of (fun vs H Q E h => ?_) (fun cdv A outer s H vs Q E hr h => ?_)
  · obtain ⟨v, t, l, ks, rfl, _⟩ := h
    rfl
  · refine ⟨_, PSs.nox (pss_one (ps_ret (pe_ifExp (pt_val (pe_callB call_isi (by rfl) T.f_isinstance PyProof.Rows.boot_isinstance (pa_cons (pv 0) (pa_cons (pe_glob (v := .ref CT) (by rfl) gT rfl) pa_nil)))) (pe_fld (pv 0) rfl) pe_str))), ?_⟩
    obtain ⟨v, t, l, ks, rfl, h, k⟩ := h
    rw [show L2.start ["value"] [v] = ([some (v)] : List (Option V)) from rfl]
    have kh := KH.start (H := H)
    obtain ⟨u, b, h1, _, _, h4, hb⟩ := h.ty C
    walk_at "go"
    refine r_isi (.own CT) h1 h4 ?_
    walk_at "go"
    cases h with
    | int i =>
      have hb : b = false := hb
      rw [hb]
      walk_at "go"
      exact k
    | th h hp hs hl ho e =>
      have hb : b = true := hb
      rw [hb]
      walk_at "go"
      refine FldAt.mk h C.c C.of rfl ?_
      walk_at "go"
      exact k
/-- how a world sees a class -/
def sinceB (T : List Cl) (m : Nat) (s : Str) : Bool := match findC T s with
  | some c => decide ((c.since : Int) ≤ (m : Int))
  | none => false
def seenL (T : List Cl) (m : Nat) (l : List Str) : List Str := l.filter (sinceB T m)
def seenF (T : List Cl) (m : Nat) : V → Option V
  | .str s => if sinceB T m s = true then some (V.str s) else none
  | _ => none
def spSeen (K : PySem.W.Frag) (CK CR : Addr) : Sp := fun vs H Q _ => ∃ r kd tl T n x m l y, vs = [.ref r, .str x, .int (m : Nat)] ∧ RtAt K CK CR H r kd tl T n ∧ Line T (some x) l ∧ l.length ≤ 1000 ∧ (seenL T m l)[0]? = some y ∧ ∀ H', Wc.Ext H H' → Q (.str y) H'
abbrev NN_seen : List Str := ["runtime", "name", "world", "one"]
theorem line_in {T : List Cl} {o : Option Str} {l : List Str} (h : Line T o l) : ∀ s, s ∈ l → ∃ c, findC T s = some c := by
  induction h with
  | nil => intro s hs; cases hs
  | cons h t ih =>
    intro s hs
    rcases List.mem_cons.mp hs with e | hs
    · rw [e]
      exact ⟨_, h⟩
    · exact ih s hs
theorem seen_fm (T : List Cl) (m : Nat) (l : List Str) : (List.range (l.map V.str).length).filterMap (fun i => (l.map V.str)[i]?.bind (seenF T m)) = (seenL T m l).map V.str := by
  rw [range_fm]
  unfold seenL
  induction l with
  | nil => rfl
  | cons s l ih =>
    rw [List.map_cons, List.filter_cons]
    by_cases h : sinceB T m s = true
    · rw [if_pos h, List.filterMap_cons_some (show seenF T m (V.str s) = some (V.str s) from if_pos h), ih] <;> rfl
    · rw [if_neg h, List.filterMap_cons_none (show seenF T m (V.str s) = none from if_neg h), ih]
theorem ok_seen (F : FnP K "seen" s_seen f fd) (T : Bt mg) (C : Cs K CK CR) (D_line_of : DfOk P w K mg base CX0 1 "line_of" ["runtime", "name"] (spLineOf K CK CR)) : FnOk P w K mg base CX0 2 f fd ["runtime", "name", "world"] (spSeen K CK CR) := by
  refine F.ok sc_seen (fun vs H Q E h => ?_) (fun cdv A outer s H vs Q E hr h => ?_)
  · obtain ⟨r, kd, tl, T, n, x, mm, l, y, rfl, _⟩ := h
    rfl
  · refine ⟨_, PSs.nox (pss_one (ps_ret (pe_ix ix_list (pe_lc (own := [("one", 3)]) rfl sc_seen.nd (pi_list (pe_callD D_line_of hr (pa_cons (pv 0) (pa_cons (pv 1) pa_nil)))) (blkOk_by (N := NN_seen) (sc := defScope s_seen) (by decide +kernel)) (fun _ _ _ _ _ => (pg_name (i := 3) sc_seen.nd rfl (by first | exact Or.inl rfl | exact Or.inr rfl))) (fun _ _ _ _ _ => (pts_one (pt_cmpR op_le (pe_fldK K (pe_dget (un1 hr) (pe_fldK K (pv 0) rfl) (pv 3) (fun _ _ => rfl)) rfl) (pv 2) (nomark _)))) (fun _ _ _ _ _ => (pv 3))) pe_int (fun _ _ => rfl)))), ?_⟩
    obtain ⟨r, kd, tl, T, n, x, mm, l, y, rfl, R, ln, hl, hy, k⟩ := h
    rw [show L2.start ["runtime", "name", "world", "one"] [V.ref r, V.str x, V.int mm] = ([some (V.ref r), some (V.str x), some (V.int mm), none] : List (Option V)) from rfl]
    have kh := KH.start (H := H)
    walk_at "go"
    obtain ⟨⟨dx, fs, h1, _⟩, ⟨kvs, h2, bn⟩, _⟩ := R.ext (Wc.Ext.refl H)
    refine ⟨r, kd, tl, T, n, some x, l, rfl, R, ln, hl, fun p H1 np e1 hp => ?_⟩
    refine ⟨p, rfl, ⟨_, SqL.of hp⟩, ?_⟩
    refine lcJ (walk_list (xs := l.map V.str)) (fun i => (l.map V.str)[i]?.bind (seenF T mm)) (by rw [List.length_map]; omega) (fun _ e => SqL.of (e _ _ hp)) ?_ ?_
    · rintro i v H2 H3 R' N' hi e2 ⟨rfl, hv⟩ hR hN
      have hv0 := hv
      rw [List.getElem?_map] at hv0
      obtain ⟨s0, hs0, rfl⟩ := Option.map_eq_some_iff.mp hv0
      obtain ⟨c, hc⟩ := line_in ln s0 (List.mem_of_getElem? hs0)
      obtain ⟨kv, hkv, q, qx, ft, rfl, hq, hft⟩ := bn.some hc
      have e02 := e1.trans e2
      walk_at "go"
      refine ⟨rfl, ?_⟩
      walk_at "go"
      refine FldAt.mk (e02 _ _ h1) C.r C.r_kinds rfl ?_
      walk_at "go"
      refine dget_mk (rd_ext h2 e02) hkv ?_
      refine FldAt.mk (e02 _ _ hq) C.k C.k_since rfl ?_
      walk_at "go"
      have es : sinceB T mm s0 = decide ((c.since : Int) ≤ (mm : Int)) := by
        unfold sinceB
        rw [hc]
      by_cases hs : decide ((c.since : Int) ≤ (mm : Int)) = true
      · rw [if_pos hs]
        walk_at "go"
        exact hR _ _ (by show ((l.map V.str)[i]?.bind (seenF T mm)) = _; rw [hv]; exact if_pos (es.trans hs)) (Wc.Ext.refl _)
      · rw [if_neg hs]
        exact hN _ (by show ((l.map V.str)[i]?.bind (seenF T mm)) = _; rw [hv]; exact if_neg (fun z => hs (es.symm.trans z))) (Wc.Ext.refl _)
    · intro p2 H2 hp2 e2 hl2
      rw [seen_fm] at hl2
      walk_at "go"
      exact r_ixL (SqL.of hl2) (atI_nat (j := 0) (by rw [List.getElem?_map, hy] <;> rfl)) (k H2 (e1.trans e2))

theorem seen_line {T : List Cl} {n : Nat} {x : Str} {l : List Str} (O : TrOk T n) (h : Line T (some x) l) : (seenL T n l)[0]? = some x := by
  cases h with
  | @cons x c l h t =>
    unfold seenL
    rw [List.filter_cons_of_pos]
    · rfl
    · unfold sinceB
      rw [h]
      have := O.since _ _ h
      exact decide_eq_true (by omega)
def spSeenOf (K : PySem.W.Frag) (CK CR CT : Addr) : Sp := fun vs H Q _ => ∃ r kd tl T n v t l ks c, vs = [.ref r, v, .int (n : Nat)] ∧ RtAt K CK CR H r kd tl T n ∧ TrOk T n ∧ TgR CT H ks v t l ∧ findC T (clsT t) = some c ∧ ∀ H', Wc.Ext H H' → Q (.str (clsT t)) H'
theorem ok_seen_of (F : FnP K "seen_of" s_seen_of f fd) (T : Bt mg) (D_class_of : DfOk P w K mg base CX0 1 "class_of" ["value"] (spClsOf CT)) (D_seen : DfOk P w K mg base CX0 2 "seen" ["runtime", "name", "world"] (spSeen K CK CR)) : FnOk P w K mg base CX0 3 f fd ["runtime", "value", "world"] (spSeenOf K CK CR CT) := by
  refine F.ok sc_seen_of (fun vs H Q E h => ?_) (fun cdv A outer s H vs Q E hr h => ?_)
  · obtain ⟨r, kd, tl, T, n, v, t, l, ks, c, rfl, _⟩ := h
    rfl
  · refine ⟨_, PSs.nox (pss_one (ps_ret (pe_callD D_seen hr (pa_cons (pv 0) (pa_cons (pe_callD D_class_of hr (pa_cons (pv 1) pa_nil)) (pa_cons (pv 2) pa_nil)))))), ?_⟩
    obtain ⟨r, kd, tl, T, n, v, t, l, ks, c, rfl, R, O, h, hc, k⟩ := h
    rw [show L2.start ["runtime", "value", "world"] [V.ref r, v, V.int (n : Nat)] = ([some (V.ref r), some (v), some (V.int (n : Nat))] : List (Option V)) from rfl]
    have kh := KH.start (H := H)
    walk_at "go"
    refine ⟨v, t, l, ks, rfl, h, ?_⟩
    walk_at "go"
    obtain ⟨ln, h1, h2⟩ := O.line _ _ hc
    exact ⟨r, kd, tl, T, n, clsT t, n, ln, clsT t, rfl, R, h1, h2, seen_line O h1, k⟩
end
end K03


set_option Elab.async false
set_option linter.all false
set_option maxRecDepth 100000
set_option maxHeartbeats 4000000
namespace K03
open PySem L2 Wc
local macro_rules | `(tactic| walk_at "lk") => `(tactic| first | with_reducible exact Look.here | (with_reducible apply Look.there; walk_at "lk"))
local macro_rules | `(tactic| walk_at "ul") => `(tactic| first | with_reducible exact UpL.here | (with_reducible apply UpL.there; walk_at "ul"))
local macro_rules | `(tactic| walk_at "ga") => `(tactic| first | exact GetAt.here | (apply GetAt.there; walk_at "ga"))
local macro_rules | `(tactic| walk_at "sa") => `(tactic| first | exact SetAt.here | (apply SetAt.there; walk_at "sa"))
local macro_rules | `(tactic| walk_at "hp") => `(tactic| first | assumption | (refine' KH.find ?k ?h; (case k => assumption); (case h => walk_at "lk")))
local macro_rules | `(tactic| walk_at "sql") => `(tactic| first | assumption | (refine' SqL.of ?h; (case h => walk_at "hp")) | (refine' Fr.sql (KH.fr ?k) ?n ?h; (case k => assumption); (case h => assumption); (case n => (simp; done))))
local macro_rules | `(tactic| walk_at "sqt") => `(tactic| first | assumption | (refine' SqT.of ?h; (case h => walk_at "hp")))
local macro_rules | `(tactic| walk_at "side") => `(tactic| first | exact (show (0 : Int) < _ by decide) | exact (show (0 : Int) < _ by omega) | exact ⟨by decide, by decide, by decide⟩ | exact ⟨by decide, by decide, by omega⟩ | exact ⟨by decide, by decide⟩ | exact ⟨by omega, by omega⟩ | exact Or.inl ⟨by omega, by omega⟩ | exact Or.inr ⟨by omega, by omega⟩)
local macro_rules | `(tactic| walk_at "siz") => `(tactic| first | (refine sz_of ?_; first | decide | omega | (simp; done) | (simp; omega)) | (refine sz_lt ?_; first | decide | omega | (simp; done) | (simp; omega)))
local macro_rules | `(tactic| walk_at "own") => `(tactic| first | (exact Or.inr (by assumption)) | (refine Or.inl ?_; simp; done))
local macro_rules | `(tactic| walk_at "al") => `(tactic| (refine' AllocO.mk ?k ?_; (case k => assumption); intro _ _ _ _))
local macro_rules | `(tactic| walk_at "up") => `(tactic| (refine' UpdO.mk ?k ?h ?m ?_; (case k => assumption); (case h => walk_at "ul"); (case m => walk_at "own"); intro _ _))
local macro_rules | `(tactic| walk_at "st") => `(tactic| first
  | ((with_reducible refine' r_var ?h ?_); (case h => walk_at "ga"))
  | (with_reducible refine' r_seq ?_) | (with_reducible refine' r_next ?_) | (with_reducible refine' r_asg ?_) | (with_reducible refine' r_drop ?_) | (with_reducible refine' r_ret ?_) | (with_reducible refine' r_retN ?_)
  | (with_reducible refine' r_ifs ?_) | (with_reducible refine' r_cont ?_) | (with_reducible refine' r_break ?_) | (with_reducible refine' r_c ?_) | (with_reducible refine' r_op ?_) | (with_reducible refine' r_un ?_)
  | (with_reducible refine' r_test ?_) | (with_reducible refine' r_tB ?_) | (with_reducible refine' r_not ?_) | (with_reducible refine' r_and ?_) | (with_reducible refine' r_or ?_) | (with_reducible refine' r_notV ?_)
  | (with_reducible refine' r_andV ?_) | (with_reducible refine' r_orV ?_) | (with_reducible refine' r_ifE ?_) | (with_reducible refine' r_bl ?_) | (with_reducible refine' r_nil ?_) | (with_reducible refine' r_cons ?_)
  | (with_reducible refine' r_tup ?_) | (with_reducible refine' r_lst ?_) | (with_reducible refine' r_cb ?_) | (with_reducible refine' r_call ?_) | ((with_reducible refine' r_name ?h ?_); (case h => walk_at "sa")) | (with_reducible refine' r_gnil ?_)
  | (with_reducible refine' r_gcons ?_) | (with_reducible refine' r_gsub ?_) | (with_reducible refine' r_par ?_) | (with_reducible refine' r_par2 ?_) | (with_reducible refine' r_I0 ?_) | (with_reducible refine' r_U ?_)
  | ((with_reducible refine' r_eq ?h ?_); (case h => rfl)) | ((with_reducible refine' r_ne ?h ?_); (case h => rfl))
  | ((with_reducible refine' r_ixL ?h ?a ?_); (case h => walk_at "sql"); (case a => rfl))
  | ((with_reducible refine' r_ixT ?h ?a ?_); (case h => walk_at "sqt"); (case a => rfl))
  | ((with_reducible refine' r_setL ?h ?a ?_); (case h => walk_at "hp"); (case a => rfl))
  | ((with_reducible refine' r_I ?c ?_); (case c => walk_at "side"))
  | (with_reducible refine' r_sl ?_) | (with_reducible refine' r_part ?_) | (with_reducible refine' r_nopart ?_) | (with_reducible refine' r_ii ?_)
  | ((with_reducible refine' r_slL ?h ?_); (case h => walk_at "sql"))
  | (with_reducible refine' r_bm ?_) | (with_reducible refine' r_bm0 ?_) | (with_reducible refine' r_int1 ?_) | (with_reducible refine' r_int1b ?_)
  | ((with_reducible refine' r_aug ?h ?_); (case h => walk_at "ga"))
  | ((with_reducible refine' r_cat ?a ?b ?z ?_); (case a => walk_at "hp"); (case b => walk_at "hp"); (case z => walk_at "siz"))
  | ((with_reducible refine' r_append ?a ?z ?_); (case a => walk_at "hp"); (case z => walk_at "siz"))
  | ((with_reducible refine' And.intro ?z ?_); (case z => first | walk_at "siz" | exact Or.inl ⟨rfl, _, by walk_at "sql"⟩))
  | ((with_reducible refine' r_gtup ?h ?l ?_); (case h => walk_at "sqt"); (case l => rfl))
  | (with_reducible refine' r_forL ?_) | (with_reducible refine' r_forE ?_) | (with_reducible refine' r_forR ?_) | ((with_reducible refine' r_forL2 ?h ?_); (case h => walk_at "sql")) | ((with_reducible refine' r_forE2 ?h ?_); (case h => walk_at "sql"))
  | (with_reducible refine' r_lcR ?_) | ((with_reducible refine' r_iteT ?h ?_); (case h => rfl)) | ((with_reducible refine' r_iteF ?h ?_); (case h => rfl))
  | (with_reducible refine' r_dnew ?_) | (with_reducible refine' r_vei ?_) | (with_reducible refine' r_ost ?_) | (with_reducible refine' r_mkV ?_) | (with_reducible refine' r_mkX ?_) | (with_reducible refine' r_xfld ?_)
  | ((with_reducible refine' MkG.mk ?o ?n ?k ?_); (case o => exact ErrOk.o (by assumption)); (case n => exact ErrOk.no (by assumption)); (case k => assumption); intro _ _ _ _)
  | ((with_reducible refine' AllocX.mk ?k ?_); (case k => assumption); intro _ _ _ _)
  | (with_reducible refine' r_chain ?_) | (with_reducible refine' r_lcS ?_) | (with_reducible refine' r_lcS2 ?_) | (with_reducible refine' r_lcL ?_) | (with_reducible refine' r_lcT ?_) | (with_reducible refine' r_lcI ?_) | (with_reducible refine' r_yes ?_)
  | (with_reducible refine' r_fld ?_) | (with_reducible refine' r_sfld ?_) | (with_reducible refine' r_meth ?_) | (with_reducible refine' r_make ?_) | (with_reducible refine' r_dget ?_) | (with_reducible refine' r_din ?_) | (with_reducible refine' r_dput ?_)
  | ((with_reducible refine' r_disp ?k ?_); (case k => assumption); intro _ _ _ _) | (with_reducible refine' r_pnil ?_) | (with_reducible refine' r_pcons ?_)
  | (walk_at "al") | (walk_at "up"))
local macro_rules | `(tactic| walk_at "go") => `(tactic| repeat walk_at "st")

section
variable {P : Program} {w : World} {K : PySem.W.Frag} {mg : Str → Option Value} {base : Heap} {f : Addr} {fd : FuncData} {CK CR CT fe NF TD : Addr}
abbrev NN_made : List Str := ["runtime", "name", "parts", "world", "field", "bound", "part", "deep", "key"]
/-- the i-th part fits -/
def FitAt (T : List Cl) (fs : List (Str × Str)) (ts : List Tg) (i : Nat) : Prop := ∀ q t, fs[i]? = some q → ts[i]? = some t → Below T (clsT t) q.2
def spMade (P : Program) (w : World) (K : PySem.W.Frag) (CK CR CT NF TD : Addr) : Sp := fun vs H Q E => ∃ r kd tl T n name p pvs ts ls fs c sh ks, vs = [.ref r, .str name, .ref p, .int ((n : Nat) : Int)] ∧ RtAt K CK CR H r kd tl T n ∧ TrOk T n ∧ findC T name = some c ∧
  PySem.Paired (FlR H) c.all fs ∧ H p = some (.tup pvs) ∧ TgRs CT H ks pvs ts ls ∧ c.all.length = pvs.length ∧ pvs.length ≤ 1000 ∧ (∀ t, t ∈ ts → ∃ d, findC T (clsT t) = some d) ∧ ShAt P w CR H r sh ks ∧ ks.length < 80000 ∧
  (∀ i q, fs[i]? = some q → ¬ FitAt T fs ts i → (∀ j, j < i → FitAt T fs ts j) → ExTo E H NF "field" (.str q.1)) ∧
  ((∀ i, FitAt T fs ts i) → 100 < deepM ts + 1 → ∀ H', Wc.Ext H H' → E (.ref TD) none H') ∧
  ((∀ i, FitAt T fs ts i) → deepM ts + 1 ≤ 100 → ∀ a H' ks' k, H a = none → Fr [sh] H H' → Mo H H' → ShAt P w CR H' r sh ks' → (ks' = ks ∨ ks' = ks ++ [kOf name ls]) → TgR CT H' ks' (.ref a) (.th name ts) k → PtAt CT H' a name p → Q (.ref a) H')
theorem ok_made (F : FnP K "made" s_made f fd) (T : Bt mg) (C : Cs K CK CR) (Ct : CsT K CT fe) (C2 : Cs2 K CR) (gT : mg "Thing" = some (.ref CT)) (gz : mg "zip" = none) (gm : mg "max" = none) (gMD : ∃ t, mg "MOST_DEEP" = some (.int 100 t))
    (E_NoFit : ErrOk P w K mg base "NoFit" NF "field") (R_TooDeep : RzOk K mg "TooDeep" TD) (D_below : DfOk P w K mg base CX0 2 "below" ["runtime", "one", "other"] (spBelow K CK CR)) (D_seen_of : DfOk P w K mg base CX0 3 "seen_of" ["runtime", "value", "world"] (spSeenOf K CK CR CT))
    (K_Thing : MkOk P w K mg base CX0 1 "Thing" CT ["self", "of", "parts", "deep", "number"] (spThing CT)) :
    FnOk P w K mg base (L2.CX P w) 4 f fd ["runtime", "name", "parts", "world"] (spMade P w K CK CR CT NF TD) := by
  obtain ⟨tMD, hMD⟩ := gMD
  refine F.ok sc_made (fun vs H Q E h => ?_) (fun cdv A outer s H vs Q E hr h => ?_)
  · obtain ⟨r, kd, tl, T, n, name, p, pvs, ts, ls, fs, c, sh, ks, rfl, _⟩ := h
    rfl
  · refine ⟨_, (pss_cons (ps_for (passes_of rfl) rfl (pi_zipS (by rfl) gz (pa_cons (pe_fld (pe_dget (un1 hr) (pe_fld (pv 0) rfl) (pv 1) (fun _ _ => rfl)) rfl) (pa_cons (pv 2) pa_nil)) (pk_cons pe_bl pk_nil)) (pg_tup rfl (pgs_cons (pg_tup rfl (pgs_cons (pg_name (i := 4) sc_made.nd rfl (by first | exact Or.inl rfl | exact Or.inr rfl)) (pgs_cons (pg_name (i := 5) sc_made.nd rfl (by first | exact Or.inl rfl | exact Or.inr rfl)) pgs_nil))) (pgs_cons (pg_name (i := 6) sc_made.nd rfl (by first | exact Or.inl rfl | exact Or.inr rfl)) pgs_nil))) (pss_one (ps_if (pt_not (pt_val (pe_callD D_below hr (pa_cons (pv 0) (pa_cons (pe_callD D_seen_of hr (pa_cons (pv 0) (pa_cons (pv 6) (pa_cons (pv 3) pa_nil)))) (pa_cons (pv 5) pa_nil)))))) (pss_one (ps_raiseE rfl (takes_of rfl rfl rfl rfl) E_NoFit hr (pv 4))) pss_nil)))
      (pss_cons (ps_set (i := 7) sc_made.nd rfl (by first | exact Or.inl rfl | exact Or.inr rfl) (pe_op op_add pe_int (pe_callBK (cr_maxD rfl) (by rfl) gm PyProof.Rows.boot_max (pa_cons (pe_lc (own := [("part", 6)]) rfl sc_made.nd (pi_tup (pv 2)) (blkOk_by (N := NN_made) (sc := defScope s_made) (by decide +kernel)) (fun _ _ _ _ _ => (pg_name (i := 6) sc_made.nd rfl (by first | exact Or.inl rfl | exact Or.inr rfl))) (fun _ _ _ _ _ => (pts_one (pt_val (pe_callB (isiK K) (by rfl) T.f_isinstance PyProof.Rows.boot_isinstance (pa_cons (pv 6) (pa_cons (pe_glob (v := .ref CT) (by rfl) gT rfl) pa_nil)))))) (fun _ _ _ _ _ => (pe_fldK K (pv 6) rfl))) pa_nil) (pk_cons pe_int pk_nil))))
      (pss_cons (ps_if (pt_cmpR op_gt (pv 7) (pe_glob (v := .int 100) (by rfl) hMD ⟨_, rfl⟩) (nomark _)) (pss_one (ps_raiseP rfl (takes_of rfl rfl rfl rfl) R_TooDeep)) pss_nil)
      (pss_cons (ps_set (i := 8) sc_made.nd rfl (by first | exact Or.inl rfl | exact Or.inr rfl) (pe_tup (pa_cons (pv 1) (pa_cons (pe_callTy call_tuple_of (by rfl) T.f_tuple PyProof.Rows.boot_tuple (pa_cons (pe_lc (own := [("part", 6)]) rfl sc_made.nd (pi_tup (pv 2)) (blkOk_by (N := NN_made) (sc := defScope s_made) (by decide +kernel)) (fun _ _ _ _ _ => (pg_name (i := 6) sc_made.nd rfl (by first | exact Or.inl rfl | exact Or.inr rfl))) (fun _ _ _ _ _ => pts_nil) (fun _ _ _ _ _ => (pe_ifExp (pt_val (pe_callB (isiK K) (by rfl) T.f_isinstance PyProof.Rows.boot_isinstance (pa_cons (pv 6) (pa_cons (pe_glob (v := .ref CT) (by rfl) gT rfl) pa_nil)))) (pe_tup (pa_cons pe_str (pa_cons (pe_fldK K (pv 6) rfl) pa_nil))) (pe_tup (pa_cons pe_str (pa_cons (pv 6) pa_nil)))))) pa_nil)) pa_nil))))
      (pss_one (ps_ret (pe_makeC K_Thing hr (pa_cons (pv 1) (pa_cons (pv 2) (pa_cons (pv 7) (pa_cons (pe_nbm PySem.F.slot_dict_setdefault PySem.F.type_dict_setdefault (mt_ndef (un9t hr)) (pe_fld (pv 0) rfl) (pa_cons (pv 8) (pa_cons (pe_callB cr_nlen (by rfl) T.f_len PySem.boot_len (pa_cons (pe_fld (pv 0) rfl) pa_nil)) pa_nil))) pa_nil))))))))))), ?_⟩
    obtain ⟨r, kd, tl, T, n, name, p, pvs, ts, ls, fs, c, sh, ks, rfl, R, O, hc, hfs, hp, hts, hlen, hpz, hcl, S, hkz, kbad, kdeep, kgood⟩ := h
    rw [show L2.start ["runtime", "name", "parts", "world", "field", "bound", "part", "deep", "key"] [V.ref r, V.str name, V.ref p, V.int n] = ([some (V.ref r), some (V.str name), some (V.ref p), some (V.int n), none, none, none, none, none] : List (Option V)) from rfl]
    have kh := KH.start (H := H)
    obtain ⟨⟨dx, fs0, h1, _⟩, ⟨kvs, h2, bn⟩, _⟩ := id R
    obtain ⟨v, hv, q, dx2, ft, rfl, hq, hft⟩ := bn.some hc
    walk_at "go"
    refine r_zipS ?_
    walk_at "go"
    refine FldAt.mk h1 C.r C.r_kinds rfl ?_
    walk_at "go"
    refine dget_mk h2 hv ?_
    refine FldAt.mk hq C.k C.k_fields rfl ?_
    walk_at "go"
    refine ⟨ft, p, c.all, pvs, rfl, rfl, hft.t, SqT.of hp, hlen, ?_⟩
    refine ForJ.mk (walk_strict hlen) (fun i σ H' => (∃ v4 v5 v6, σ = [some (.ref r), some (.str name), some (.ref p), some (.int n), v4, v5, v6, none, none]) ∧ Wc.Ext H H' ∧ ∀ j, j < i → FitAt T fs ts j)
      ⟨⟨_, _, _, rfl⟩, Wc.Ext.refl _, fun j hj => absurd hj (Nat.not_lt_zero j)⟩ (fun i σ H' _ z => ⟨(hft.ext z.2.1).t, SqT.of (z.2.1 _ _ hp)⟩) ?_ ?_
    · rintro i x σ H1 H2 hi ⟨⟨v4, v5, v6, rfl⟩, e1, hfit⟩ ⟨cc, u, v, rfl, hcc, rfl, hu, hvv⟩
      obtain ⟨fq, hfq, t0, rfl, ht0⟩ := paired_get1 hfs hu
      obtain ⟨tt, l0, htt, hl0, hvt⟩ := hts.get hvv
      have e2 : Wc.Ext H (upd H1 cc (.tup [.ref t0, v])) := e1.trans (Wc.Ext.new hcc)
      have k2 := KH.start1 (H := upd H1 cc (.tup [.ref t0, v])) (p := cc) (o := .tup [.ref t0, v]) upd_same
      have ht2 := e2 _ _ ht0
      generalize upd H1 cc (.tup [.ref t0, v]) = H3 at e2 k2 ht2 ⊢
      have ht3 : SqT K H3 t0 [.str fq.1, .str fq.2] := SqT.of ht2
      walk_at "go"
      obtain ⟨d, hd⟩ := hcl tt (List.mem_of_getElem? htt)
      obtain ⟨ln, hln, hlz⟩ := O.line _ _ hd
      refine ⟨r, kd, tl, T, n, v, tt, l0, ks, d, rfl, R.ext e2, O, TgR.mo e2.mo ⟨[], (List.append_nil _).symm⟩ _ _ _ hvt, hd, fun H4 e4 => ?_⟩
      walk_at "go"
      refine ⟨r, kd, tl, T, n, clsT tt, fq.2, ln, rfl, R.ext (e2.trans e4), hln, hlz, fun H5 e5 => ?_⟩
      rw [inV_strs']
      have e25 := (e2.trans e4).trans e5
      by_cases hb : fq.2 ∈ ln
      · rw [List.contains_iff_mem.mpr hb]
        walk_at "go"
        refine ⟨⟨_, _, _, rfl⟩, e25, fun j hj => ?_⟩
        rcases Nat.lt_or_eq_of_le (Nat.lt_succ_iff.mp hj) with hj | hj
        · exact hfit j hj
        · rw [hj]
          intro q' t' hq' ht'
          rw [hfq] at hq'
          rw [htt] at ht'
          cases hq'
          cases ht'
          exact (below_iff hln).mpr hb
      · rw [show ln.contains fq.2 = false from by cases z : ln.contains fq.2 with | false => rfl | true => exact absurd (List.contains_iff_mem.mp z) hb]
        walk_at "go"
        refine RsG.mk E_NoFit.o E_NoFit.no ?_
        exact (kbad i fq hfq (fun z => hb ((below_iff hln).mp (z fq tt hfq htt))) hfit).ext e25
    · rintro σ H1 ⟨⟨v4, v5, v6, rfl⟩, e1, hfit⟩
      have fits : ∀ i, FitAt T fs ts i := fun i => by
        by_cases hi : i < c.all.length
        · exact hfit i hi
        · intro q' t' hq' _
          have := (List.getElem?_eq_some_iff.mp hq').1
          have := Paired.length hfs
          omega
      have k1 := KH.start (H := H1)
      walk_at "go"
      refine r_ckw ?_
      walk_at "go"
      have hp1 := e1 _ _ hp
      refine ⟨p, rfl, ⟨_, SqT.of hp1⟩, ?_⟩
      have hpt : pvs.length = ts.length := hts.len.1
      refine lcJ (walk_tup (xs := pvs)) (fun i => ts[i]?.bind fun t => (dI t).map V.int) (by omega) (fun _ e => SqT.of (e _ _ hp1)) ?_ ?_
      · rintro i x H2 H3 R' N' hi e2 ⟨rfl, hx⟩ hR hN
        obtain ⟨tt, l0, htt, hl0, hvt⟩ := hts.get hx
        have hvt := TgR.mo (e1.trans e2).mo ⟨[], (List.append_nil _).symm⟩ _ _ _ hvt
        walk_at "go"
        refine ⟨rfl, ?_⟩
        walk_at "go"
        rcases hvt.isTh Ct with ⟨i0, rfl, rfl, rfl, hty, hk⟩ | ⟨a0, dx0, p0, of, ps, vs0, ls0, n0, rfl, rfl, rfl, ha0, hp0, hs0, hty, hk⟩
        · refine r_isi (.own CT) hty hk ?_
          walk_at "go"
          exact hN _ (by rw [htt] <;> rfl) (Wc.Ext.refl _)
        · refine r_isi (.own CT) hty hk ?_
          walk_at "go"
          refine FldAt.mk ha0 Ct.c Ct.deep rfl ?_
          exact hR _ _ (by rw [htt] <;> rfl) (Wc.Ext.refl _)
      · intro q2 H2 nq e2 hl1
        rw [hpt, range_fm, ← List.map_filterMap] at hl1
        walk_at "go"
        refine rMaxD_mk (SqL.of hl1) ?_
        have e02 := e1.trans e2
        have k2 := KH.start (H := H2)
        walk_at "go"
        by_cases hdp : 100 < deepM ts + 1
        · rw [show decide ((100 : Int) < 1 + ((deepM ts : Nat) : Int)) = true from decide_eq_true (by omega)]
          walk_at "go"
          exact kdeep fits hdp _ e02
        · rw [show decide ((100 : Int) < 1 + ((deepM ts : Nat) : Int)) = false from decide_eq_false (by omega)]
          walk_at "go"
          rw [show (1 + ((deepM ts : Nat) : Int)) = ((deepM ts + 1 : Nat) : Int) from by omega]
          have hp2 := e02 _ _ hp
          refine ⟨p, rfl, ⟨_, SqT.of hp2⟩, ?_⟩
          refine lcP (walk_tup (xs := pvs)) (fun i acc H' => Wc.Ext H2 H' ∧ KeyVs H' acc (ls.take i)) ⟨Wc.Ext.refl _, .nil⟩ (by omega) ?_ (fun i acc H' _ z => SqT.of (z.1 _ _ hp2)) ?_ ?_
          · rintro D i acc H4 H5 hD mo fr ⟨z1, z2⟩
            exact ⟨fun b o hb => fr b o (fun m => by rw [List.mem_singleton.mp m, hD] at hb; cases hb) (z1 b o hb), KeyVs.mo mo _ _ z2⟩
          · rintro i x acc H4 H5 D R' N' hi hD hacc ⟨z1, z2⟩ ⟨rfl, hx⟩ hR hN
            obtain ⟨tt, l0, htt, hl0, hvt⟩ := hts.get hx
            have hvt := TgR.mo (e02.trans z1).mo ⟨[], (List.append_nil _).symm⟩ _ _ _ hvt
            have k5 := (KH.start (H := H5)).cons hacc (by simp)
            have tk : ls.take (i + 1) = ls.take i ++ [l0] := by rw [List.take_succ, hl0] <;> rfl
            walk_at "go"
            refine ⟨rfl, ?_⟩
            walk_at "go"
            rcases hvt.isTh Ct with ⟨i0, rfl, rfl, rfl, hty, hk⟩ | ⟨a0, dx0, p0, of, ps, vs0, ls0, n0, rfl, rfl, rfl, ha0, hp0, hs0, hty, hk⟩
            · refine r_isi (.own CT) hty hk ?_
              walk_at "go"
              rename_i p6 H6 n6 k6
              have e6 := k6.extE
              exact hR _ _ ⟨z1.trans e6, by rw [tk]; exact KeyVs.snoc (KeyVs.mo e6.mo _ _ z2) (.tup (k6.find .here) (.cons (.str _) (.cons (.int _) .nil)))⟩ (k6.find (.there .here))
            · refine r_isi (.own CT) hty hk ?_
              walk_at "go"
              refine FldAt.mk ha0 Ct.c Ct.number rfl ?_
              walk_at "go"
              rename_i p6 H6 n6 k6
              have e6 := k6.extE
              exact hR _ _ ⟨z1.trans e6, by rw [tk]; exact KeyVs.snoc (KeyVs.mo e6.mo _ _ z2) (.tup (k6.find .here) (.cons (.str _) (.cons (.int _) .nil)))⟩ (k6.find (.there .here))
          · intro D H4 acc hD z h4
            obtain ⟨z1, z2⟩ := z
            rw [List.take_of_length_le (by have := hts.len.2; omega)] at z2
            walk_at "go"
            have k4 := (KH.start (H := H4)).cons h4 (by simp)
            refine ⟨D, acc, rfl, .inl ⟨SqL.of h4, fun pt n5 => ?_⟩⟩
            have k5 := k4.new (o := .tup acc) n5
            generalize upd H4 pt (.tup acc) = H5 at k5 ⊢
            walk_at "go"
            rename_i pk H6 n6 k6
            have e26 := z1.trans k6.extE
            have e06 := e02.trans e26
            refine r_nbm ?_
            obtain ⟨dxs, fss, hr1, hr2⟩ := S.f
            walk_at "go"
            refine FldAt.mk (e06 _ _ hr1) C.r C2.shapes hr2 ?_
            have tb6 := S.t.fr e06.mo (fun o z _ => e06 _ _ z)
            refine ⟨sh, rfl, ⟨_, tb6⟩, ?_⟩
            walk_at "go"
            refine FldAt.mk (e06 _ _ hr1) C.r C2.shapes hr2 ?_
            walk_at "go"
            refine ⟨sh, shKv ks, rfl, tb6, ?_⟩
            walk_at "go"
            have nk : NKey H6 (.ref pk) (kOf name ls) := ⟨⟨pk, rfl⟩, .tup (k6.find .here) (.cons (.str _) (.cons (.tup (k6.find (.there .here)) (KeyVs.mo k6.extE.mo _ _ z2)) .nil)), kOf_depth hts name⟩
            refine ⟨sh, .ref pk, .int ((shKv ks).length : Nat), shKv ks, kOf name ls, rfl, rfl, nk, tb6, by rw [shKv_len]; exact sz_lt (by omega), fun z hz => ?_, fun hn H7 fr mo nd => ?_⟩
            · obtain ⟨nn, rfl, hnn⟩ := (shKv_at ks (kOf name ls)).2 z hz
              walk_at "go"
              refine mkThing k6.rebase fun x dx H7 nx6 nx7 k7 => ?_
              have e67 := k7.extE
              have e07 := e06.trans e67
              exact kgood fits (by omega) x H7 ks _ (e06.free nx7) e07.fr e07.mo ⟨⟨dxs, fss, e07 _ _ hr1, hr2⟩, S.t.fr e07.mo (fun o z _ => e07 _ _ z), S.nd, S.lt⟩ (.inl rfl)
                (.th (k7.find .here) (e07 _ _ hp) (TgRs.mo e07.mo ⟨[], (List.append_nil _).symm⟩ _ _ _ hts) hpz (O.len _ _ hc) hnn) ⟨_, _, _, k7.find .here⟩
            · walk_at "go"
              have hnk : kOf name ls ∉ ks := shKv_mem hn
              rw [shKv_len, ← shKv_snoc] at nd
              have nd' : (ks ++ [kOf name ls]).Nodup := by
                rw [List.nodup_append]
                exact ⟨S.nd, by simp, fun a ha b hb e => hnk (by rw [← List.mem_singleton.mp hb, ← e]; exact ha)⟩
              rw [shKv_len]
              have k7 := KH.start (H := H7)
              refine mkThing k7 fun x dx H8 nx7 nx8 k8 => ?_
              have e78 := k8.extE
              have hfree : H x = none := by
                cases hx : H x with
                | none => rfl
                | some o =>
                  exfalso
                  by_cases q : x = sh
                  · obtain ⟨xs, h, _⟩ := nd
                    rw [q, h] at nx8
                    cases nx8
                  · have := fr x o (fun m => q (List.mem_singleton.mp m)) (e06 _ _ hx)
                    rw [this] at nx8
                    cases nx8
              have f08 : Fr [sh] H H8 := (e06.fr.trans fr).trans e78.fr
              have m08 : Mo H H8 := (e06.mo.trans mo).trans e78.mo
              exact kgood fits (by omega) x H8 (ks ++ [kOf name ls]) _ hfree f08 m08 ⟨⟨dxs, fss, m08 _ _ rfl hr1, hr2⟩, Tb.fr (.inl nd) e78.mo (fun o z _ => e78 _ _ z), nd', by rw [List.length_append]; simp; omega⟩ (.inr rfl)
                (.th (k8.find .here) (m08 _ _ rfl hp) (TgRs.mo m08 ⟨_, rfl⟩ _ _ _ hts) hpz (O.len _ _ hc) (by rw [List.getElem?_append_right (Nat.le_refl _)]; simp)) ⟨_, _, _, k8.find .here⟩
end
end K03


set_option Elab.async false
set_option linter.all false
set_option maxRecDepth 100000
set_option maxHeartbeats 4000000
namespace K03
open PySem L2 Wc
local macro_rules | `(tactic| walk_at "lk") => `(tactic| first | with_reducible exact Look.here | (with_reducible apply Look.there; walk_at "lk"))
local macro_rules | `(tactic| walk_at "ul") => `(tactic| first | with_reducible exact UpL.here | (with_reducible apply UpL.there; walk_at "ul"))
local macro_rules | `(tactic| walk_at "ga") => `(tactic| first | exact GetAt.here | (apply GetAt.there; walk_at "ga"))
local macro_rules | `(tactic| walk_at "sa") => `(tactic| first | exact SetAt.here | (apply SetAt.there; walk_at "sa"))
local macro_rules | `(tactic| walk_at "hp") => `(tactic| first | assumption | (refine' KH.find ?k ?h; (case k => assumption); (case h => walk_at "lk")))
local macro_rules | `(tactic| walk_at "sql") => `(tactic| first | assumption | (refine' SqL.of ?h; (case h => walk_at "hp")) | (refine' Fr.sql (KH.fr ?k) ?n ?h; (case k => assumption); (case h => assumption); (case n => (simp; done))))
local macro_rules | `(tactic| walk_at "sqt") => `(tactic| first | assumption | (refine' SqT.of ?h; (case h => walk_at "hp")))
local macro_rules | `(tactic| walk_at "side") => `(tactic| first | exact (show (0 : Int) < _ by decide) | exact (show (0 : Int) < _ by omega) | exact ⟨by decide, by decide, by decide⟩ | exact ⟨by decide, by decide, by omega⟩ | exact ⟨by decide, by decide⟩ | exact ⟨by omega, by omega⟩ | exact Or.inl ⟨by omega, by omega⟩ | exact Or.inr ⟨by omega, by omega⟩)
local macro_rules | `(tactic| walk_at "siz") => `(tactic| first | (refine sz_of ?_; first | decide | omega | (simp; done) | (simp; omega)) | (refine sz_lt ?_; first | decide | omega | (simp; done) | (simp; omega)))
local macro_rules | `(tactic| walk_at "own") => `(tactic| first | (exact Or.inr (by assumption)) | (refine Or.inl ?_; simp; done))
local macro_rules | `(tactic| walk_at "al") => `(tactic| (refine' AllocO.mk ?k ?_; (case k => assumption); intro _ _ _ _))
local macro_rules | `(tactic| walk_at "up") => `(tactic| (refine' UpdO.mk ?k ?h ?m ?_; (case k => assumption); (case h => walk_at "ul"); (case m => walk_at "own"); intro _ _))
local macro_rules | `(tactic| walk_at "st") => `(tactic| first
  | ((with_reducible refine' r_var ?h ?_); (case h => walk_at "ga"))
  | (with_reducible refine' r_seq ?_) | (with_reducible refine' r_next ?_) | (with_reducible refine' r_asg ?_) | (with_reducible refine' r_drop ?_) | (with_reducible refine' r_ret ?_) | (with_reducible refine' r_retN ?_)
  | (with_reducible refine' r_ifs ?_) | (with_reducible refine' r_cont ?_) | (with_reducible refine' r_break ?_) | (with_reducible refine' r_c ?_) | (with_reducible refine' r_op ?_) | (with_reducible refine' r_un ?_)
  | (with_reducible refine' r_test ?_) | (with_reducible refine' r_tB ?_) | (with_reducible refine' r_not ?_) | (with_reducible refine' r_and ?_) | (with_reducible refine' r_or ?_) | (with_reducible refine' r_notV ?_)
  | (with_reducible refine' r_andV ?_) | (with_reducible refine' r_orV ?_) | (with_reducible refine' r_ifE ?_) | (with_reducible refine' r_bl ?_) | (with_reducible refine' r_nil ?_) | (with_reducible refine' r_cons ?_)
  | (with_reducible refine' r_tup ?_) | (with_reducible refine' r_lst ?_) | (with_reducible refine' r_cb ?_) | (with_reducible refine' r_call ?_) | ((with_reducible refine' r_name ?h ?_); (case h => walk_at "sa")) | (with_reducible refine' r_gnil ?_)
  | (with_reducible refine' r_gcons ?_) | (with_reducible refine' r_gsub ?_) | (with_reducible refine' r_par ?_) | (with_reducible refine' r_par2 ?_) | (with_reducible refine' r_I0 ?_) | (with_reducible refine' r_U ?_)
  | ((with_reducible refine' r_eq ?h ?_); (case h => rfl)) | ((with_reducible refine' r_ne ?h ?_); (case h => rfl))
  | ((with_reducible refine' r_ixL ?h ?a ?_); (case h => walk_at "sql"); (case a => rfl))
  | ((with_reducible refine' r_ixT ?h ?a ?_); (case h => walk_at "sqt"); (case a => rfl))
  | ((with_reducible refine' r_setL ?h ?a ?_); (case h => walk_at "hp"); (case a => rfl))
  | ((with_reducible refine' r_I ?c ?_); (case c => walk_at "side"))
  | (with_reducible refine' r_sl ?_) | (with_reducible refine' r_part ?_) | (with_reducible refine' r_nopart ?_) | (with_reducible refine' r_ii ?_)
  | ((with_reducible refine' r_slL ?h ?_); (case h => walk_at "sql"))
  | (with_reducible refine' r_bm ?_) | (with_reducible refine' r_bm0 ?_) | (with_reducible refine' r_int1 ?_) | (with_reducible refine' r_int1b ?_)
  | ((with_reducible refine' r_aug ?h ?_); (case h => walk_at "ga"))
  | ((with_reducible refine' r_cat ?a ?b ?z ?_); (case a => walk_at "hp"); (case b => walk_at "hp"); (case z => walk_at "siz"))
  | ((with_reducible refine' r_append ?a ?z ?_); (case a => walk_at "hp"); (case z => walk_at "siz"))
  | ((with_reducible refine' And.intro ?z ?_); (case z => first | walk_at "siz" | exact Or.inl ⟨rfl, _, by walk_at "sql"⟩))
  | ((with_reducible refine' r_gtup ?h ?l ?_); (case h => walk_at "sqt"); (case l => rfl))
  | (with_reducible refine' r_forL ?_) | (with_reducible refine' r_forE ?_) | (with_reducible refine' r_forR ?_) | ((with_reducible refine' r_forL2 ?h ?_); (case h => walk_at "sql")) | ((with_reducible refine' r_forE2 ?h ?_); (case h => walk_at "sql"))
  | (with_reducible refine' r_lcR ?_) | ((with_reducible refine' r_iteT ?h ?_); (case h => rfl)) | ((with_reducible refine' r_iteF ?h ?_); (case h => rfl))
  | (with_reducible refine' r_dnew ?_) | (with_reducible refine' r_vei ?_) | (with_reducible refine' r_ost ?_) | (with_reducible refine' r_mkV ?_) | (with_reducible refine' r_mkX ?_) | (with_reducible refine' r_xfld ?_)
  | ((with_reducible refine' MkG.mk ?o ?n ?k ?_); (case o => exact ErrOk.o (by assumption)); (case n => exact ErrOk.no (by assumption)); (case k => assumption); intro _ _ _ _)
  | ((with_reducible refine' AllocX.mk ?k ?_); (case k => assumption); intro _ _ _ _)
  | (with_reducible refine' r_chain ?_) | (with_reducible refine' r_lcS ?_) | (with_reducible refine' r_lcS2 ?_) | (with_reducible refine' r_lcL ?_) | (with_reducible refine' r_lcT ?_) | (with_reducible refine' r_lcI ?_) | (with_reducible refine' r_yes ?_)
  | (with_reducible refine' r_fld ?_) | (with_reducible refine' r_sfld ?_) | (with_reducible refine' r_meth ?_) | (with_reducible refine' r_make ?_) | (with_reducible refine' r_dget ?_) | (with_reducible refine' r_din ?_) | (with_reducible refine' r_dput ?_)
  | ((with_reducible refine' r_disp ?k ?_); (case k => assumption); intro _ _ _ _) | (with_reducible refine' r_pnil ?_) | (with_reducible refine' r_pcons ?_)
  | (walk_at "al") | (walk_at "up"))
local macro_rules | `(tactic| walk_at "go") => `(tactic| repeat walk_at "st")

section
variable {P : Program} {w : World} {K : PySem.W.Frag} {mg : Str → Option Value} {base : Heap} {f : Addr} {fd : FuncData} {CK CR CT fe NC NF NP TD : Addr}
abbrev NN_make : List Str := ["runtime", "name", "parts", "many", "part"]
theorem tyExt {H H' : Hp} {x : V} {t : Value} (h1 : TyX K H x t) (e : Wc.Ext H H') : TyX K H' x t := by
  cases h1 with
  | base h =>
    refine .base ?_
    cases h with
    | non => exact .non
    | bl b => exact .bl b
    | int i => exact .int i
    | str s => exact .str s
    | flt s => exact .flt s
    | lst h => exact .lst (e _ _ h)
    | frz h => exact .frz (e _ _ h)
    | tup h => exact .tup (e _ _ h)
    | dK h => exact .dK (e _ _ h)
    | dT h => exact .dT (e _ _ h)
    | ins h c a b d g => exact .ins (e _ _ h) c a b d g
  | byt b => exact .byt b
  | set h => exact .set (e _ _ h)
  | kList h c => exact .kList h c
  | kTuple h c => exact .kTuple h c
  | kDict h c => exact .kDict h c
  | fTuple h => exact .fTuple (e _ _ h)
  | fDict h => exact .fDict (e _ _ h)
/-- whether it is a value -/
def IsVal (K : PySem.W.Frag) (CT : Addr) (H : Hp) (x : V) (a : Bool) : Prop := ∃ t b c d, TyX K H x t ∧ PySem.W.kitOne K t (.type "int") = some b ∧ PySem.W.kitOne K t (.type "bool") = some c ∧ PySem.W.kitOne K t (.ref CT) = some d ∧ a = ((b && !c) || d)
theorem IsVal.ext {H H' : Hp} {x : V} {a : Bool} (h : IsVal K CT H x a) (e : Wc.Ext H H') : IsVal K CT H' x a := by
  obtain ⟨t, b, c, d, h1, h2⟩ := h
  exact ⟨t, b, c, d, tyExt h1 e, h2⟩
def spMake (P : Program) (w : World) (K : PySem.W.Frag) (CK CR CT NC NF NP TD : Addr) : Sp := fun vs H Q E => ∃ r kd tl T n nv tn pv tp, vs = [.ref r, nv, pv] ∧ RtAt K CK CR H r kd tl T n ∧ Th K H nv tn ∧ Th K H pv tp ∧
  (clsV T nv = false → ExTo E H NC "name" nv) ∧ (nv = .str "int" → ExTo E H NC "name" nv) ∧
  (∀ z c, nv = .str z → z ≠ "int" → clsV T nv = true → findC T z = some c → c.all.length ≤ 1000 ∧ ((tp = none ∨ ∃ pvs, tp = some pvs ∧ pvs.length ≠ c.all.length) → ExTo E H NP "parts" pv) ∧
    ∀ pvs, tp = some pvs → pvs.length = c.all.length → ∃ bs : List Bool, PySem.Paired (IsVal K CT H) pvs bs ∧ (bs.all id = false → ExTo E H NP "parts" pv) ∧
      (bs.all id = true → TrOk T n ∧ ∃ p ts ls fs sh ks, pv = .ref p ∧ PySem.Paired (FlR H) c.all fs ∧ H p = some (.tup pvs) ∧ TgRs CT H ks pvs ts ls ∧ (∀ t, t ∈ ts → ∃ d, findC T (clsT t) = some d) ∧ ShAt P w CR H r sh ks ∧ ks.length < 80000 ∧
        (∀ i q, fs[i]? = some q → ¬ FitAt T fs ts i → (∀ j, j < i → FitAt T fs ts j) → ExTo E H NF "field" (.str q.1)) ∧
        ((∀ i, FitAt T fs ts i) → 100 < deepM ts + 1 → ∀ H', Wc.Ext H H' → E (.ref TD) none H') ∧
        ((∀ i, FitAt T fs ts i) → deepM ts + 1 ≤ 100 → ∀ a H' ks' k, H a = none → Fr [sh] H H' → Mo H H' → ShAt P w CR H' r sh ks' → (ks' = ks ∨ ks' = ks ++ [kOf z ls]) → TgR CT H' ks' (.ref a) (.th z ts) k → PtAt CT H' a z p → Q (.ref a) H')))
theorem ok_make (F : FnP K "make" s_make f fd) (T : Bt mg) (C : Cs K CK CR) (Ct : CsT K CT fe) (E_NoClass : ErrOk P w K mg base "NoClass" NC "name") (E_NoParts : ErrOk P w K mg base "NoParts" NP "parts")
    (D_check_class : DfOk P w K mg base (L2.CX P w) 3 "check_class" ["runtime", "name"] (spCheck K CK CR NC)) (D_is_value : DfOk P w K mg base CX0 2 "is_value" ["thing"] (spIsV K CT))
    (M_newest : MtOk P w K mg base CX0 1 CR "newest" ["self"] (spNewest K CK CR)) (D_made : DfOk P w K mg base (L2.CX P w) 4 "made" ["runtime", "name", "parts", "world"] (spMade P w K CK CR CT NF TD)) :
    FnOk P w K mg base (L2.CX P w) 5 f fd ["runtime", "name", "parts"] (spMake P w K CK CR CT NC NF NP TD) := by
  refine F.ok sc_make (fun vs H Q E h => ?_) (fun cdv A outer s H vs Q E hr h => ?_)
  · obtain ⟨r, kd, tl, T, n, nv, tn, pv, tp, rfl, _⟩ := h
    rfl
  · refine ⟨_, (pss_cons (ps_expr (pe_callDX (E := E) D_check_class hr (passes_call (takes_of rfl rfl rfl rfl) (fun _ _ _ _ z => z)) (pa_cons (pv 0) (pa_cons (pv 1) pa_nil))))
      (pss_cons (ps_if (pt_cmpR op_eq (pv 1) pe_str (nomark _)) (pss_one (ps_raiseE rfl (takes_of rfl rfl rfl rfl) E_NoClass hr (pv 1))) pss_nil)
      (pss_cons (ps_set (i := 3) sc_make.nd rfl (by first | exact Or.inl rfl | exact Or.inr rfl) (pe_callB call_len_seq (by rfl) T.f_len PySem.boot_len (pa_cons (pe_fld (pe_dget (un1 hr) (pe_fld (pv 0) rfl) (pv 1) (fun _ _ => rfl)) rfl) pa_nil)))
      (pss_cons (ps_if (PW.pt (pw_or (pt_not (pt_val (pe_callB call_isi (by rfl) T.f_isinstance PyProof.Rows.boot_isinstance (pa_cons (pv 2) (pa_cons (pe_bltn (v := .ty "tuple") (by rfl) T.f_tuple PyProof.Rows.boot_tuple rfl) pa_nil))))) (pw_or (pt_cmpR op_ne (pe_callB call_len_seq (by rfl) T.f_len PySem.boot_len (pa_cons (pv 2) pa_nil)) (pv 3) (nomark _)) (pw_or1 (pt_not (pt_val (pe_callB (cr_all rfl) (by rfl) T.f_all PyProof.Rows.boot_all (pa_cons (pe_lc (own := [("part", 4)]) rfl sc_make.nd (pi_tup (pv 2)) (blkOk_by (N := NN_make) (sc := defScope s_make) (by decide +kernel)) (fun _ _ _ _ _ => (pg_name (i := 4) sc_make.nd rfl (by first | exact Or.inl rfl | exact Or.inr rfl))) (fun _ _ _ _ _ => pts_nil) (fun _ _ _ _ _ => (pe_callD D_is_value hr (pa_cons (pv 4) pa_nil)))) pa_nil)))))))) (pss_one (ps_raiseE rfl (takes_of rfl rfl rfl rfl) E_NoParts hr (pv 2))) pss_nil)
      (pss_one (ps_ret (pe_callDX (E := E) D_made hr (passes_call (takes_of rfl rfl rfl rfl) (fun _ _ _ _ z => z)) (pa_cons (pv 0) (pa_cons (pv 1) (pa_cons (pv 2) (pa_cons (pe_methC0 M_newest hr (pv 0)) pa_nil))))))))))), ?_⟩
    obtain ⟨r, kd, tl, T, n, nv, tn, pv, tp, rfl, R, thn, thp, k1, k2, k3⟩ := h
    rw [show L2.start ["runtime", "name", "parts", "many", "part"] [V.ref r, nv, pv] = ([some (V.ref r), some (nv), some (pv), none, none] : List (Option V)) from rfl]
    have kh := KH.start (H := H)
    walk_at "go"
    refine ⟨r, kd, tl, T, n, nv, tn, rfl, R, thn, fun hcv H1 e1 => ?_, fun hcv d H1 e1 hd hx => k1 hcv d H1 e1 hd hx⟩
    have kh1 := KH.start (H := H1)
    obtain ⟨z, rfl, hz⟩ : ∃ z, nv = .str z ∧ (findC T z).isSome = true := by
      cases nv <;> first | (cases hcv; done) | skip
      rename_i z
      have hcv : (nameS z && (findC T z).isSome) = true := hcv
      exact ⟨z, rfl, (He.ba hcv).2⟩
    obtain ⟨c, hc⟩ := Option.isSome_iff_exists.mp hz
    walk_at "go"
    by_cases hzi : z = "int"
    · rw [decide_eq_true (by rw [hzi])]
      walk_at "go"
      exact RsG.mk E_NoClass.o E_NoClass.no ((k2 (by rw [hzi])).ext e1)
    · rw [decide_eq_false (fun q => hzi (V.str.inj q))]
      obtain ⟨hcz, k4, k5⟩ := k3 z c rfl hzi hcv hc
      obtain ⟨⟨dx, fs0, h1, hn1, _⟩, ⟨kvs, h2, bn⟩, _⟩ := id R
      obtain ⟨v, hv, q, dx2, ft, rfl, hq, hft⟩ := bn.some hc
      walk_at "go"
      refine FldAt.mk (e1 _ _ h1) C.r C.r_kinds rfl ?_
      walk_at "go"
      refine dget_mk (rd_ext h2 e1) hv ?_
      refine FldAt.mk (e1 _ _ hq) C.k C.k_fields rfl ?_
      walk_at "go"
      refine ⟨ft, c.all, rfl, .inr (hft.ext e1).t, ?_⟩
      have thp1 := th_ext thp e1
      obtain ⟨ty, t1, t2, t3⟩ := thp1.ty
      walk_at "go"
      refine r_isi (.ty _) t1 t3 ?_
      cases tp with
      | none =>
        walk_at "go"
        exact RsG.mk E_NoParts.o E_NoParts.no ((k4 (.inl rfl)).ext e1)
      | some pvs =>
        obtain ⟨a, rfl, ha⟩ := thp1.tup pvs rfl
        walk_at "go"
        refine ⟨a, pvs, rfl, .inr ha.t, ?_⟩
        walk_at "go"
        by_cases hl : pvs.length = c.all.length
        · rw [show decide (V.int ((pvs.length : Nat) : Int) = V.int ((c.all.length : Nat) : Int)) = true from decide_eq_true (by rw [hl])]
          obtain ⟨bs, hbs, kb, kg⟩ := k5 pvs rfl hl
          have hbl : pvs.length = bs.length := Paired.length hbs
          walk_at "go"
          refine ⟨a, rfl, ⟨_, ha.t⟩, ?_⟩
          refine lcJ (walk_tup (xs := pvs)) (fun i => bs[i]?.map V.bl) (by omega) (fun _ e => (ha.ext e).t) ?_ ?_
          · rintro i x H2 H3 R' N' hi e2 ⟨rfl, hx⟩ hR hN
            obtain ⟨b, hb, t, bb, cc, dd, g1, g2, g3, g4, g5⟩ := paired_get1 hbs hx
            walk_at "go"
            refine ⟨rfl, ?_⟩
            walk_at "go"
            refine ⟨x, t, bb, cc, dd, rfl, tyExt g1 (e1.trans e2), g2, g3, g4, ?_⟩
            exact hR _ _ (by rw [hb, ← g5] <;> rfl) (Wc.Ext.refl _)
          · intro q2 H2 nq e2 hl1
            rw [hbl, range_mapG] at hl1
            walk_at "go"
            refine ⟨q2, bs, rfl, SqL.of hl1, ?_⟩
            have e02 := e1.trans e2
            cases hba : bs.all id with
            | false =>
              walk_at "go"
              exact RsG.mk E_NoParts.o E_NoParts.no ((kb hba).ext e02)
            | true =>
              obtain ⟨O, p, ts, ls, fs, sh, ks, ep, hfs, hp, hts, hcl, S, hkz, m1, m2, m3⟩ := kg hba
              cases ep
              walk_at "go"
              refine ⟨r, dx, _, rfl, e02 _ _ h1, hn1, ?_⟩
              walk_at "go"
              refine ⟨r, kd, tl, T, n, rfl, R.ext e02, ?_⟩
              walk_at "go"
              refine ⟨r, kd, tl, T, n, z, a, pvs, ts, ls, fs, c, sh, ks, rfl, R.ext e02, O, hc, Paired.mapP hfs fun _ _ z => z.mo e02.mo, e02 _ _ hp, TgRs.mo e02.mo ⟨[], (List.append_nil _).symm⟩ _ _ _ hts, hl.symm, by omega, hcl, ?_, hkz, ?_, ?_, ?_⟩
              · obtain ⟨⟨dxs, fss, g1, g2⟩, g3, g4, g5⟩ := S
                exact ⟨⟨dxs, fss, e02 _ _ g1, g2⟩, g3.fr e02.mo (fun o z _ => e02 _ _ z), g4, g5⟩
              · intro i q h1 h2 h3
                exact (m1 i q h1 h2 h3).ext e02
              · intro h1 h2 H' e'
                exact m2 h1 h2 H' (e02.trans e')
              · intro h1 h2 a' H' ks' k ha' fr mo S' hk hT hP
                walk_at "go"
                exact m3 h1 h2 a' H' ks' k (e02.free ha') (e02.fr.trans fr) (e02.mo.trans mo) S' hk hT hP
        · rw [show decide (V.int ((pvs.length : Nat) : Int) = V.int ((c.all.length : Nat) : Int)) = false from decide_eq_false (fun q => hl (by have := V.int.inj q; omega))]
          walk_at "go"
          exact RsG.mk E_NoParts.o E_NoParts.no ((k4 (.inr ⟨pvs, rfl, hl⟩)).ext e1)
end
end K03


set_option Elab.async false
set_option linter.all false
set_option maxRecDepth 100000
set_option maxHeartbeats 4000000
namespace K03
open PySem PySem.Spec PyProof.Rows L2 Wc
local macro_rules | `(tactic| walk_at "lk") => `(tactic| first | with_reducible exact Look.here | (with_reducible apply Look.there; walk_at "lk"))
local macro_rules | `(tactic| walk_at "ul") => `(tactic| first | with_reducible exact UpL.here | (with_reducible apply UpL.there; walk_at "ul"))
local macro_rules | `(tactic| walk_at "ga") => `(tactic| first | exact GetAt.here | (apply GetAt.there; walk_at "ga"))
local macro_rules | `(tactic| walk_at "sa") => `(tactic| first | exact SetAt.here | (apply SetAt.there; walk_at "sa"))
local macro_rules | `(tactic| walk_at "hp") => `(tactic| first | assumption | (refine' KH.find ?k ?h; (case k => assumption); (case h => walk_at "lk")))
local macro_rules | `(tactic| walk_at "sql") => `(tactic| first | assumption | (refine' SqL.of ?h; (case h => walk_at "hp")) | (refine' Fr.sql (KH.fr ?k) ?n ?h; (case k => assumption); (case h => assumption); (case n => (simp; done))))
local macro_rules | `(tactic| walk_at "sqt") => `(tactic| first | assumption | (refine' SqT.of ?h; (case h => walk_at "hp")))
local macro_rules | `(tactic| walk_at "side") => `(tactic| first | exact (show (0 : Int) < _ by decide) | exact (show (0 : Int) < _ by omega) | exact ⟨by decide, by decide, by decide⟩ | exact ⟨by decide, by decide, by omega⟩ | exact ⟨by decide, by decide⟩ | exact ⟨by omega, by omega⟩ | exact Or.inl ⟨by omega, by omega⟩ | exact Or.inr ⟨by omega, by omega⟩)
local macro_rules | `(tactic| walk_at "siz") => `(tactic| first | (refine sz_of ?_; first | decide | omega | (simp; done) | (simp; omega)) | (refine sz_lt ?_; first | decide | omega | (simp; done) | (simp; omega)))
local macro_rules | `(tactic| walk_at "own") => `(tactic| first | (exact Or.inr (by assumption)) | (refine Or.inl ?_; simp; done))
local macro_rules | `(tactic| walk_at "al") => `(tactic| (refine' AllocO.mk ?k ?_; (case k => assumption); intro _ _ _ _))
local macro_rules | `(tactic| walk_at "up") => `(tactic| (refine' UpdO.mk ?k ?h ?m ?_; (case k => assumption); (case h => walk_at "ul"); (case m => walk_at "own"); intro _ _))
local macro_rules | `(tactic| walk_at "st") => `(tactic| first
  | ((with_reducible refine' r_var ?h ?_); (case h => walk_at "ga"))
  | (with_reducible refine' r_seq ?_) | (with_reducible refine' r_next ?_) | (with_reducible refine' r_asg ?_) | (with_reducible refine' r_drop ?_) | (with_reducible refine' r_ret ?_) | (with_reducible refine' r_retN ?_)
  | (with_reducible refine' r_ifs ?_) | (with_reducible refine' r_cont ?_) | (with_reducible refine' r_break ?_) | (with_reducible refine' r_c ?_) | (with_reducible refine' r_op ?_) | (with_reducible refine' r_un ?_)
  | (with_reducible refine' r_test ?_) | (with_reducible refine' r_tB ?_) | (with_reducible refine' r_not ?_) | (with_reducible refine' r_and ?_) | (with_reducible refine' r_or ?_) | (with_reducible refine' r_notV ?_)
  | (with_reducible refine' r_andV ?_) | (with_reducible refine' r_orV ?_) | (with_reducible refine' r_ifE ?_) | (with_reducible refine' r_bl ?_) | (with_reducible refine' r_nil ?_) | (with_reducible refine' r_cons ?_)
  | (with_reducible refine' r_tup ?_) | (with_reducible refine' r_lst ?_) | (with_reducible refine' r_cb ?_) | (with_reducible refine' r_call ?_) | ((with_reducible refine' r_name ?h ?_); (case h => walk_at "sa")) | (with_reducible refine' r_gnil ?_)
  | (with_reducible refine' r_gcons ?_) | (with_reducible refine' r_gsub ?_) | (with_reducible refine' r_par ?_) | (with_reducible refine' r_par2 ?_) | (with_reducible refine' r_I0 ?_) | (with_reducible refine' r_U ?_)
  | ((with_reducible refine' r_eq ?h ?_); (case h => rfl)) | ((with_reducible refine' r_ne ?h ?_); (case h => rfl))
  | ((with_reducible refine' r_ixL ?h ?a ?_); (case h => walk_at "sql"); (case a => rfl))
  | ((with_reducible refine' r_ixT ?h ?a ?_); (case h => walk_at "sqt"); (case a => rfl))
  | ((with_reducible refine' r_setL ?h ?a ?_); (case h => walk_at "hp"); (case a => rfl))
  | ((with_reducible refine' r_I ?c ?_); (case c => walk_at "side"))
  | (with_reducible refine' r_sl ?_) | (with_reducible refine' r_part ?_) | (with_reducible refine' r_nopart ?_) | (with_reducible refine' r_ii ?_)
  | ((with_reducible refine' r_slL ?h ?_); (case h => walk_at "sql"))
  | (with_reducible refine' r_bm ?_) | (with_reducible refine' r_bm0 ?_) | (with_reducible refine' r_int1 ?_) | (with_reducible refine' r_int1b ?_)
  | ((with_reducible refine' r_aug ?h ?_); (case h => walk_at "ga"))
  | ((with_reducible refine' r_cat ?a ?b ?z ?_); (case a => walk_at "hp"); (case b => walk_at "hp"); (case z => walk_at "siz"))
  | ((with_reducible refine' r_append ?a ?z ?_); (case a => walk_at "hp"); (case z => walk_at "siz"))
  | ((with_reducible refine' And.intro ?z ?_); (case z => first | walk_at "siz" | exact Or.inl ⟨rfl, _, by walk_at "sql"⟩))
  | ((with_reducible refine' r_gtup ?h ?l ?_); (case h => walk_at "sqt"); (case l => rfl))
  | (with_reducible refine' r_forL ?_) | (with_reducible refine' r_forE ?_) | (with_reducible refine' r_forR ?_) | ((with_reducible refine' r_forL2 ?h ?_); (case h => walk_at "sql")) | ((with_reducible refine' r_forE2 ?h ?_); (case h => walk_at "sql"))
  | (with_reducible refine' r_lcR ?_) | ((with_reducible refine' r_iteT ?h ?_); (case h => rfl)) | ((with_reducible refine' r_iteF ?h ?_); (case h => rfl))
  | (with_reducible refine' r_dnew ?_) | (with_reducible refine' r_vei ?_) | (with_reducible refine' r_ost ?_) | (with_reducible refine' r_mkV ?_) | (with_reducible refine' r_mkX ?_) | (with_reducible refine' r_xfld ?_)
  | ((with_reducible refine' MkG.mk ?o ?n ?k ?_); (case o => exact ErrOk.o (by assumption)); (case n => exact ErrOk.no (by assumption)); (case k => assumption); intro _ _ _ _)
  | ((with_reducible refine' AllocX.mk ?k ?_); (case k => assumption); intro _ _ _ _)
  | (with_reducible refine' r_chain ?_) | (with_reducible refine' r_lcS ?_) | (with_reducible refine' r_lcS2 ?_) | (with_reducible refine' r_lcL ?_) | (with_reducible refine' r_lcT ?_) | (with_reducible refine' r_lcI ?_) | (with_reducible refine' r_yes ?_)
  | (with_reducible refine' r_fld ?_) | (with_reducible refine' r_sfld ?_) | (with_reducible refine' r_meth ?_) | (with_reducible refine' r_make ?_) | (with_reducible refine' r_dget ?_) | (with_reducible refine' r_din ?_) | (with_reducible refine' r_dput ?_)
  | ((with_reducible refine' r_disp ?k ?_); (case k => assumption); intro _ _ _ _) | (with_reducible refine' r_pnil ?_) | (with_reducible refine' r_pcons ?_)
  | (walk_at "al") | (walk_at "up"))
local macro_rules | `(tactic| walk_at "go") => `(tactic| repeat walk_at "st")

/-- a well: its list of three, so many draws at most -/
def wl (a b c : Int) : HO := .lst [.int a, .int b, .int c]
def WellOk (n : Nat) (b c : Int) : Prop := 0 ≤ b ∧ b < 2147483647 ∧ 0 ≤ c ∧ c ≤ n
def spWell : Sp := fun vs H Q _ => ∃ i : Int, vs = [.int i] ∧ ∀ (a b : Int), WellOk 0 b 0 → AllocO (wl a b 0) Q H
def spDraw : Sp := fun vs H Q _ => ∃ (p : Addr) (m a b c : Int) (n : Nat), vs = [.ref p, .int m] ∧ 0 < m ∧ m < 1073741824 ∧ H p = some (wl a b c) ∧ WellOk n b c ∧ n ≤ 1000000000 ∧
  ∀ (d a' c' : Int) (H' : Hp), 0 ≤ d → d < m → WellOk (n + 1) b c' → Fr [p] H H' → H' p = some (wl a' b c') → Q (.int d) H'
section
variable {P : Program} {w : World} {K : PySem.W.Frag} {mg : Str → Option Value} {base : Heap} {f : Addr} {fd : FuncData}
theorem ok_well (F : FnP K "_law_well" s_l_well f fd) (T : Bt mg) : FnOk P w K mg base CX0 1 f fd ["_law_cell"] spWell := by
  refine F.ok sc_l_well (fun vs H Q E h => ?_) (fun cdv A outer s H vs Q E hr h => ?_)
  · obtain ⟨i, rfl, _⟩ := h
    rfl
  · refine ⟨_, PSs.nox (pss_one (ps_ret (pe_lst (pa_cons (pe_op op_mul (pv 0) (pe_callTy call_int1 (by rfl) T.f_int PyProof.Rows.boot_int (pa_cons (pe_cmpR op_ge (pv 0) (pe_op op_pow pe_int pe_int) (nomark _)) pa_nil))) (pa_cons (pe_op op_mod (pe_callTy call_int1 (by rfl) T.f_int PyProof.Rows.boot_int (pa_cons (pv 0) pa_nil)) pe_int) (pa_cons pe_int pa_nil)))))), ?_⟩
    obtain ⟨i, rfl, k⟩ := h
    rw [show L2.start ["_law_cell"] [V.int i] = ([some (V.int i)] : List (Option V)) from rfl]
    have hb : (if decide ((10 : Int) ^ (18 : Int).toNat ≤ i) = true then (1 : Int) else 0) = 0 ∨ (if decide ((10 : Int) ^ (18 : Int).toNat ≤ i) = true then (1 : Int) else 0) = 1 := by
      split
      · exact .inr rfl
      · exact .inl rfl
    walk_at "go"
    exact k _ _ ⟨by omega, by omega, by decide, by decide⟩
theorem primes_at (c : Int) : ∃ q : Int, atI [V.int 2147483647, V.int 2147483629, V.int 2147483587, V.int 2147483579, V.int 2147483563, V.int 2147483549, V.int 2147483543] (c % 7) = some (.int q) ∧ 2147483543 ≤ q ∧ q ≤ 2147483647 := by
  have h0 := Int.emod_nonneg c (show (7 : Int) ≠ 0 by decide)
  have h1 := Int.emod_lt_of_pos c (show (0 : Int) < 7 by decide)
  generalize c % 7 = r at h0 h1
  have h : r = 0 ∨ r = 1 ∨ r = 2 ∨ r = 3 ∨ r = 4 ∨ r = 5 ∨ r = 6 := by omega
  rcases h with h | h | h | h | h | h | h <;> subst h <;> exact ⟨_, rfl, by decide, by decide⟩
theorem ok_draw (F : FnP K "_law_draw" s_l_draw f fd) (T : Bt mg) : FnOk P w K mg base CX0 1 f fd ["_law_well_here", "_law_many"] spDraw := by
  refine F.ok sc_l_draw (fun vs H Q E h => ?_) (fun cdv A outer s H vs Q E hr h => ?_)
  · obtain ⟨p, m, a, b, c, n, rfl, _⟩ := h
    rfl
  · refine ⟨_, PSs.nox (pss_cons (ps_if (pt_cmpR op_gt (pe_ix ix_list (pv 0) pe_int (fun _ _ => rfl)) pe_int (nomark _)) (pss_cons (ps_set (i := 2) sc_l_draw.nd rfl (by first | exact Or.inl rfl | exact Or.inr rfl) (pe_op op_mod (pe_callTy call_int1 (by rfl) T.f_int PyProof.Rows.boot_int (pa_cons (pe_ix ix_list (pv 0) pe_int (fun _ _ => rfl)) pa_nil)) (pv 1)))
      (pss_cons (ps_asg (pe_op op_fdiv (pe_ix ix_list (pv 0) pe_int (fun _ _ => rfl)) (pv 1)) (pg_sub (pv 0) pe_int set_list))
      (pss_one (ps_ret (pv 2))))) pss_nil)
      (pss_cons (ps_asg (pe_op op_add (pe_ix ix_list (pv 0) pe_int (fun _ _ => rfl)) pe_int) (pg_sub (pv 0) pe_int set_list))
      (pss_cons (ps_set (i := 3) sc_l_draw.nd rfl (by first | exact Or.inl rfl | exact Or.inr rfl) (pe_ix ix_list (pe_lst (pa_cons pe_int (pa_cons pe_int (pa_cons pe_int (pa_cons pe_int (pa_cons pe_int (pa_cons pe_int (pa_cons pe_int pa_nil)))))))) (pe_op op_mod (pe_callTy call_int1 (by rfl) T.f_int PyProof.Rows.boot_int (pa_cons (pe_ix ix_list (pv 0) pe_int (fun _ _ => rfl)) pa_nil)) pe_int) (fun _ _ => rfl)))
      (pss_cons (ps_set (i := 4) sc_l_draw.nd rfl (by first | exact Or.inl rfl | exact Or.inr rfl) (pe_op op_mod (pe_callTy call_int1 (by rfl) T.f_int PyProof.Rows.boot_int (pa_cons (pe_op op_pow (pe_op op_add (pe_op op_add (pe_ix ix_list (pv 0) pe_int (fun _ _ => rfl)) (pe_op op_mul pe_int (pe_ix ix_list (pv 0) pe_int (fun _ _ => rfl)))) pe_int) pe_int) pa_nil)) (pv 3)))
      (pss_cons (ps_set (i := 4) sc_l_draw.nd rfl (by first | exact Or.inl rfl | exact Or.inr rfl) (pe_op op_mod (pe_callTy call_int1 (by rfl) T.f_int PyProof.Rows.boot_int (pa_cons (pe_op op_mul (pe_op op_add (pv 4) (pe_ix ix_list (pv 0) pe_int (fun _ _ => rfl))) (pe_op op_add (pe_op op_fdiv (pv 4) pe_int) pe_int)) pa_nil)) (pv 3)))
      (pss_one (ps_ret (pe_op op_mod (pe_callTy call_int1 (by rfl) T.f_int PyProof.Rows.boot_int (pa_cons (pe_op op_fdiv (pv 4) pe_int) pa_nil)) (pv 1))))))))), ?_⟩
    obtain ⟨p, m, a, b, c, n, rfl, m0, m1, hp, ⟨b0, b1, c0, c1⟩, hn, k⟩ := h
    rw [show L2.start ["_law_well_here", "_law_many", "_law_digit", "_law_prime", "_law_number"] [V.ref p, V.int m] = ([some (V.ref p), some (V.int m), none, none, none] : List (Option V)) from rfl]
    have kh := KH.start1 hp
    walk_at "go"
    split
    · walk_at "go"
      rename_i H1 k1
      exact k _ _ _ H1 (Int.emod_nonneg _ (by omega)) (Int.emod_lt_of_pos _ m0) ⟨b0, b1, c0, by omega⟩ k1.fr (k1.find .here)
    · walk_at "go"
      rename_i H1 k1 p2 H2 n2 k2
      obtain ⟨q, hq, q0, q1⟩ := primes_at (c + 1)
      refine r_ixL (SqL.of (k2.find .here)) hq ?_
      walk_at "go"
      have x0 := Int.emod_nonneg ((b + 7919 * (c + 1) + 1) ^ Int.toNat 5) (show q ≠ 0 by omega)
      have x1 := Int.emod_lt_of_pos ((b + 7919 * (c + 1) + 1) ^ Int.toNat 5) (show 0 < q by omega)
      generalize (b + 7919 * (c + 1) + 1) ^ Int.toNat 5 % q = x at x0 x1 ⊢
      walk_at "go"
      exact k _ _ _ H2 (Int.emod_nonneg _ (by omega)) (Int.emod_lt_of_pos _ m0) ⟨b0, b1, by omega, by omega⟩ k2.fr (k2.find (.there .here))
/-- one of these: its place by a draw -/
def spOne (K : PySem.W.Frag) : Sp := fun vs H Q _ => ∃ (p l : Addr) (xs : List V) (a b c : Int) (n : Nat), vs = [.ref p, .ref l] ∧ H p = some (wl a b c) ∧ SqL K H l xs ∧ 0 < xs.length ∧ xs.length ≤ 1000000 ∧ p ≠ l ∧ WellOk n b c ∧ n ≤ 1000000000 ∧
  ∀ (x : V) (a' c' : Int) (H' : Hp), x ∈ xs → WellOk (n + 1) b c' → Fr [p] H H' → H' p = some (wl a' b c') → Q x H'
theorem ok_one (F : FnP K "_law_one" s_l_one f fd) (T : Bt mg) (D_l_draw : DfOk P w K mg base CX0 1 "_law_draw" ["_law_well_here", "_law_many"] spDraw) : FnOk P w K mg base CX0 2 f fd ["_law_well_here", "_law_some"] (spOne K) := by
  refine F.ok sc_l_one (fun vs H Q E h => ?_) (fun cdv A outer s H vs Q E hr h => ?_)
  · obtain ⟨p, l, xs, a, b, c, n, rfl, _⟩ := h
    rfl
  · refine ⟨_, PSs.nox (pss_one (ps_ret (pe_ix ix_list (pv 1) (pe_callD D_l_draw hr (pa_cons (pv 0) (pa_cons (pe_callB call_len (by rfl) T.f_len PySem.boot_len (pa_cons (pv 1) pa_nil)) pa_nil))) (fun _ _ => rfl)))), ?_⟩
    obtain ⟨p, l, xs, a, b, c, n, rfl, hp, hl, x0, x1, ne, wo, hn, k⟩ := h
    rw [show L2.start ["_law_well_here", "_law_some"] [V.ref p, V.ref l] = ([some (V.ref p), some (V.ref l)] : List (Option V)) from rfl]
    walk_at "go"
    refine ⟨_, _, rfl, .inl ⟨xs, hl, rfl⟩, ?_⟩
    walk_at "go"
    refine ⟨p, xs.length, a, b, c, n, rfl, by omega, by omega, hp, wo, hn, fun d a' c' H' d0 d1 wo' e hp' => ?_⟩
    obtain ⟨j, rfl⟩ : ∃ j : Nat, d = (j : Int) := ⟨d.toNat, by omega⟩
    have hj : j < xs.length := by omega
    refine r_ixL (e.sql (by simpa using Ne.symm ne) hl) (atI_nat (List.getElem?_eq_getElem hj)) ?_
    exact k _ a' c' H' (List.getElem_mem hj) wo' e hp'

end
theorem WellOk.up {n m : Nat} {b c : Int} (h : WellOk n b c) (e : n ≤ m) : WellOk m b c := ⟨h.1, h.2.1, h.2.2.1, by have := h.2.2.2; omega⟩
theorem r_par3 {i j l : Nat} {ta : TA} {D : Ends} {σ : L2.St} {H : Hp} (h : ta σ H fun vs H1 => ∃ u v w, vs = [u, v, w] ∧ D.nx (((σ.set i (some u)).set j (some v)).set l (some w)) H1) : tPar3 i j l ta D σ H := h
theorem r_repA {K : PySem.W.Frag} {l : Addr} {k : Int} {xs : List V} {H : Hp} {Q : VK} (h : H l = some (.tup xs)) (ne : xs ≠ []) (h1 : 1 ≤ k) (h2 : k ≤ 1000) (hz : xs.length ≤ 1000) (q : ∀ c H', Wc.Ext H H' → H' c = some (.tup (List.replicate k.toNat xs).flatten) → Q (.ref c) H') : rRepA K (.ref l) (.int k) H Q :=
  ⟨l, k, xs, rfl, rfl, SqT.of h, ne, h1, h2, hz, fun e => q l H (Wc.Ext.refl _) (by rw [e]; show H l = some (.tup (xs ++ [])); rw [List.append_nil]; exact h), fun _ p hp => q p _ (Wc.Ext.new hp) upd_same⟩
theorem r_catG {K : PySem.W.Frag} {a b : Addr} {xs ys : List V} {H : Hp} {Q : VK} (ha : H a = some (.tup xs)) (hb : H b = some (.tup ys)) (hz : xs.length + ys.length ≤ sizeLine) (q : ∀ c H', Wc.Ext H H' → H' c = some (.tup (xs ++ ys)) → Q (.ref c) H') : rCatA K (.ref a) (.ref b) H Q :=
  ⟨a, b, xs, ys, rfl, rfl, SqT.of ha, SqT.of hb, hz, fun z => q b H (Wc.Ext.refl _) (by rw [z]; exact hb), fun _ z => q a H (Wc.Ext.refl _) (by rw [z, List.append_nil]; exact ha), fun _ _ c hc => q c _ (Wc.Ext.new hc) upd_same⟩
theorem r_slA {K : PySem.W.Frag} {a : Addr} {xs : List V} {lo hi : Option Int} {H : Hp} {Q : VK} (h : H a = some (.tup xs)) (q : ∀ c H', Wc.Ext H H' → H' c = some (.tup (cutV xs lo hi)) → Q (.ref c) H') : rSlA K (.ref a) lo hi H Q :=
  ⟨a, xs, rfl, SqT.of h, fun z => q a H (Wc.Ext.refl _) (by unfold cutV; rw [z.1, z.2]; simpa using h), fun _ p hp => q p _ (Wc.Ext.new hp) upd_same⟩
theorem FrN.outA {A B : List Addr} {H0 H H' : Hp} (e : Wc.FrN B H0 H) (f : Wc.FrN A H H') (n : ∀ a, a ∈ A → a ∈ B ∨ ∀ o, (∀ ps, o ≠ .tbl ps) → H0 a ≠ some o) : Wc.FrN B H0 H' := fun a o b t h => f a o (fun m => (n a m).elim b fun z => z o t h) t (e a o b t h)
theorem Fr.outA {A B : List Addr} {H0 H H' : Hp} (e : Wc.Fr B H0 H) (f : Wc.Fr A H H') (n : ∀ a, a ∈ A → a ∈ B ∨ H0 a = none) : Wc.Fr B H0 H' := fun a o b h => f a o (fun m => (n a m).elim b fun z => by
  rw [z] at h
  cases h) (e a o b h)
theorem none_nn {H0 : Hp} {a : Addr} (h : H0 a = none) : ∀ o, (∀ ps, o ≠ .tbl ps) → H0 a ≠ some o := fun o _ z => by
  rw [h] at z
  cases z
theorem FrN.tup {H H' : Hp} {a : Addr} {xs : List V} (f : Wc.FrN [] H H') (h : H a = some (.tup xs)) : H' a = some (.tup xs) := f _ _ (by simp) (fun _ z => nomatch z) h
theorem op_repAK {X : Cx} (K : PySem.W.Frag) (e : X.K = K := by rfl) : OpR X (binaryOp .Mult) (rRepA K) := by
  subst e
  exact op_repA
theorem op_catAK {X : Cx} (K : PySem.W.Frag) (e : X.K = K := by rfl) : OpR X (binaryOp .Add) (rCatA K) := by
  subst e
  exact op_catA
end K03

set_option Elab.async false
set_option linter.all false
set_option maxRecDepth 100000
set_option maxHeartbeats 4000000
namespace K03
open PySem PySem.Spec PyProof.Rows L2 Wc
local macro_rules | `(tactic| walk_at "lk") => `(tactic| first | with_reducible exact Look.here | (with_reducible apply Look.there; walk_at "lk"))
local macro_rules | `(tactic| walk_at "ul") => `(tactic| first | with_reducible exact UpL.here | (with_reducible apply UpL.there; walk_at "ul"))
local macro_rules | `(tactic| walk_at "ga") => `(tactic| first | exact GetAt.here | (apply GetAt.there; walk_at "ga"))
local macro_rules | `(tactic| walk_at "sa") => `(tactic| first | exact SetAt.here | (apply SetAt.there; walk_at "sa"))
local macro_rules | `(tactic| walk_at "hp") => `(tactic| first | assumption | (refine' KH.find ?k ?h; (case k => assumption); (case h => walk_at "lk")))
local macro_rules | `(tactic| walk_at "sql") => `(tactic| first | assumption | (refine' SqL.of ?h; (case h => walk_at "hp")) | (refine' Fr.sql (KH.fr ?k) ?n ?h; (case k => assumption); (case h => assumption); (case n => (simp; done))))
local macro_rules | `(tactic| walk_at "sqt") => `(tactic| first | assumption | (refine' SqT.of ?h; (case h => walk_at "hp")))
local macro_rules | `(tactic| walk_at "side") => `(tactic| first | exact (show (0 : Int) < _ by decide) | exact (show (0 : Int) < _ by omega) | exact ⟨by decide, by decide, by decide⟩ | exact ⟨by decide, by decide, by omega⟩ | exact ⟨by decide, by decide⟩ | exact ⟨by omega, by omega⟩ | exact Or.inl ⟨by omega, by omega⟩ | exact Or.inr ⟨by omega, by omega⟩)
local macro_rules | `(tactic| walk_at "siz") => `(tactic| first | (refine sz_of ?_; first | decide | omega | (simp; done) | (simp; omega)) | (refine sz_lt ?_; first | decide | omega | (simp; done) | (simp; omega)))
local macro_rules | `(tactic| walk_at "own") => `(tactic| first | (exact Or.inr (by assumption)) | (refine Or.inl ?_; simp; done))
local macro_rules | `(tactic| walk_at "al") => `(tactic| (refine' AllocO.mk ?k ?_; (case k => assumption); intro _ _ _ _))
local macro_rules | `(tactic| walk_at "up") => `(tactic| (refine' UpdO.mk ?k ?h ?m ?_; (case k => assumption); (case h => walk_at "ul"); (case m => walk_at "own"); intro _ _))
local macro_rules | `(tactic| walk_at "st") => `(tactic| first
  | ((with_reducible refine' r_var ?h ?_); (case h => walk_at "ga"))
  | (with_reducible refine' r_seq ?_) | (with_reducible refine' r_next ?_) | (with_reducible refine' r_asg ?_) | (with_reducible refine' r_drop ?_) | (with_reducible refine' r_ret ?_) | (with_reducible refine' r_retN ?_)
  | (with_reducible refine' r_ifs ?_) | (with_reducible refine' r_cont ?_) | (with_reducible refine' r_break ?_) | (with_reducible refine' r_c ?_) | (with_reducible refine' r_op ?_) | (with_reducible refine' r_un ?_)
  | (with_reducible refine' r_test ?_) | (with_reducible refine' r_tB ?_) | (with_reducible refine' r_not ?_) | (with_reducible refine' r_and ?_) | (with_reducible refine' r_or ?_) | (with_reducible refine' r_notV ?_)
  | (with_reducible refine' r_andV ?_) | (with_reducible refine' r_orV ?_) | (with_reducible refine' r_ifE ?_) | (with_reducible refine' r_bl ?_) | (with_reducible refine' r_nil ?_) | (with_reducible refine' r_cons ?_)
  | (with_reducible refine' r_tup ?_) | (with_reducible refine' r_lst ?_) | (with_reducible refine' r_cb ?_) | (with_reducible refine' r_call ?_) | ((with_reducible refine' r_name ?h ?_); (case h => walk_at "sa")) | (with_reducible refine' r_gnil ?_)
  | (with_reducible refine' r_gcons ?_) | (with_reducible refine' r_gsub ?_) | (with_reducible refine' r_par ?_) | (with_reducible refine' r_par2 ?_) | (with_reducible refine' r_I0 ?_) | (with_reducible refine' r_U ?_)
  | ((with_reducible refine' r_eq ?h ?_); (case h => rfl)) | ((with_reducible refine' r_ne ?h ?_); (case h => rfl))
  | ((with_reducible refine' r_ixL ?h ?a ?_); (case h => walk_at "sql"); (case a => rfl))
  | ((with_reducible refine' r_ixT ?h ?a ?_); (case h => walk_at "sqt"); (case a => rfl))
  | ((with_reducible refine' r_setL ?h ?a ?_); (case h => walk_at "hp"); (case a => rfl))
  | ((with_reducible refine' r_I ?c ?_); (case c => walk_at "side"))
  | (with_reducible refine' r_sl ?_) | (with_reducible refine' r_part ?_) | (with_reducible refine' r_nopart ?_) | (with_reducible refine' r_ii ?_)
  | ((with_reducible refine' r_slL ?h ?_); (case h => walk_at "sql"))
  | (with_reducible refine' r_bm ?_) | (with_reducible refine' r_bm0 ?_) | (with_reducible refine' r_int1 ?_) | (with_reducible refine' r_int1b ?_)
  | ((with_reducible refine' r_aug ?h ?_); (case h => walk_at "ga"))
  | ((with_reducible refine' r_cat ?a ?b ?z ?_); (case a => walk_at "hp"); (case b => walk_at "hp"); (case z => walk_at "siz"))
  | ((with_reducible refine' r_append ?a ?z ?_); (case a => walk_at "hp"); (case z => walk_at "siz"))
  | ((with_reducible refine' And.intro ?z ?_); (case z => first | walk_at "siz" | exact Or.inl ⟨rfl, _, by walk_at "sql"⟩))
  | ((with_reducible refine' r_gtup ?h ?l ?_); (case h => walk_at "sqt"); (case l => rfl))
  | (with_reducible refine' r_forL ?_) | (with_reducible refine' r_forE ?_) | (with_reducible refine' r_forR ?_) | ((with_reducible refine' r_forL2 ?h ?_); (case h => walk_at "sql")) | ((with_reducible refine' r_forE2 ?h ?_); (case h => walk_at "sql"))
  | (with_reducible refine' r_lcR ?_) | ((with_reducible refine' r_iteT ?h ?_); (case h => rfl)) | ((with_reducible refine' r_iteF ?h ?_); (case h => rfl))
  | (with_reducible refine' r_dnew ?_) | (with_reducible refine' r_vei ?_) | (with_reducible refine' r_ost ?_) | (with_reducible refine' r_mkV ?_) | (with_reducible refine' r_mkX ?_) | (with_reducible refine' r_xfld ?_)
  | ((with_reducible refine' MkG.mk ?o ?n ?k ?_); (case o => exact ErrOk.o (by assumption)); (case n => exact ErrOk.no (by assumption)); (case k => assumption); intro _ _ _ _)
  | ((with_reducible refine' AllocX.mk ?k ?_); (case k => assumption); intro _ _ _ _)
  | (with_reducible refine' r_chain ?_) | (with_reducible refine' r_lcS ?_) | (with_reducible refine' r_lcS2 ?_) | (with_reducible refine' r_lcL ?_) | (with_reducible refine' r_lcT ?_) | (with_reducible refine' r_lcI ?_) | (with_reducible refine' r_yes ?_)
  | (with_reducible refine' r_fld ?_) | (with_reducible refine' r_sfld ?_) | (with_reducible refine' r_meth ?_) | (with_reducible refine' r_make ?_) | (with_reducible refine' r_dget ?_) | (with_reducible refine' r_din ?_) | (with_reducible refine' r_dput ?_)
  | ((with_reducible refine' r_disp ?k ?_); (case k => assumption); intro _ _ _ _) | (with_reducible refine' r_pnil ?_) | (with_reducible refine' r_pcons ?_)
  | (walk_at "al") | (walk_at "up"))
local macro_rules | `(tactic| walk_at "go") => `(tactic| repeat walk_at "st")

def bkL : List Str := ["a", "b", "c", "d", "e", "f"]
def bkN : List Str := (["any", "int"] : List Str) ++ bkL
theorem bkN_ok : ∀ z, z ∈ bkN → nameS z = true ∧ z.length ≤ 8 ∧ PyData.strOk z = true := by decide +kernel
def fldT : List (Str × List Str) := [("a", ["of", "ofx"]), ("b", ["parts", "partsx"]), ("c", ["deep", "deepx"]), ("d", ["number", "numberx"]), ("e", ["t", "tx"]), ("f", ["self", "selfx"])]
def fldN (z : Str) : List Str := (fldT.lookup z).getD []
theorem fldN_ok : ∀ z, z ∈ bkL → ∀ a, a ∈ fldN z → nameS a = true ∧ a.length ≤ 8 ∧ PyData.strOk a = true := by decide +kernel
theorem fldN_ne : ∀ q, q ∈ bkN → ∀ z, z ∈ bkL → q ≠ z → ∀ a, a ∈ fldN z → a ∉ fldN q := by decide +kernel
theorem fldN_xy : ∀ z, z ∈ bkL → (fldN z).length = 2 ∧ (fldN z).Nodup := by decide +kernel
theorem bkL_N : ∀ z, z ∈ bkL → z ∈ bkN ∧ z ≠ "int" ∧ z ≠ "any" := by decide +kernel
structure BK (T : List Cl) (n : Nat) : Prop where
  nd : (T.map (·.name)).Nodup
  nm : ∀ c, c ∈ T → c.name ∈ bkN
  tl : T.length = n + 2
  al : ∀ c, c ∈ T → c.all.length ≤ 2 * n
  since : ∀ c, c ∈ T → c.since ≤ n
  int : ∃ c, findC T "int" = some c ∧ c.all = []
  any : ∃ c, findC T "any" = some c ∧ c.all = []
  ln : ∀ c, c ∈ T → ∃ l, Line T (some c.name) l ∧ l.length ≤ T.length
theorem BK.find {T : List Cl} {n : Nat} (w : BK T n) {c : Cl} (h : c ∈ T) : findC T c.name = some c := find_of w.nd h
theorem BK.start : BK [⟨"any", none, [], [], 0⟩, ⟨"int", some "any", [], [], 0⟩] 0 := by
  have f1 : findC [⟨"any", none, [], [], 0⟩, ⟨"int", some "any", [], [], 0⟩] "any" = some ⟨"any", none, [], [], 0⟩ := rfl
  have f2 : findC [⟨"any", none, [], [], 0⟩, ⟨"int", some "any", [], [], 0⟩] "int" = some ⟨"int", some "any", [], [], 0⟩ := rfl
  have two : ∀ {P : Cl → Prop}, P ⟨"any", none, [], [], 0⟩ → P ⟨"int", some "any", [], [], 0⟩ → ∀ c, c ∈ [(⟨"any", none, [], [], 0⟩ : Cl), ⟨"int", some "any", [], [], 0⟩] → P c := fun {P} h1 h2 c h => by
    simp at h
    rcases h with rfl | rfl
    · exact h1
    · exact h2
  exact ⟨by decide +kernel, two (by decide +kernel) (by decide +kernel), rfl, two (Nat.zero_le _) (Nat.zero_le _), two (Nat.le_refl _) (Nat.le_refl _), ⟨_, f2, rfl⟩, ⟨_, f1, rfl⟩, two ⟨["any"], .cons f1 .nil, by decide⟩ ⟨["int", "any"], .cons f2 (.cons f1 .nil), by decide⟩⟩
theorem BK.add {T : List Cl} {n : Nat} (w : BK T n) {z p : Str} {c : Cl} {xs : List V} (hz : findC T z = none) (ho : z ∈ bkL) (hp : findC T p = some c) (hx : xs.length ≤ 2) :
    BK (T ++ [⟨z, some p, xs, c.all ++ xs, n + 1⟩]) (n + 1) := by
  have cT := (find_mem hp).1
  have old : ∀ d, d ∈ T ++ [(⟨z, some p, xs, c.all ++ xs, n + 1⟩ : Cl)] → d ∈ T ∨ d = ⟨z, some p, xs, c.all ++ xs, n + 1⟩ := fun d h => by simpa using h
  have zn : z ∉ T.map (·.name) := fun m => by
    obtain ⟨d, hd, e⟩ := List.mem_map.mp m
    have := w.find hd
    rw [e, hz] at this
    cases this
  refine ⟨?_, fun d h => ?_, by rw [List.length_append, w.tl]; rfl, fun d h => ?_, fun d h => ?_, ?_, ?_, fun d h => ?_⟩
  · rw [List.map_append, List.nodup_append]
    refine ⟨w.nd, by simp, fun a ha b hb e => ?_⟩
    simp at hb
    rw [e, hb] at ha
    exact zn ha
  · rcases old d h with h | rfl
    · exact w.nm d h
    · exact (bkL_N z ho).1
  · rcases old d h with h | rfl
    · have := w.al d h
      omega
    · show (c.all ++ xs).length ≤ 2 * (n + 1)
      rw [List.length_append]
      have := w.al c cT
      omega
  · rcases old d h with h | rfl
    · have := w.since d h
      omega
    · exact Nat.le_refl _
  · obtain ⟨d, h, h2⟩ := w.int
    exact ⟨d, find_app h, h2⟩
  · obtain ⟨d, h, h2⟩ := w.any
    exact ⟨d, find_app h, h2⟩
  · rcases old d h with h | rfl
    · obtain ⟨l, h1, h2⟩ := w.ln d h
      exact ⟨l, h1.app, by rw [List.length_append]; omega⟩
    · obtain ⟨l, h1, h2⟩ := w.ln c cT
      rw [(find_mem hp).2] at h1
      exact ⟨z :: l, .cons (find_new (d := ⟨z, some p, xs, c.all ++ xs, n + 1⟩) hz) h1.app, by rw [List.length_append, List.length_cons]; show l.length + 1 ≤ T.length + 1; omega⟩
theorem BK.cls {T : List Cl} {n : Nat} (w : BK T n) {c : Cl} (h : c ∈ T) : clsV T (.str c.name) = true := by
  show (nameS c.name && (findC T c.name).isSome) = true
  rw [(bkN_ok _ (w.nm c h)).1, w.find h] <;> rfl
theorem BK.fresh {T : List Cl} {n : Nat} (w : BK T n) {z : Str} (h : z ∉ T.map (·.name)) : findC T z = none := by
  cases q : findC T z with
  | none => rfl
  | some c =>
    have h1 := find_mem q
    exact absurd (List.mem_map.mpr ⟨c, h1.1, h1.2⟩) h
/-- a field of a class: its name, a class -/
def FlB (H : Hp) (T : List Cl) (x : V) (a : Str) : Prop := ∃ t b, x = .ref t ∧ H t = some (.tup [.str a, .str b]) ∧ (∃ q, q ∈ T.map (·.name) ∧ q ∈ bkL ∧ a ∈ fldN q) ∧ b ∈ T.map (·.name)
theorem FlB.mo {H H' : Hp} {T : List Cl} {x : V} {a : Str} (h : FlB H T x a) (e : Mo H H') : FlB H' T x a := by
  obtain ⟨t, b, rfl, h1, h2, h3⟩ := h
  exact ⟨t, b, rfl, e _ _ rfl h1, h2, h3⟩
theorem FlB.app {H : Hp} {T : List Cl} {x : V} {a : Str} {d : Cl} (h : FlB H T x a) : FlB H (T ++ [d]) x a := by
  obtain ⟨t, b, rfl, h1, ⟨q, h2, h3⟩, h4⟩ := h
  exact ⟨t, b, rfl, h1, ⟨q, by rw [List.map_append]; exact List.mem_append_left _ h2, h3⟩, by rw [List.map_append]; exact List.mem_append_left _ h4⟩
def FlsAt (H : Hp) (T : List Cl) : Prop := ∀ c, c ∈ T → ∃ as, PySem.Paired (FlB H T) c.all as
theorem FlsAt.mo {H H' : Hp} {T : List Cl} (h : FlsAt H T) (e : Mo H H') : FlsAt H' T := fun c hc => by
  obtain ⟨as, h1⟩ := h c hc
  exact ⟨as, Paired.mapP h1 fun _ _ z => z.mo e⟩
theorem pairedApp {α β : Type} {R : α → β → Prop} {a c : List α} {b d : List β} (h : PySem.Paired R a b) (g : PySem.Paired R c d) : PySem.Paired R (a ++ c) (b ++ d) := by
  induction h with
  | nil => exact g
  | cons h _ ih => exact .cons h ih
theorem paired_mem {α β : Type} {R : α → β → Prop} {xs : List α} {ys : List β} (h : PySem.Paired R xs ys) : ∀ y, y ∈ ys → ∃ x, R x y := by
  induction h with
  | nil => intro y hy; cases hy
  | cons r _ ih =>
    intro y hy
    rcases List.mem_cons.mp hy with rfl | hy
    · exact ⟨_, r⟩
    · exact ih y hy
theorem FlsAt.add {H : Hp} {T : List Cl} {c : Cl} {z p : Str} {xs : List V} {bs : List Str} {m : Nat} (h : FlsAt H T) (hc : c ∈ T) (hx : PySem.Paired (FlB H (T ++ [⟨z, some p, xs, c.all ++ xs, m⟩])) xs bs) : FlsAt H (T ++ [⟨z, some p, xs, c.all ++ xs, m⟩]) := fun d hd => by
  rcases List.mem_append.mp hd with hd | hd
  · obtain ⟨as, h1⟩ := h d hd
    exact ⟨as, Paired.mapP h1 fun _ _ z => z.app⟩
  · obtain rfl : d = ⟨z, some p, xs, c.all ++ xs, m⟩ := by simpa using hd
    obtain ⟨as, h1⟩ := h c hc
    exact ⟨as ++ bs, pairedApp (Paired.mapP h1 fun _ _ z => z.app) hx⟩
/-- the names of fields above are none of a new class's own -/
theorem fld_new {H : Hp} {T : List Cl} {n : Nat} (w : BK T n) {xs : List V} {as : List Str} (h : PySem.Paired (FlB H T) xs as) {z : Str} (hz : findC T z = none) (ho : z ∈ bkL) {a : Str} (ha : a ∈ fldN z) : a ∉ as := fun m => by
  obtain ⟨x, t, b, rfl, h1, ⟨q, h2, h3, h4⟩, h5⟩ := paired_mem h a m
  refine fldN_ne q (bkL_N q h3).1 z ho (fun e => ?_) a ha h4
  subst e
  obtain ⟨d, hd, e⟩ := List.mem_map.mp h2
  have := w.find hd
  rw [e, hz] at this
  cases this
theorem r_callN {n m : Nat} {sp : Sp} {gV : List V → List V → List V} {E : XK} {t tk : TA} {σ : L2.St} {H : Hp} {Q : VK} (h : t σ H fun vs H1 => tk σ H1 fun zs H2 => vs.length = n ∧ zs.length = m ∧ sp (gV vs zs) H2 Q E) : L2.tCallN n m sp gV E t tk σ H Q := h
theorem FlB.nm {H : Hp} {T : List Cl} {x : V} {a : Str} (h : FlB H T x a) (hn : ∀ c, c ∈ T → c.name ∈ bkN) : FNm H x a := by
  obtain ⟨t, b, rfl, h1, ⟨q, _, h3, h4⟩, h5⟩ := h
  obtain ⟨d, hd, rfl⟩ := List.mem_map.mp h5
  exact ⟨t, _, rfl, h1, (fldN_ok q h3 a h4).2.2, (bkN_ok _ (hn d hd)).2.2⟩
/-- what add_class sees of drawn fields -/
theorem flc_scan {K : PySem.W.Frag} {H : Hp} {T : List Cl} {n : Nat} (w : BK T n) {z : Str} {xs : List V} {os : List Str} (h : PySem.Paired (FlC H T) xs os) (hos : ∀ a, a ∈ os → a ∈ fldN z) (zb : z ∈ bkL) (nd : os.Nodup) :
    ∃ vw : List Vw, vw.map (·.1) = xs ∧ (∀ q, q ∈ vw → ItemAt K H q) ∧ ∀ as : List Str, (∀ a, a ∈ os → a ∉ as) → scan T (as.map V.str) vw = none := by
  induction h with
  | nil => exact ⟨[], rfl, fun q hq => (by cases hq), fun as _ => rfl⟩
  | @cons x a xs os hx _ ih =>
    obtain ⟨t, b, rfl, h1, h2⟩ := hx
    rw [List.nodup_cons] at nd
    obtain ⟨vw, e1, e2, e3⟩ := ih (fun q hq => hos q (List.mem_cons_of_mem _ hq)) nd.2
    obtain ⟨d, hd, rfl⟩ := List.mem_map.mp h2
    have ao := fldN_ok z zb a (hos a List.mem_cons_self)
    have bo := bkN_ok _ (w.nm d hd)
    refine ⟨(.ref t, some [.str a, .str d.name]) :: vw, by rw [List.map_cons, e1], fun q hq => ?_, fun as has => ?_⟩
    · rcases List.mem_cons.mp hq with rfl | hq
      · refine ⟨.tupl h1, fun ys e => ?_⟩
        cases e
        refine ⟨by simp, fun y hy => ?_⟩
        simp at hy
        rcases hy with rfl | rfl
        · exact ⟨none, .str (by omega)⟩
        · exact ⟨none, .str (by omega)⟩
      · exact e2 q hq
    · have ok : okI T (as.map V.str) (some [.str a, .str d.name]) = true := by
        show (nameV (.str a) && (!inV (.str a) (as.map V.str) && clsV T (.str d.name))) = true
        rw [show nameV (.str a) = true from ao.1, inV_strs', w.cls hd, show as.contains a = false from by
          have := has a List.mem_cons_self
          simpa using this]
        rfl
      show (if okI T (as.map V.str) (some [.str a, .str d.name]) = true then scan T (as.map V.str ++ [.str a]) vw else _) = none
      rw [if_pos ok, show as.map V.str ++ [V.str a] = (as ++ [a]).map V.str by rw [List.map_append] <;> rfl]
      refine e3 (as ++ [a]) fun q hq m => ?_
      rcases List.mem_append.mp m with m | m
      · exact has q (List.mem_cons_of_mem _ hq) m
      · rw [List.mem_singleton.mp m] at hq
        exact nd.1 hq

theorem start2 {H : Hp} {p q : Addr} {o u : HO} (h : H p = some o) (h2 : H q = some u) (n : p ≠ q) : KH H [p, q] [(q, u), (p, o)] H := by
  have k := (KH.start1 h).cons h2 (by simpa using Ne.symm n)
  refine ⟨k.at_, k.nd, k.fr.mono (by simp), fun a ha => ?_⟩
  simp only [List.mem_cons, List.not_mem_nil, or_false] at ha
  rcases ha with rfl | rfl
  · exact ⟨_, h⟩
  · exact ⟨_, h2⟩
/-- the runtime -/
structure Bk0 (K : PySem.W.Frag) (CK CR : Addr) (H : Hp) (r kd tl : Addr) (T : List Cl) (n : Nat) : Prop where
  bk : BK T n
  R : RtW K CK CR H r kd tl T n
  fl : FlsAt H T
  tls : ∃ ts, H tl = some (.lst ts) ∧ ts.length = n + 1
theorem Bk0.frn {K : PySem.W.Frag} {CK CR : Addr} {A : List Addr} {H H' : Hp} {r kd tl : Addr} {T : List Cl} {n : Nat} (B : Bk0 K CK CR H r kd tl T n) (f : Wc.FrN A H H') (m : Mo H H') (h1 : kd ∉ A) (h2 : tl ∉ A) : Bk0 K CK CR H' r kd tl T n := by
  obtain ⟨b1, b2, b3, ts, b4, b5⟩ := B
  exact ⟨b1, b2.frn f m h1 h2, b3.mo m, ts, f _ _ h2 (fun _ z => nomatch z) b4, b5⟩
/-- the classes in order -/
def lets : List Str := ["a", "b", "c", "d", "e", "f"]
def eight (n : Nat) : List Str := "any" :: "int" :: lets.take n
def nmL (n : Nat) : List Str := "any" :: lets.take n
theorem let_at : ∀ i, i < 6 → ∃ z, lets[i]? = some z ∧ z ∈ bkL ∧ z ∉ eight i ∧ nmL (i + 1) = nmL i ++ [z] ∧ eight (i + 1) = eight i ++ [z] ∧ (∀ y, y ∈ nmL i → y ∈ eight i ∧ y ≠ "int") ∧ ∃ u, (["of", "parts", "deep", "number", "t", "self"] : List Str)[i]? = some u ∧ fldN z = [u ++ "", u ++ "x"] ∧ u.length ≤ 8 := fun i hi => by
  have h : i = 0 ∨ i = 1 ∨ i = 2 ∨ i = 3 ∨ i = 4 ∨ i = 5 := by omega
  rcases h with rfl | rfl | rfl | rfl | rfl | rfl <;> exact ⟨_, rfl, by decide +kernel, by decide +kernel, by decide +kernel, by decide +kernel, by decide +kernel, _, rfl, by decide +kernel, by decide⟩
abbrev NN_l_tree : List Str := ["_law_well_here", "_law_runtime", "_law_names", "_law_k", "_law_name", "_law_some", "_law_j", "_law_word"]
section
variable {P : Program} {w : World} {K : PySem.W.Frag} {mg : Str → Option Value} {base : Heap} {f : Addr} {fd : FuncData} {CK CR NC TK NF tF : Addr}
def spLTree (K : PySem.W.Frag) (CK CR : Addr) : Sp := fun vs H Q _ => ∃ pw r kd tl a b c N, vs = [.ref pw, .ref r] ∧ H pw = some (wl a b c) ∧ WellOk N b c ∧ N ≤ 10000000 ∧ Bk0 K CK CR H r kd tl T0 0 ∧ pw ≠ kd ∧ pw ≠ tl ∧ kd ≠ tl ∧
  ∀ T n l a' c' H', 1 ≤ n → n ≤ 6 → Bk0 K CK CR H' r kd tl T n → T.map (·.name) = eight n → H l = none → H' l = some (.lst ((nmL n).map V.str)) → H' pw = some (wl a' b c') → WellOk (N + 40) b c' → Wc.Fr [pw, kd, tl] H H' → Q (.ref l) H'
theorem ok_ltree {fa : Addr} {fdA : FuncData} (F : FnP K "_law_tree" s_l_tree f fd) (T : Bt mg) (D_l_draw : DfOk P w K mg base CX0 1 "_law_draw" ["_law_well_here", "_law_many"] spDraw)
    (D_l_one : DfOk P w K mg base CX0 2 "_law_one" ["_law_well_here", "_law_some"] (spOne K)) (gA : mg "add_class" = some (.ref fa)) (kpA : PySem.W.keepIn K (.ref fa) = true) (KB : KBn K fdA ["runtime", "name", "parent", "fields"] 3 ["fields"] (fun us ws => us ++ ws) (fun vs zs => vs ++ zs))
    (FA : FnOk P w K mg base (L2.CX P w) 4 fa fdA ["runtime", "name", "parent", "fields"] (spAdd K CK CR NC TK NF)) : FnOk P w K mg base CX0 5 f fd ["_law_well_here", "_law_runtime"] (spLTree K CK CR) := by
  refine F.ok sc_l_tree (fun vs H Q E h => ?_) (fun cdv A outer s H vs Q E hr h => ?_)
  · obtain ⟨pw, r, kd, tl, a, b, c, N, rfl, _⟩ := h
    rfl
  · refine ⟨_, PSs.nox (pss_cons (ps_set (i := 2) sc_l_tree.nd rfl (by first | exact Or.inl rfl | exact Or.inr rfl) (pe_lst (pa_cons pe_str pa_nil)))
      (pss_cons (ps_for PassesOwn.never rfl (pi_range1 (by rfl) T.f_range (pa_cons (pe_op op_add pe_int (pe_callD D_l_draw hr (pa_cons (pv 0) (pa_cons pe_int pa_nil)))) pa_nil)) (pg_name (i := 3) sc_l_tree.nd rfl (by first | exact Or.inl rfl | exact Or.inr rfl)) (pss_cons (ps_set (i := 4) sc_l_tree.nd rfl (by first | exact Or.inl rfl | exact Or.inr rfl) (pe_ix ix_list (pe_lst (pa_cons pe_str (pa_cons pe_str (pa_cons pe_str (pa_cons pe_str (pa_cons pe_str (pa_cons pe_str pa_nil))))))) (pv 3) (fun _ _ => rfl)))
      (pss_cons (ps_set (i := 5) sc_l_tree.nd rfl (by first | exact Or.inl rfl | exact Or.inr rfl) (pe_lst pa_nil))
      (pss_cons (ps_for PassesOwn.never rfl (pi_range1 (by rfl) T.f_range (pa_cons (pe_callD D_l_draw hr (pa_cons (pv 0) (pa_cons pe_int pa_nil))) pa_nil)) (pg_name (i := 6) sc_l_tree.nd rfl (by first | exact Or.inl rfl | exact Or.inr rfl)) (pss_cons (ps_set (i := 7) sc_l_tree.nd rfl (by first | exact Or.inl rfl | exact Or.inr rfl) (pe_op op_add_str (pe_ix ix_list (pe_lst (pa_cons pe_str (pa_cons pe_str (pa_cons pe_str (pa_cons pe_str (pa_cons pe_str (pa_cons pe_str pa_nil))))))) (pv 3) (fun _ _ => rfl)) (pe_ix ix_list (pe_lst (pa_cons pe_str (pa_cons pe_str pa_nil))) (pv 6) (fun _ _ => rfl))))
      (pss_one (ps_expr (pe_bm PySem.F.plainAttrs_list PySem.F.slot_list_append PySem.F.type_list_append mt_append (pv 5) (pa_cons (pe_tup (pa_cons (pv 7) (pa_cons (pe_callD D_l_one hr (pa_cons (pv 0) (pa_cons (pe_op op_cat (pv 2) (pe_lst (pa_cons pe_str (pa_cons pe_str pa_nil)))) pa_nil))) pa_nil))) pa_nil))))))
      (pss_cons (ps_expr (pe_callN FA hr (by rfl) gA kpA KB (by first | exact pass0 | exact passL) (pa_cons (pv 1) (pa_cons (pv 4) (pa_cons (pe_callD D_l_one hr (pa_cons (pv 0) (pa_cons (pv 2) pa_nil))) pa_nil))) (pk_cons (pe_callTy call_tuple_of (by rfl) T.f_tuple PyProof.Rows.boot_tuple (pa_cons (pv 5) pa_nil)) pk_nil)))
      (pss_one (ps_expr (pe_bm PySem.F.plainAttrs_list PySem.F.slot_list_append PySem.F.type_list_append mt_append (pv 2) (pa_cons (pv 4) pa_nil)))))))))
      (pss_one (ps_ret (pv 2))))), ?_⟩
    obtain ⟨pw, r, kd, tl, a, b, c, N, rfl, hpw, wo, hN, B, npk, npt, nkt, k⟩ := h
    rw [show L2.start ["_law_well_here", "_law_runtime", "_law_names", "_law_k", "_law_name", "_law_some", "_law_j", "_law_word"] [V.ref pw, V.ref r] = ([some (V.ref pw), some (V.ref r), none, none, none, none, none, none] : List (Option V)) from rfl]
    have kh := KH.start1 hpw
    walk_at "go"
    rename_i ln H1 n1 k1
    have hln1 := k1.find (p := ln) .here
    refine ⟨pw, 6, a, b, c, N, rfl, by decide, by decide, k1.find (by walk_at "lk"), wo, by omega, fun d a2 c2 H2 d0 d1 wo2 f2 h2 => ?_⟩
    obtain ⟨dn, rfl⟩ : ∃ dn : Nat, d = dn := ⟨d.toNat, by omega⟩
    have f02 : Wc.Fr [pw] H H2 := k1.fr.trans f2
    have m02 : Mo H H2 := Mo.fr1 f02 hpw rfl
    have B2 := B.frn f02.n m02 (by simpa using Ne.symm npk) (by simpa using Ne.symm npt)
    have nlp : ln ≠ pw := (ne_of_none hpw n1).symm
    have hln2 := f2 _ _ (by simpa using nlp) hln1
    have nlk : ln ≠ kd := by
      obtain ⟨kv, h⟩ := B.R.kd
      exact (ne_of_none h n1).symm
    have nlt : ln ≠ tl := by
      obtain ⟨ts, h, _⟩ := B.tls
      exact (ne_of_none h n1).symm
    clear kh k1
    have k2 := KH.start (H := H2)
    walk_at "go"
    refine ⟨_, rfl, by omega, by omega, ?_⟩
    refine ForR.mk (n := (1 + (dn : Int)).toNat) (fun i σ Hi => ∃ (TT : List Cl) (v3 v4 v5 v6 v7 : Option V) (a' c' : Int), σ = [some (.ref pw), some (.ref r), some (.ref ln), v3, v4, v5, v6, v7] ∧ Bk0 K CK CR Hi r kd tl TT i ∧ TT.map (·.name) = eight i ∧ Hi ln = some (.lst ((nmL i).map V.str)) ∧ Hi pw = some (wl a' b c') ∧ WellOk (N + 1 + 4 * i) b c' ∧ Wc.Fr [pw, kd, tl, ln] H2 Hi)
      ⟨T0, none, none, none, none, none, a2, c2, rfl, B2, rfl, hln2, h2, wo2, Wc.Fr.refl _ _⟩ ?_ ?_
    · rintro i σ Hi hi ⟨TT, v3, v4, v5, v6, v7, a3, c3, rfl, Bi, hT, hli, hpi, woi, fi⟩
      have i6 : i < 6 := by omega
      obtain ⟨z, hz, zb, zn, nml, eig, nmi, u, hu, hfz, hul⟩ := let_at i i6
      have fz : findC TT z = none := Bi.bk.fresh (by rw [hT]; exact zn)
      have kk := (KH.start1 hpi).cons hli (by simpa using nlp)
      walk_at "go"
      have hz2 : ((["a", "b", "c", "d", "e", "f"] : List Str).map V.str)[i]? = some (V.str z) := by
        rw [List.getElem?_map]
        exact (congrArg (Option.map V.str) hz)
      have hu2 : ((["of", "parts", "deep", "number", "t", "self"] : List Str).map V.str)[i]? = some (V.str u) := by
        rw [List.getElem?_map]
        exact (congrArg (Option.map V.str) hu)
      rename_i lz G3 n3 k3
      refine r_ixL (SqL.of (k3.find .here)) (by rw [Int.zero_add]; exact atI_nat hz2) ?_
      walk_at "go"
      rename_i ls G4 n4 k4
      have hls := k4.find (p := ls) .here
      have fi4 : Wc.Fr [pw] Hi G4 := k4.fr
      have mi4 : Mo Hi G4 := Mo.fr fi4 (fun q hq => by
        simp only [List.mem_cons, List.not_mem_nil, or_false] at hq
        subst hq
        exact ⟨_, hpi, rfl⟩)
      refine ⟨pw, 3, a3, b, c3, N + 1 + 4 * i, rfl, by decide, by decide, k4.find (by walk_at "lk"), woi, by omega, fun d3 a4 c4 H4 d30 d31 wo4 f4 h4 => ?_⟩
      obtain ⟨dm, rfl⟩ : ∃ dm : Nat, d3 = dm := ⟨d3.toNat, by omega⟩
      have k5 := k4.up (by walk_at "ul") f4 h4 (.inl (by simp))
      have hls4 := k5.find (p := ls) (o := .lst []) (by walk_at "lk")
      have hli4 := k5.find (p := ln) (o := .lst ((nmL i).map V.str)) (by walk_at "lk")
      have nsp : ls ≠ pw := (ne_of_none hpi n4).symm
      have nsn : ls ≠ ln := (ne_of_none hli n4).symm
      clear kk k3 k4 k5
      have kk := KH.start (H := H4)
      walk_at "go"
      refine ⟨_, rfl, by omega, by omega, ?_⟩
      rw [Int.toNat_natCast]
      refine ForR.mk (n := dm) (fun j σ Hj => ∃ (acc : List V) (v6 v7 : Option V) (a' c' : Int), σ = [some (.ref pw), some (.ref r), some (.ref ln), some (.int (0 + (i : Int))), some (.str z), some (.ref ls), v6, v7] ∧ Hj pw = some (wl a' b c') ∧ WellOk (N + 1 + 4 * i + 1 + j) b c' ∧ Hj ls = some (.lst acc) ∧ PySem.Paired (FlC Hj TT) acc ((fldN z).take j) ∧ Wc.Fr [pw, ls] H4 Hj)
        ⟨[], v6, v7, a4, c4, rfl, h4, wo4, hls4, by rw [List.take_zero]; exact .nil, Wc.Fr.refl _ _⟩ ?_ ?_
      · rintro j σ Hj hj ⟨acc, v6, v7, a5, c5, rfl, hpj, woj, hlsj, pfj, fj⟩
        have j2 : j = 0 ∨ j = 1 := by omega
        obtain ⟨sx, hsx, hfj, sxl⟩ : ∃ sx : Str, ([V.str "", V.str "x"] : List V)[j]? = some (V.str sx) ∧ (fldN z)[j]? = some (u ++ sx) ∧ sx.length ≤ 1 := by
          rw [hfz]
          rcases j2 with rfl | rfl
          · exact ⟨_, rfl, rfl, by decide⟩
          · exact ⟨_, rfl, rfl, by decide⟩
        have hlij := fj _ _ (by simp [nlp, Ne.symm nsn]) hli4
        have kk := (start2 hpj hlsj (Ne.symm nsp)).cons hlij (by simp [nlp, Ne.symm nsn])
        walk_at "go"
        rename_i lw G5 n5 k5
        refine r_ixL (SqL.of (k5.find .here)) (by rw [Int.zero_add]; exact atI_nat hu2) ?_
        walk_at "go"
        rename_i lx G6 n6 k6
        refine r_ixL (SqL.of (k6.find .here)) (by rw [Int.zero_add]; exact atI_nat hsx) ?_
        refine ⟨_, _, rfl, rfl, sz_of (by omega), ?_⟩
        walk_at "go"
        rename_i l7 G7 n7 k7
        refine r_cat (by walk_at "hp") (k7.find .here) (sz_of (by simp [nmL, lets]; omega)) ?_
        walk_at "go"
        rename_i l8 G8 n8 k8
        refine ⟨pw, l8, _, a5, b, c5, N + 1 + 4 * i + 1 + j, rfl, k8.find (by walk_at "lk"), SqL.of (k8.find .here), by simp, by simp [nmL, lets]; omega, (ne_of_none hpj n8), woj, by omega, fun y a6 c6 H6 hy6 wo6 f6 h6 => ?_⟩
        obtain ⟨bn, hbn, rfl⟩ : ∃ bn : Str, bn ∈ TT.map (·.name) ∧ y = V.str bn := by
          rw [hT]
          rcases List.mem_append.mp hy6 with hy | hy
          · obtain ⟨q, hq, rfl⟩ := List.mem_map.mp hy
            exact ⟨q, (nmi q hq).1, rfl⟩
          · simp only [List.mem_cons, List.not_mem_nil, or_false] at hy
            rcases hy with rfl | rfl
            · exact ⟨_, List.mem_cons_of_mem _ List.mem_cons_self, rfl⟩
            · exact ⟨_, List.mem_cons_self, rfl⟩
        have k9 := k8.up (by walk_at "ul") f6 h6 (.inl (by simp))
        have accl : acc.length ≤ 2 := by
          have := Paired.length pfj
          rw [List.length_take] at this
          omega
        walk_at "go"
        rename_i t9 G9 n9 k10 G10 k11
        have fjg : Wc.Fr [pw, ls] Hj G10 := k11.fr
        have mjg : Mo Hj G10 := Mo.fr fjg (fun q hq => by
          simp only [List.mem_cons, List.not_mem_nil, or_false] at hq
          rcases hq with rfl | rfl
          · exact ⟨_, hpj, rfl⟩
          · exact ⟨_, hlsj, rfl⟩)
        refine ⟨acc ++ [.ref t9], _, _, a6, c6, rfl, k11.find (by walk_at "lk"), wo6, k11.find (by walk_at "lk"), ?_, fj.trans fjg⟩
        rw [List.take_succ, hfj]
        exact Paired.snoc (Paired.mapP pfj fun _ _ u => u.mo mjg) ⟨t9, bn, rfl, k11.find (by walk_at "lk"), hbn⟩
      · rintro σ Hj ⟨acc, v6, v7, a5, c5, rfl, hpj, woj, hlsj, pfj, fj⟩
        have hlij := fj _ _ (by simp [nlp, Ne.symm nsn]) hli4
        have kk := ((KH.start1 hpj).cons hlsj (by simpa using nsp)).cons hlij (by simp [nlp, Ne.symm nsn])
        have accl : acc.length ≤ 2 := by
          have := Paired.length pfj
          rw [List.length_take] at this
          omega
        walk_at "go"
        refine r_callN ?_
        walk_at "go"
        refine ⟨pw, ln, _, a5, b, c5, N + 1 + 4 * i + 1 + dm, rfl, hpj, SqL.of hlij, by simp [nmL], by simp [nmL, lets]; omega, Ne.symm nlp, woj, by omega, fun y a6 c6 H6 hy6 wo6 f6 h6 => ?_⟩
        obtain ⟨pn, hpn, npi, rfl⟩ : ∃ pn : Str, pn ∈ TT.map (·.name) ∧ pn ≠ "int" ∧ y = V.str pn := by
          rw [hT]
          obtain ⟨q, hq, rfl⟩ := List.mem_map.mp hy6
          exact ⟨q, (nmi q hq).1, (nmi q hq).2, rfl⟩
        obtain ⟨cp, hcp, rfl⟩ := List.mem_map.mp hpn
        have hls6 := f6 _ _ (by simpa using nsp) hlsj
        have hli6 := f6 _ _ (by simpa using nlp) hlij
        clear kk
        have kk := KH.start (H := H6)
        walk_at "go"
        refine ⟨ls, acc, rfl, .inl ⟨SqL.of hls6, ?_⟩⟩
        intro ft nft
        have k8 := kk.new (o := .tup acc) nft
        generalize upd H6 ft _ = H8 at k8 ⊢
        have f68 : Wc.Ext H6 H8 := k8.extE
        have fi8 : Wc.Fr [pw, ls] Hi H8 := ((fi4.trans f4).mono (by simp)).trans (fj.trans ((f6.trans f68.fr).mono (by simp)))
        have fi8' : Wc.Fr [pw] Hi H8 := Fr.outA (A := [pw, ls]) (Wc.Fr.refl [pw] Hi) fi8 (fun q hq => by
          simp only [List.mem_cons, List.not_mem_nil, or_false] at hq
          rcases hq with rfl | rfl
          · exact .inl (by simp)
          · exact .inr n4)
        have mi8 : Mo Hi H8 := Mo.fr1 fi8' hpi rfl
        have B8 := Bi.frn fi8'.n mi8 (by simpa using Ne.symm npk) (by simpa using Ne.symm npt)
        have hft : H8 ft = some (.tup acc) := k8.find .here
        have mj8 : Mo Hj H8 := (Mo.fr1 f6 hpj rfl).trans f68.mo
        obtain ⟨os, eos⟩ : ∃ os, os = (fldN z).take dm := ⟨_, rfl⟩
        rw [← eos] at pfj
        have osm : ∀ q, q ∈ os → q ∈ fldN z := fun q hq => by rw [eos] at hq; exact List.mem_of_mem_take hq
        have osn : os.Nodup := by rw [eos]; exact List.Nodup.sublist (List.take_sublist _ _) (fldN_xy z zb).2
        have pfl8 : PySem.Paired (FlC H8 TT) acc os := Paired.mapP pfj fun _ _ u => u.mo mj8
        clear k8 kk
        obtain ⟨vw, vw1, vw2, vw3⟩ := flc_scan B8.bk pfl8 osm zb osn
        obtain ⟨as, has⟩ := B8.fl cp hcp
        walk_at "go"
        refine ⟨rfl, rfl, ?_⟩
        have hzc : nameV (.str z) = true := (bkN_ok z (bkL_N z zb).1).1
        have bk := Bi.bk
        have hall := bk.al cp hcp
        refine ⟨r, kd, tl, TT, i, .str z, none, .str cp.name, none, .ref ft, some acc, rfl, B8.R, by omega, by rw [bk.tl]; omega, .str (by have := (bkN_ok z (bkL_N z zb).1).2.1; omega), .str (by have := (bkN_ok _ (bk.nm cp hcp)).2.1; omega), .tupl hft, (fun q => by rw [hzc] at q; cases q), fun z' ez _ => ?_⟩
        obtain rfl : z = z' := by injection ez
        refine ⟨(fun q => by rw [fz] at q; cases q), fun _ => ⟨(fun q => by rw [bk.cls hcp] at q; cases q), fun _ p' ep => ?_⟩⟩
        obtain rfl : cp.name = p' := by injection ep
        refine ⟨fun q => absurd q npi, fun _ c' hc' => ?_⟩
        obtain rfl : cp = c' := Option.some.inj ((bk.find hcp).symm.trans hc')
        refine ⟨as, Paired.mapP has fun _ _ u => FlB.nm u bk.nm, by rw [← Paired.length has]; omega, ?_, fun xs exs _ => ?_⟩
        · rintro (q | ⟨xs, q, q2⟩)
          · cases q
          · cases q
            omega
        obtain rfl : acc = xs := Option.some.inj exs
        refine ⟨vw, vw1, vw2, fun q hq => ?_, fun hsc ts tv H9 hts htv f9 R9 hl9' => ?_⟩
        · rw [vw3 as (fun a ha m => fld_new bk has fz zb (osm a ha) m)] at hq
          cases hq
        have m89 : Mo H8 H9 := Mo.fr f9 (fun q hq => by
          simp only [List.mem_cons, List.not_mem_nil, or_false] at hq
          rcases hq with rfl | rfl
          · obtain ⟨kv, hk⟩ := B8.R.kd
            exact ⟨_, hk, rfl⟩
          · exact ⟨_, hts, rfl⟩)
        have o9 : ∀ q o, q ≠ kd → q ≠ tl → H8 q = some o → H9 q = some o := fun q o h1 h2 h => f9 _ _ (by simp [h1, h2]) h
        have hln9 := o9 _ _ nlk nlt (f68 _ _ hli6)
        have hp9 := o9 _ _ npk npt (f68 _ _ h6)
        have zin : z ∈ (TT ++ [(⟨z, some cp.name, acc, cp.all ++ acc, i + 1⟩ : Cl)]).map (·.name) := by rw [List.map_append]; exact List.mem_append_right _ (List.mem_singleton.mpr rfl)
        have tsl : ts.length = i + 1 := by
          obtain ⟨ts2, g1, g2⟩ := B8.tls
          rw [g1] at hts
          cases hts
          exact g2
        have B9 : Bk0 K CK CR H9 r kd tl (TT ++ [⟨z, some cp.name, acc, cp.all ++ acc, i + 1⟩]) (i + 1) :=
          ⟨bk.add fz zb (bk.find hcp) accl, R9, (B8.fl.mo m89).add hcp (bs := os) (paired_mapM pfl8 fun v q hq ⟨t, b0, e1, e2, e3⟩ => ⟨t, b0, e1, m89 _ _ rfl e2, ⟨z, zin, zb, osm q hq⟩, by rw [List.map_append]; exact List.mem_append_left _ e3⟩), _, hl9', by rw [List.length_append, tsl] <;> rfl⟩
        have k9 := KH.start1 hln9
        walk_at "go"
        refine r_append hln9 (sz_lt (by simp [nmL, lets]; omega)) ?_
        walk_at "go"
        rename_i Hz kz
        have fz9 : Wc.Fr [ln] H9 Hz := kz.fr
        have hlz := kz.find (p := ln) .here
        refine ⟨_, _, _, _, _, _, a6, c6, rfl, B9.frn fz9.n (Mo.fr1 fz9 hln9 rfl) (by simpa using Ne.symm nlk) (by simpa using Ne.symm nlt), ?_, ?_, fz9 _ _ (by simpa using Ne.symm nlp) hp9, wo6.up (by omega), ?_⟩
        · rw [List.map_append, hT, eig] <;> rfl
        · rw [hlz, nml, List.map_append] <;> rfl
        · exact (fi.trans (fi8'.mono (by simp))).trans ((f9.mono (by simp)).trans (fz9.mono (by simp)))
    · rintro σ Hi ⟨TT, v3, v4, v5, v6, v7, a3, c3, rfl, Bi, hT, hli, hpi, woi, fi⟩
      have kk := KH.start (H := Hi)
      walk_at "go"
      exact k TT (1 + (dn : Int)).toNat ln a3 c3 Hi (by omega) (by omega) Bi hT n1 hli hpi (woi.up (by omega)) (Fr.outA (f02.mono (by simp)) fi (fun q hq => by
        simp only [List.mem_cons, List.not_mem_nil, or_false] at hq
        rcases hq with rfl | rfl | rfl | rfl
        · exact .inl (by simp)
        · exact .inl (by simp)
        · exact .inl (by simp)
        · exact .inr n1))
end
end K03

set_option Elab.async false
set_option linter.all false
set_option maxRecDepth 100000
set_option maxHeartbeats 4000000
namespace K03
open PySem PySem.Spec PyProof.Rows L2 Wc
local macro_rules | `(tactic| walk_at "lk") => `(tactic| first | with_reducible exact Look.here | (with_reducible apply Look.there; walk_at "lk"))
local macro_rules | `(tactic| walk_at "ul") => `(tactic| first | with_reducible exact UpL.here | (with_reducible apply UpL.there; walk_at "ul"))
local macro_rules | `(tactic| walk_at "ga") => `(tactic| first | exact GetAt.here | (apply GetAt.there; walk_at "ga"))
local macro_rules | `(tactic| walk_at "sa") => `(tactic| first | exact SetAt.here | (apply SetAt.there; walk_at "sa"))
local macro_rules | `(tactic| walk_at "hp") => `(tactic| first | assumption | (refine' KH.find ?k ?h; (case k => assumption); (case h => walk_at "lk")))
local macro_rules | `(tactic| walk_at "sql") => `(tactic| first | assumption | (refine' SqL.of ?h; (case h => walk_at "hp")) | (refine' Fr.sql (KH.fr ?k) ?n ?h; (case k => assumption); (case h => assumption); (case n => (simp; done))))
local macro_rules | `(tactic| walk_at "sqt") => `(tactic| first | assumption | (refine' SqT.of ?h; (case h => walk_at "hp")))
local macro_rules | `(tactic| walk_at "side") => `(tactic| first | exact (show (0 : Int) < _ by decide) | exact (show (0 : Int) < _ by omega) | exact ⟨by decide, by decide, by decide⟩ | exact ⟨by decide, by decide, by omega⟩ | exact ⟨by decide, by decide⟩ | exact ⟨by omega, by omega⟩ | exact Or.inl ⟨by omega, by omega⟩ | exact Or.inr ⟨by omega, by omega⟩)
local macro_rules | `(tactic| walk_at "siz") => `(tactic| first | (refine sz_of ?_; first | decide | omega | (simp; done) | (simp; omega)) | (refine sz_lt ?_; first | decide | omega | (simp; done) | (simp; omega)))
local macro_rules | `(tactic| walk_at "own") => `(tactic| first | (exact Or.inr (by assumption)) | (refine Or.inl ?_; simp; done))
local macro_rules | `(tactic| walk_at "al") => `(tactic| (refine' AllocO.mk ?k ?_; (case k => assumption); intro _ _ _ _))
local macro_rules | `(tactic| walk_at "up") => `(tactic| (refine' UpdO.mk ?k ?h ?m ?_; (case k => assumption); (case h => walk_at "ul"); (case m => walk_at "own"); intro _ _))
local macro_rules | `(tactic| walk_at "st") => `(tactic| first
  | ((with_reducible refine' r_var ?h ?_); (case h => walk_at "ga"))
  | (with_reducible refine' r_seq ?_) | (with_reducible refine' r_next ?_) | (with_reducible refine' r_asg ?_) | (with_reducible refine' r_drop ?_) | (with_reducible refine' r_ret ?_) | (with_reducible refine' r_retN ?_)
  | (with_reducible refine' r_ifs ?_) | (with_reducible refine' r_cont ?_) | (with_reducible refine' r_break ?_) | (with_reducible refine' r_c ?_) | (with_reducible refine' r_op ?_) | (with_reducible refine' r_un ?_)
  | (with_reducible refine' r_test ?_) | (with_reducible refine' r_tB ?_) | (with_reducible refine' r_not ?_) | (with_reducible refine' r_and ?_) | (with_reducible refine' r_or ?_) | (with_reducible refine' r_notV ?_)
  | (with_reducible refine' r_andV ?_) | (with_reducible refine' r_orV ?_) | (with_reducible refine' r_ifE ?_) | (with_reducible refine' r_bl ?_) | (with_reducible refine' r_nil ?_) | (with_reducible refine' r_cons ?_)
  | (with_reducible refine' r_tup ?_) | (with_reducible refine' r_lst ?_) | (with_reducible refine' r_cb ?_) | (with_reducible refine' r_call ?_) | ((with_reducible refine' r_name ?h ?_); (case h => walk_at "sa")) | (with_reducible refine' r_gnil ?_)
  | (with_reducible refine' r_gcons ?_) | (with_reducible refine' r_gsub ?_) | (with_reducible refine' r_par ?_) | (with_reducible refine' r_par2 ?_) | (with_reducible refine' r_I0 ?_) | (with_reducible refine' r_U ?_)
  | ((with_reducible refine' r_eq ?h ?_); (case h => rfl)) | ((with_reducible refine' r_ne ?h ?_); (case h => rfl))
  | ((with_reducible refine' r_ixL ?h ?a ?_); (case h => walk_at "sql"); (case a => rfl))
  | ((with_reducible refine' r_ixT ?h ?a ?_); (case h => walk_at "sqt"); (case a => rfl))
  | ((with_reducible refine' r_setL ?h ?a ?_); (case h => walk_at "hp"); (case a => rfl))
  | ((with_reducible refine' r_I ?c ?_); (case c => walk_at "side"))
  | (with_reducible refine' r_sl ?_) | (with_reducible refine' r_part ?_) | (with_reducible refine' r_nopart ?_) | (with_reducible refine' r_ii ?_)
  | ((with_reducible refine' r_slL ?h ?_); (case h => walk_at "sql"))
  | (with_reducible refine' r_bm ?_) | (with_reducible refine' r_bm0 ?_) | (with_reducible refine' r_int1 ?_) | (with_reducible refine' r_int1b ?_)
  | ((with_reducible refine' r_aug ?h ?_); (case h => walk_at "ga"))
  | ((with_reducible refine' r_cat ?a ?b ?z ?_); (case a => walk_at "hp"); (case b => walk_at "hp"); (case z => walk_at "siz"))
  | ((with_reducible refine' r_append ?a ?z ?_); (case a => walk_at "hp"); (case z => walk_at "siz"))
  | ((with_reducible refine' And.intro ?z ?_); (case z => first | walk_at "siz" | exact Or.inl ⟨rfl, _, by walk_at "sql"⟩))
  | ((with_reducible refine' r_gtup ?h ?l ?_); (case h => walk_at "sqt"); (case l => rfl))
  | (with_reducible refine' r_forL ?_) | (with_reducible refine' r_forE ?_) | (with_reducible refine' r_forR ?_) | ((with_reducible refine' r_forL2 ?h ?_); (case h => walk_at "sql")) | ((with_reducible refine' r_forE2 ?h ?_); (case h => walk_at "sql"))
  | (with_reducible refine' r_lcR ?_) | ((with_reducible refine' r_iteT ?h ?_); (case h => rfl)) | ((with_reducible refine' r_iteF ?h ?_); (case h => rfl))
  | (with_reducible refine' r_dnew ?_) | (with_reducible refine' r_vei ?_) | (with_reducible refine' r_ost ?_) | (with_reducible refine' r_mkV ?_) | (with_reducible refine' r_mkX ?_) | (with_reducible refine' r_xfld ?_)
  | ((with_reducible refine' MkG.mk ?o ?n ?k ?_); (case o => exact ErrOk.o (by assumption)); (case n => exact ErrOk.no (by assumption)); (case k => assumption); intro _ _ _ _)
  | ((with_reducible refine' AllocX.mk ?k ?_); (case k => assumption); intro _ _ _ _)
  | (with_reducible refine' r_chain ?_) | (with_reducible refine' r_lcS ?_) | (with_reducible refine' r_lcS2 ?_) | (with_reducible refine' r_lcL ?_) | (with_reducible refine' r_lcT ?_) | (with_reducible refine' r_lcI ?_) | (with_reducible refine' r_yes ?_)
  | (with_reducible refine' r_fld ?_) | (with_reducible refine' r_sfld ?_) | (with_reducible refine' r_meth ?_) | (with_reducible refine' r_make ?_) | (with_reducible refine' r_dget ?_) | (with_reducible refine' r_din ?_) | (with_reducible refine' r_dput ?_)
  | ((with_reducible refine' r_disp ?k ?_); (case k => assumption); intro _ _ _ _) | (with_reducible refine' r_pnil ?_) | (with_reducible refine' r_pcons ?_)
  | (walk_at "al") | (walk_at "up"))
local macro_rules | `(tactic| walk_at "go") => `(tactic| repeat walk_at "st")

structure TwoX (K : PySem.W.Frag) (NC NP NF TD : Addr) : Prop where
  cc : PySem.W.exmOne K (.ref NC) (.ref NC) = some true
  pc : PySem.W.exmOne K (.ref NP) (.ref NC) = some false
  pp : PySem.W.exmOne K (.ref NP) (.ref NP) = some true
  fc : PySem.W.exmOne K (.ref NF) (.ref NC) = some false
  fp : PySem.W.exmOne K (.ref NF) (.ref NP) = some false
  ff : PySem.W.exmOne K (.ref NF) (.ref NF) = some true
  dc : PySem.W.exmOne K (.ref TD) (.ref NC) = some false
  dp : PySem.W.exmOne K (.ref TD) (.ref NP) = some false
  df : PySem.W.exmOne K (.ref TD) (.ref NF) = some false
  dd : PySem.W.exmOne K (.ref TD) (.ref TD) = some true
  xc : XfC K NC
  xp : XfC K NP
  xf : XfC K NF
  nc : PySem.W.findIn K (.ref NC) "name" = some none
  np : PySem.W.findIn K (.ref NP) "parts" = some none
  nf : PySem.W.findIn K (.ref NF) "field" = some none
/-- what _law_said makes of an exception -/
def Said (NC NP NF TD : Addr) (Q : VK) : XK := fun cls d H =>
  (∃ (v : V) (dd : Addr), cls = .ref NC ∧ d = some dd ∧ H dd = some (.xd [("name", v)]) ∧ AllocO (.tup [.str "class", v]) Q H) ∨
  (∃ (v : V) (dd : Addr), cls = .ref NP ∧ d = some dd ∧ H dd = some (.xd [("parts", v)]) ∧ AllocO (.tup [.str "parts", v]) Q H) ∨
  (∃ (v : V) (dd : Addr), cls = .ref NF ∧ d = some dd ∧ H dd = some (.xd [("field", v)]) ∧ AllocO (.tup [.str "fit", v]) Q H) ∨
  (cls = .ref TD ∧ AllocO (.tup [.str "deep", .non]) Q H)
def TSaid (NC NP NF TD : Addr) : (XK → Hp → VK → Prop) → Hp → VK → Prop := fun tl H Q => tl (Said NC NP NF TD Q) H Q
section
variable {NC NP NF TD WE : Addr}
open LamX in
theorem said_gives {X : Cx} {g : Addr} {cdg : Value} {q : Str} {K : PySem.W.Frag} (eK : X.K = K) (h3 : TwoX K NC NP NF TD) (gC : X.mg "NoClass" = some (.ref NC)) (gP : X.mg "NoParts" = some (.ref NP)) (gF : X.mg "NoFit" = some (.ref NF)) (gD : X.mg "TooDeep" = some (.ref TD)) (gW : X.mg "WorldError" = some (.ref WE)) :
    GivesTo X ["_law_ask", "e"] "_law_said" (defScope s_l_said) g cdg (defBody s_l_said) "_law_ask" q (TSaid NC NP NF TD) := by
  subst eK
  intro f c' s H Q tl act hc h
  refine ⟨_, pss_one (ps_tryA (X := (cxOf C8.CX0 X.prog X.w X.K X.mg X.base ["_law_ask", "e"] "_law_said" (defScope s_l_said) g cdg X.A X.stack s H C8.E0).nox)
      (tb := fun W D σ H => ∃ Ech : XK, (∀ cls d (σ' : L2.St) H', σ'.length = 2 → Ech cls d H' → W cls d σ' H') ∧ σ = [some (.ref f), none] ∧ H c' = some (CodeO c' q) ∧ tl Ech H fun v H' => D.rt v H')
      rfl rfl sc_l_said.nd L2.takes0 (fun W pn xe tk _ => ?_)
      (.named (i := 1) rfl rfl ⟨rfl, by decide, .inl gC⟩ (fun a oe cls d pn hz hf => pss_one (ps_ret (pe_tup (pa_cons pe_str (pa_cons (pe_xf h3.xc h3.nc hz hf (pv 1) rfl) pa_nil)))))
        (.named (i := 1) rfl rfl ⟨rfl, by decide, .inl gP⟩ (fun a oe cls d pn hz hf => pss_one (ps_ret (pe_tup (pa_cons pe_str (pa_cons (pe_xf h3.xp h3.np hz hf (pv 1) rfl) pa_nil)))))
          (.named (i := 1) rfl rfl ⟨rfl, by decide, .inl gF⟩ (fun a oe cls d pn hz hf => pss_one (ps_ret (pe_tup (pa_cons pe_str (pa_cons (pe_xf h3.xf h3.nf hz hf (pv 1) rfl) pa_nil)))))
            (.plain ⟨rfl, by decide, .inl gD⟩ (fun a oe cls d pn hz hf => pss_one (ps_ret (pe_tup (pa_cons pe_str (pa_cons pe_non pa_nil)))))
              (.plain ⟨rfl, by decide, .inl gW⟩ (fun a oe cls d pn hz hf => pss_one (ps_ret (pe_tup (pa_cons pe_str (pa_cons pe_non pa_nil))))) .nil)))))), ?_⟩
  · refine ⟨fun pins s' σ H' D I h' => ?_⟩
    obtain ⟨Ech, hW, h1, h2, h3⟩ := h'
    have tk2 : Takes ((cxOf C8.CX0 X.prog X.w X.K X.mg X.base ["_law_ask", "e"] "_law_said" (defScope s_l_said) g cdg X.A X.stack s H C8.E0).tr pn xe) (fun cls d σ H => σ.length = 2 → W cls d σ H) := fun u s' hx => by
      obtain ⟨a, B, sI, pi, z, H2, cls, d, e1, J, x1, x2, x3, x4, x5, x6, w⟩ := hx
      exact tk u s' ⟨a, B, sI, pi, z, H2, cls, d, e1, J, x1, x2, x3, x4, x5, x6, w J.len⟩
    exact (pss_one (ps_ret (act _ pn xe Ech _ _ tk2 fun cls d σ' H' hE hl => hW cls d σ' H' hl hE))).run pins s' σ H' D I ⟨by rw [h1] <;> rfl, h2, h3⟩
  · refine ⟨Said NC NP NF TD Q, fun cls d σ' H' hl hx => ?_, rfl, hc, h⟩
    obtain ⟨y0, y1, rfl⟩ : ∃ y0 y1, σ' = [y0, y1] := by
      match σ', hl with
      | [y0, y1], _ => exact ⟨y0, y1, rfl⟩
    rcases hx with ⟨v, dd, rfl, rfl, hdd, k⟩ | ⟨v, dd, rfl, rfl, hdd, k⟩ | ⟨v, dd, rfl, rfl, hdd, k⟩ | ⟨rfl, k⟩
    · exact ⟨true, h3.cc, fun _ a ha => ⟨_, rfl, rfl, rfl, dd, _, v, rfl, hdd, rfl, sz_of (by simp), k⟩, fun z => by cases z⟩
    · exact ⟨false, h3.pc, fun z => (by cases z), fun _ => ⟨true, h3.pp, fun _ a ha => ⟨_, rfl, rfl, rfl, dd, _, v, rfl, hdd, rfl, sz_of (by simp), k⟩, fun z => by cases z⟩⟩
    · exact ⟨false, h3.fc, fun z => (by cases z), fun _ => ⟨false, h3.fp, fun z => (by cases z), fun _ => ⟨true, h3.ff, fun _ a ha => ⟨_, rfl, rfl, rfl, dd, _, v, rfl, hdd, rfl, sz_of (by simp), k⟩, fun z => by cases z⟩⟩⟩
    · exact ⟨false, h3.dc, fun z => (by cases z), fun _ => ⟨false, h3.dp, fun z => (by cases z), fun _ => ⟨false, h3.df, fun z => (by cases z), fun _ => ⟨true, h3.dd, fun _ => (fun a _ => ⟨sz_of (by simp), k⟩), fun z => by cases z⟩⟩⟩⟩
end
theorem extOut {A : List Addr} {H0 H H' : Hp} (e : Wc.Ext H0 H) (f : Wc.Fr A H H') (n : ∀ a, a ∈ A → H0 a = none) : Wc.Ext H0 H' := fun a o h => f a o (fun m => by
  rw [n a m] at h
  cases h) (e a o h)
section
variable {P : Program} {w : World} {K : PySem.W.Frag} {CK CR CT fe NC TK NF NP TD : Addr} {H : Hp} {T : List Cl} {n : Nat} {r kd tl : Addr} {Q : VK} {E : XK}
/-- what add_class sees of rows -/
theorem fl_scan {xs : List V} {fs : List (Str × Str)} (h : PySem.Paired (FlR H) xs fs) (hok : ∀ q, q ∈ fs → nameS q.1 = true ∧ q.1.length ≤ 1000 ∧ clsV T (.str q.2) = true ∧ q.2.length ≤ 1000) (nd : (fs.map (·.1)).Nodup) :
    ∃ vw : List Vw, vw.map (·.1) = xs ∧ (∀ q, q ∈ vw → ItemAt K H q) ∧ ∀ as : List Str, (∀ a, a ∈ fs.map (·.1) → a ∉ as) → scan T (as.map V.str) vw = none := by
  induction h with
  | nil => exact ⟨[], rfl, fun q hq => (by cases hq), fun as _ => rfl⟩
  | @cons x q xs fs hx _ ih =>
    obtain ⟨t, rfl, h1⟩ := hx
    rw [List.map_cons, List.nodup_cons] at nd
    obtain ⟨vw, e1, e2, e3⟩ := ih (fun q hq => hok q (List.mem_cons_of_mem _ hq)) nd.2
    obtain ⟨o1, o2, o3, o4⟩ := hok q List.mem_cons_self
    refine ⟨(.ref t, some [.str q.1, .str q.2]) :: vw, by rw [List.map_cons, e1], fun z hz => ?_, fun as has => ?_⟩
    · rcases List.mem_cons.mp hz with rfl | hz
      · refine ⟨.tupl h1, fun ys e => ?_⟩
        cases e
        refine ⟨by simp, fun y hy => ?_⟩
        simp at hy
        rcases hy with rfl | rfl
        · exact ⟨none, .str o2⟩
        · exact ⟨none, .str o4⟩
      · exact e2 z hz
    · have ok : okI T (as.map V.str) (some [.str q.1, .str q.2]) = true := by
        show (nameV (.str q.1) && (!inV (.str q.1) (as.map V.str) && clsV T (.str q.2))) = true
        rw [show nameV (.str q.1) = true from o1, inV_strs', o3, show as.contains q.1 = false from by
          have := has q.1 List.mem_cons_self
          simpa using this]
        rfl
      show (if okI T (as.map V.str) (some [.str q.1, .str q.2]) = true then scan T (as.map V.str ++ [.str q.1]) vw else _) = none
      rw [if_pos ok, show as.map V.str ++ [V.str q.1] = (as ++ [q.1]).map V.str by rw [List.map_append] <;> rfl]
      refine e3 (as ++ [q.1]) fun z hz mm => ?_
      rcases List.mem_append.mp mm with mm | mm
      · exact has z (List.mem_cons_of_mem _ hz) mm
      · rw [List.mem_singleton.mp mm] at hz
        exact nd.1 hz
/-- a class with rows of fields, below one without any -/
theorem add_ok {z p : Str} {c : Cl} {fa : Addr} {xs : List V} {fs : List (Str × Str)} (R : RtW K CK CR H r kd tl T n) (hn : n < 50000) (hT : T.length < 50000) (hz : nameS z = true) (hzl : z.length ≤ 1000) (hf : findC T z = none) (hp : clsV T (.str p) = true) (hpl : p.length ≤ 1000) (hpi : p ≠ "int")
    (hc : findC T p = some c) (hca : c.all = []) (hfa : Th K H (.ref fa) (some xs)) (hx : PySem.Paired (FlR H) xs fs) (hxl : xs.length ≤ 3) (hs : (fs.map (·.1)).Nodup) (hok : ∀ q, q ∈ fs → nameS q.1 = true ∧ q.1.length ≤ 1000 ∧ clsV T (.str q.2) = true ∧ q.2.length ≤ 1000)
    (q : ∀ H', Fr [kd, tl] H H' → RtW K CK CR H' r kd tl (T ++ [⟨z, some p, xs, xs, n + 1⟩]) (n + 1) → Q (.int ((n + 1 : Nat) : Int)) H') : spAdd K CK CR NC TK NF [.ref r, .str z, .str p, .ref fa] H Q E := by
  refine ⟨r, kd, tl, T, n, .str z, none, .str p, none, .ref fa, some xs, rfl, R, hn, hT, .str hzl, .str hpl, hfa, fun h => ?_, fun z' ez' hz' => ?_⟩
  · rw [show nameV (.str z) = true from hz] at h
    cases h
  · cases ez'
    refine ⟨fun h => ?_, fun _ => ⟨fun h => ?_, fun _ p' ep => ?_⟩⟩
    · rw [hf] at h
      cases h
    · rw [hp] at h
      cases h
    · cases ep
      refine ⟨fun e => absurd e hpi, fun _ c' hc' => ?_⟩
      rw [hc] at hc'
      cases hc'
      obtain ⟨vw, e1, e2, e3⟩ := fl_scan (K := K) hx hok hs
      refine ⟨[], by rw [hca]; exact .nil, by simp, fun h => ?_, fun xs' ex hx3 => ?_⟩
      · rcases h with h | ⟨ys, h, h3⟩
        · cases h
        · cases h
          exact absurd h3 (by omega)
      · cases ex
        have sn := e3 [] (fun a _ h => by cases h)
        refine ⟨vw, e1, e2, fun x hx => ?_, fun _ ts tv H' _ _ fr R' _ => ?_⟩
        · rw [show scan T (([] : List Str).map V.str) vw = none from sn] at hx
          cases hx
        · rw [hca, List.nil_append] at R'
          exact q H' fr R'
/-- make, of values -/
theorem make_ok {z : Str} {c : Cl} {p sh : Addr} {ks ls : List NK} {pvs : List V} {ts : List Tg} {fs : List (Str × Str)} (C : CsT K CT fe) (R : RtAt K CK CR H r kd tl T n) (O : TrOk T n) (hc : findC T z = some c) (hz : z ≠ "int") (hcv : clsV T (.str z) = true) (hfs : PySem.Paired (FlR H) c.all fs) (hp : H p = some (.tup pvs))
    (hts : TgRs CT H ks pvs ts ls) (hl : pvs.length = c.all.length) (hl2 : c.all.length ≤ 1000) (hcl : ∀ t, t ∈ ts → ∃ d, findC T (clsT t) = some d) (S : ShAt P w CR H r sh ks) (hk : ks.length < 80000)
    (m1 : ∀ i q, fs[i]? = some q → ¬ FitAt T fs ts i → (∀ j, j < i → FitAt T fs ts j) → ExTo E H NF "field" (.str q.1))
    (m2 : (∀ i, FitAt T fs ts i) → 100 < deepM ts + 1 → ∀ H', Wc.Ext H H' → E (.ref TD) none H')
    (m3 : (∀ i, FitAt T fs ts i) → deepM ts + 1 ≤ 100 → ∀ a H' ks' k, H a = none → Fr [sh] H H' → Mo H H' → ShAt P w CR H' r sh ks' → (ks' = ks ∨ ks' = ks ++ [kOf z ls]) → TgR CT H' ks' (.ref a) (.th z ts) k → PtAt CT H' a z p → Q (.ref a) H') :
    spMake P w K CK CR CT NC NF NP TD [.ref r, .str z, .ref p] H Q E := by
  have hzl := O.len _ _ hc
  refine ⟨r, kd, tl, T, n, .str z, none, .ref p, some pvs, rfl, R, .str hzl, .tupl hp, fun h => ?_, fun e => absurd (V.str.inj e) hz, fun z' c' ez _ _ hc' => ?_⟩
  · rw [hcv] at h
    cases h
  · cases ez
    rw [hc] at hc'
    cases hc'
    refine ⟨hl2, fun h => ?_, fun pvs' ep hl' => ?_⟩
    · rcases h with h | ⟨ys, h, h3⟩
      · cases h
      · cases h
        exact absurd hl h3
    · cases ep
      have vals : ∀ {vs : List V} {ts : List Tg} {ls : List NK}, TgRs CT H ks vs ts ls → PySem.Paired (IsVal K CT H) vs (vs.map fun _ => true) := fun {vs ts ls} h => by
        induction vs generalizing ts ls with
        | nil => exact .nil
        | cons v vs ih =>
          cases h with
          | cons h r =>
            obtain ⟨u, b, g1, g2, g3, g4, _⟩ := h.ty C
            exact .cons ⟨u, !b, false, b, g1, g2, g3, g4, by cases b <;> rfl⟩ (ih r)
      have al : (pvs.map fun _ => true).all id = true := by
        rw [List.all_map]
        exact List.all_eq_true.mpr fun _ _ => rfl
      refine ⟨_, vals hts, fun h => ?_, fun _ => ⟨O, p, ts, ls, fs, sh, ks, rfl, hfs, hp, hts, hcl, S, hk, m1, m2, m3⟩⟩
      rw [al] at h
      cases h
/-- the drawn classes -/
theorem bk_tr {T : List Cl} {n : Nat} (b : BK T n) (hn : n ≤ 6) : TrOk T n := by
  refine ⟨fun x c e => b.since c (find_mem e).1, fun x c e => ?_, fun x c e => ?_⟩
  · obtain ⟨h1, h2⟩ := find_mem e
    obtain ⟨l, h3, h4⟩ := b.ln c h1
    rw [h2] at h3
    exact ⟨l, h3, by rw [b.tl] at h4; omega⟩
  · obtain ⟨h1, h2⟩ := find_mem e
    have := (bkN_ok _ (b.nm c h1)).2.1
    rw [h2] at this
    omega
/-- the rows of a class's fields -/
theorem bk_rows {H : Hp} {T : List Cl} {n : Nat} (b : BK T n) {xs : List V} {as : List Str} (h : PySem.Paired (FlB H T) xs as) : ∃ fs : List (Str × Str), PySem.Paired (FlR H) xs fs ∧ ∀ q, q ∈ fs → q.1.length ≤ 8 ∧ PyData.strOk q.1 = true ∧ ∃ c, findC T q.2 = some c := by
  induction h with
  | nil => exact ⟨[], .nil, fun q hq => by cases hq⟩
  | @cons x a xs as hx _ ih =>
    obtain ⟨fs, h1, h2⟩ := ih
    obtain ⟨t, y, rfl, h3, ⟨q, _, h4, h5⟩, h6⟩ := hx
    obtain ⟨c, hc, rfl⟩ := List.mem_map.mp h6
    refine ⟨(a, c.name) :: fs, .cons ⟨t, rfl, h3⟩ h1, fun p hp => ?_⟩
    rcases List.mem_cons.mp hp with rfl | hp
    · exact ⟨(fldN_ok q h4 a h5).2.1, (fldN_ok q h4 a h5).2.2, c, b.find hc⟩
    · exact h2 p hp
theorem bk_cls {T : List Cl} {n : Nat} (b : BK T n) {x : Str} {c : Cl} (h : findC T x = some c) : nameS x = true ∧ x.length ≤ 1000 ∧ clsV T (.str x) = true := by
  obtain ⟨h1, h2⟩ := find_mem h
  have k := bkN_ok _ (b.nm c h1)
  rw [h2] at k
  refine ⟨k.1, by omega, ?_⟩
  show (nameS x && (findC T x).isSome) = true
  rw [k.1, h] <;> rfl
theorem make_nocls {v pv : V} {tn tp : Option (List V)} (R : RtAt K CK CR H r kd tl T n) (hv : Th K H v tn) (hp : Th K H pv tp) (no : clsV T v = false ∨ v = .str "int") (k : ExTo E H NC "name" v) : spMake P w K CK CR CT NC NF NP TD [.ref r, v, pv] H Q E :=
  ⟨r, kd, tl, T, n, v, tn, pv, tp, rfl, R, hv, hp, fun _ => k, fun _ => k, fun z c e hz hc hf => by
    rcases no with no | no
    · rw [no] at hc
      cases hc
    · rw [e] at no
      exact absurd (V.str.inj no) hz⟩
end
/-! ### rules -/
/-- xs != [] -/
def rNeL (K : PySem.W.Frag) : R2 := fun x y H Q => ∃ a b xs, x = .ref a ∧ y = .ref b ∧ H a = some (.lst xs) ∧ H b = some (.lst []) ∧ Q (.bl (!xs.isEmpty)) H
theorem op_neL {X : Cx} {j : Nat} (hr : Room j X.A) : OpR X (compareOp .NotEq) (rNeL X.K) := by
  intro pins s σ H x y v u Q I rx ry h
  obtain ⟨a, b, xs, rfl, rfl, ha, hb, q⟩ := h
  obtain rfl : v = Value.ref a := rx
  obtain rfl : u = Value.ref b := ry
  obtain ⟨its, r1, p1, _⟩ := I.list (SqL.of ha)
  obtain ⟨its2, r2, p2, _⟩ := I.list (SqL.of hb)
  have hu := un1 hr
  cases r2
  cases r1 with
  | nil => exact SeqAt.RcNeAt.lists (e := fun _ => true) p1.isList p2.isList rfl (by show X.A.units < cLine; omega) (fun j h1 h2 => absurd h1 (by simp)) X.prog X.w _ _ ⟨.bl false, H, I, rfl, q⟩
  | cons c r1 => exact SeqAt.RcNeAt.lists_lengths p1.isList p2.isList (by simp) (by show X.A.units < cLine; omega) X.prog X.w _ _ ⟨.bl true, H, I, rfl, q⟩
/-- t != t, one tuple -/
def rNeT1 (K : PySem.W.Frag) : R2 := fun x y H Q => ∃ a xs, x = .ref a ∧ y = .ref a ∧ H a = some (.tup xs) ∧ Q (.bl false) H
theorem op_neT1 {X : Cx} {j : Nat} (hr : Room j X.A) : OpR X (compareOp .NotEq) (rNeT1 X.K) := by
  intro pins s σ H x y v u Q I rx ry h
  obtain ⟨a, xs, rfl, rfl, ha, q⟩ := h
  obtain rfl : v = Value.ref a := rx
  obtain rfl : u = Value.ref a := ry
  obtain ⟨its, r1, p1, _⟩ := I.tuple (SqT.of ha)
  have hu := un1 hr
  refine SeqAt.RcNeAt.tuples (e := fun _ => true) p1 p1 (by show X.A.units < cLine; omega) (fun j h1 h2 => SeqAt.EqAt.same (A := X.A.in1) (s := s) _) X.prog X.w _ _ ?_
  have e : (!((List.range (min its.toArray.size its.toArray.size)).all (fun _ => true) && its.toArray.size == its.toArray.size)) = false := by simp
  rw [e]
  exact ⟨.bl false, H, I, rfl, q⟩
theorem op_eqOwnK {X : Cx} {CX : CXT} {k j : Nat} {C f : Addr} {ps : List Str} {sp : Sp} (K : PySem.W.Frag) (e : X.K = K) (O : OwnC K C f) (Mt : ∃ fd, Binds X.K fd ps [] ∧ FnOk X.prog X.w X.K X.mg X.base CX k f fd ps sp) (hr : Room j X.A) (hk : k ≤ j := by decide) (hx : Passes CX X E0 := by first | exact pass0 | exact passL) : OpR X (compareOp .Eq) (rOwn K C sp false) := by
  subst e
  exact op_eqOwn O Mt hr hk hx
/-- == and != of two things -/
theorem own_tg {K : PySem.W.Frag} {CT fe : Addr} {H : Hp} {ks : List NK} {v v' : V} {t t' : Tg} {l l' : NK} {Q : VK} {z z' : Str} {ps ps' : List Tg} (C : CsT K CT fe) (nd : ks.Nodup) (ne : Bool) (et : t = .th z ps) (et' : t' = .th z' ps') (h : TgR CT H ks v t l) (h' : TgR CT H ks v' t' l') (b : Bool) (e : b = true ↔ t = t')
    (q : Q (.bl (if ne = true then !b else b)) H) : rOwn K CT (spTEq K CT) ne v v' H Q := by
  have inj := tg_inj nd t v l h t' v' l' h'
  rw [et] at h
  rw [et'] at h'
  cases h with
  | @th a dx p _ vs _ ls n h hp hs hl ho e1 =>
    cases h' with
    | @th a' dx' p' _ vs' _ ls' n' h' hp' hs' hl' ho' e1' =>
      refine ⟨a, dx, _, .ref CT, rfl, h, C.o.ty C.c h', notFirst_self, a, dx, _, _, .ref a', rfl, h, rfl, .inr ⟨a', dx', _, _, rfl, h', rfl, b, ?_, q⟩⟩
      have key : (((n : Nat) : Int) = ((n' : Nat) : Int)) ↔ b = true := by
        rw [e, ← inj]
        constructor
        · intro z
          rw [show n = n' by omega]
        · intro z
          simp only [kTh, NestedKey.tup.injEq, List.cons.injEq, NestedKey.num.injEq] at z
          omega
      cases b with
      | true => rw [decide_eq_true (key.mpr rfl)]
      | false => rw [decide_eq_false (fun z => by cases key.mp z)]
/-- a thing and what is none -/
theorem own_no {K : PySem.W.Frag} {CT fe : Addr} {H : Hp} {ks : List NK} {v y : V} {l : NK} {Q : VK} {z : Str} {ps : List Tg} {u : Value} (C : CsT K CT fe) (ne : Bool) (h : TgR CT H ks v (.th z ps) l) (ty : TyX K H y u) (nf : PySem.W.notFirst K CT u = true) (kn : PySem.W.kitOne K u (.ref CT) = some false) (q : Q (.bl ne) H) : rOwn K CT (spTEq K CT) ne v y H Q := by
  cases h with
  | @th a dx p _ vs _ ls n h hp hs hl ho e1 =>
    exact ⟨a, dx, _, u, rfl, h, ty, nf, a, dx, _, _, y, rfl, h, rfl, .inl ⟨u, ty, kn, false, rfl, by cases ne <;> exact q⟩⟩
theorem nf_ty {K : PySem.W.Frag} {C : Addr} (T : String) (h : (fastBuiltinMro T).map (·.contains (.ref C)) = some false) : PySem.W.notFirst K C (.type T) = true := notFirst_ty h
def rMix (K : PySem.W.Frag) (C : Addr) (sp : Sp) : R2 := fun x y H Q => rEq x y H Q ∨ (rOwn K C sp false x y H Q ∨ rOwnR C sp false x y H Q)
def rMixN (K : PySem.W.Frag) (C : Addr) (sp : Sp) : R2 := fun x y H Q => rNe x y H Q ∨ (rOwn K C sp true x y H Q ∨ rOwnR C sp true x y H Q)
section
variable {X : Cx} {CX : CXT} {k j : Nat} {C f : Addr} {ps : List Str} {sp : Sp}
theorem op_eqMix (O : OwnC X.K C f) (Mt : ∃ fd, Binds X.K fd ps [] ∧ FnOk X.prog X.w X.K X.mg X.base CX k f fd ps sp) (hr : Room j X.A) (hk : k ≤ j := by decide) (hx : Passes CX X E0 := by first | exact pass0 | exact passL) : OpR X (compareOp .Eq) (rMix X.K C sp) := Wc.OpR.or op_eq (Wc.OpR.or (op_eqOwn O Mt hr hk hx) (op_eqOwnR O Mt hr hk hx))
theorem op_neMix (O : OwnC X.K C f) (Mt : ∃ fd, Binds X.K fd ps [] ∧ FnOk X.prog X.w X.K X.mg X.base CX k f fd ps sp) (hr : Room j X.A) (hk : k + 1 ≤ j := by decide) (hx : Passes CX X E0 := by first | exact pass0 | exact passL) : OpR X (compareOp .NotEq) (rMixN X.K C sp) := Wc.OpR.or op_ne (Wc.OpR.or (op_neOwn O Mt hr hk hx) (op_neOwnR O Mt hr hk hx))
end
theorem own_intR {K : PySem.W.Frag} {CT fe : Addr} {H : Hp} {ks : List NK} {v : V} {l : NK} {Q : VK} {z : Str} {ps : List Tg} {i : Int} (C : CsT K CT fe) (ne : Bool) (h : TgR CT H ks v (.th z ps) l) (q : Q (.bl ne) H) : rOwnR CT (spTEq K CT) ne (.int i) v H Q := by
  cases h with
  | @th a dx p _ vs _ ls n h hp hs hl ho e1 =>
    exact ⟨i, a, dx, _, rfl, rfl, h, a, dx, _, _, .int i, rfl, h, rfl, .inl ⟨_, .base (.int i), C.o.ki, false, rfl, by cases ne <;> exact q⟩⟩
theorem nf_int {K : PySem.W.Frag} {C : Addr} : PySem.W.notFirst K C (.type "int") = true := nf_ty "int" (by rfl)
theorem mix_tg {K : PySem.W.Frag} {CT fe : Addr} {H : Hp} {ks : List NK} {v v' : V} {l l' : NK} {Q : VK} (C : CsT K CT fe) (nd : ks.Nodup) : ∀ {t t' : Tg}, TgR CT H ks v t l → TgR CT H ks v' t' l' → ∀ b : Bool, (b = true ↔ t = t') → Q (.bl b) H → rMix K CT (spTEq K CT) v v' H Q
  | .int i, .int i', h, h', b, e, q => by
    cases h
    cases h'
    refine .inl ⟨rfl, ?_⟩
    have : decide (V.int i = V.int i') = b := by
      rw [Bool.eq_iff_iff, e, decide_eq_true_eq]
      exact ⟨fun z => by injection z with z; rw [z], fun z => by injection z with z; rw [z]⟩
    rw [this]
    exact q
  | .int i, .th z' ps', h, h', b, e, q => by
    cases h
    have eb : b = false := by cases b with | false => rfl | true => cases e.mp rfl
    rw [eb] at q
    exact .inr (.inr (own_intR C false h' q))
  | .th z ps, .int i', h, h', b, e, q => by
    have eb : b = false := by cases b with | false => rfl | true => cases e.mp rfl
    rw [eb] at q
    cases h'
    exact .inr (.inl (own_no C false h (.base (.int i')) nf_int C.o.ki q))
  | .th z ps, .th z' ps', h, h', b, e, q => .inr (.inl (own_tg C nd false rfl rfl h h' b e (by exact q)))
theorem mixN_tg {K : PySem.W.Frag} {CT fe : Addr} {H : Hp} {ks : List NK} {v v' : V} {l l' : NK} {Q : VK} (C : CsT K CT fe) (nd : ks.Nodup) : ∀ {t t' : Tg}, TgR CT H ks v t l → TgR CT H ks v' t' l' → ∀ b : Bool, (b = true ↔ t = t') → Q (.bl (!b)) H → rMixN K CT (spTEq K CT) v v' H Q
  | .int i, .int i', h, h', b, e, q => by
    cases h
    cases h'
    refine .inl ⟨rfl, ?_⟩
    have : decide (V.int i = V.int i') = b := by
      rw [Bool.eq_iff_iff, e, decide_eq_true_eq]
      exact ⟨fun z => by injection z with z; rw [z], fun z => by injection z with z; rw [z]⟩
    rw [this]
    exact q
  | .int i, .th z' ps', h, h', b, e, q => by
    cases h
    have eb : b = false := by cases b with | false => rfl | true => cases e.mp rfl
    rw [eb] at q
    exact .inr (.inr (own_intR C true h' q))
  | .th z ps, .int i', h, h', b, e, q => by
    have eb : b = false := by cases b with | false => rfl | true => cases e.mp rfl
    rw [eb] at q
    cases h'
    exact .inr (.inl (own_no C true h (.base (.int i')) nf_int C.o.ki q))
  | .th z ps, .th z' ps', h, h', b, e, q => .inr (.inl (own_tg C nd true rfl rfl h h' b e (by exact q)))

abbrev lamQ1 : Str := (("_law_made_right" : Str) ++ (".<locals>." : Str)) ++ ("<lambda>" : Str)
abbrev lamQ2 : Str := (("_law_chain_right" : Str) ++ (".<locals>." : Str)) ++ ("<lambda>" : Str)
/-- the tables of the defs that make lambdas -/
abbrev TL (Pt Pr : Addr) : List (Addr × Str) := [(Pt, lamQ1), (Pr, lamQ2)]
theorem tl_u1 {Pt Pr : Addr} (ne : Pt ≠ Pr) : ∀ p ∈ TL Pt Pr, p.1 = Pt → p.2 = lamQ1 := fun p hp e => by
  simp only [TL, List.mem_cons, List.not_mem_nil, or_false] at hp
  rcases hp with rfl | rfl
  · rfl
  · exact absurd e.symm ne
theorem tl_u2 {Pt Pr : Addr} (ne : Pt ≠ Pr) : ∀ p ∈ TL Pt Pr, p.1 = Pr → p.2 = lamQ2 := fun p hp e => by
  simp only [TL, List.mem_cons, List.not_mem_nil, or_false] at hp
  rcases hp with rfl | rfl
  · exact absurd e ne
  · rfl

/-- the runtime with its shapes -/
structure Sys (P : Program) (w : World) (K : PySem.W.Frag) (CK CR : Addr) (H : Hp) (r kd tl sh : Addr) (T : List Cl) (n : Nat) (ks : List NK) : Prop where
  R : RtW K CK CR H r kd tl T n
  S : ShAt P w CR H r sh ks
  nk : kd ≠ sh
  nt : tl ≠ sh
section
variable {P : Program} {w : World} {K : PySem.W.Frag} {CK CR : Addr} {H H' : Hp} {r kd tl sh : Addr} {T : List Cl} {n : Nat} {ks ks' : List NK}
theorem Sys.frn {A : List Addr} (S : Sys P w K CK CR H r kd tl sh T n ks) (f : Wc.FrN A H H') (m : Mo H H') (h1 : kd ∉ A) (h2 : tl ∉ A) (h3 : sh ∉ A) : Sys P w K CK CR H' r kd tl sh T n ks := by
  obtain ⟨R, ⟨⟨dx, fs, g1, g2⟩, g3, g4, g5⟩, nk, nt⟩ := S
  exact ⟨R.frn f m h1 h2, ⟨⟨dx, fs, m _ _ rfl g1, g2⟩, g3.fr m (fun o z n => f _ _ h3 n z), g4, g5⟩, nk, nt⟩
theorem Sys.ext (S : Sys P w K CK CR H r kd tl sh T n ks) (e : Wc.Ext H H') : Sys P w K CK CR H' r kd tl sh T n ks := S.frn (e.fr.n (A := [])) e.mo (by simp) (by simp) (by simp)
theorem Sys.made (S : Sys P w K CK CR H r kd tl sh T n ks) (f : Fr [sh] H H') (m : Mo H H') (S' : ShAt P w CR H' r sh ks') : Sys P w K CK CR H' r kd tl sh T n ks' :=
  ⟨S.R.fr f m (by simpa using S.nk) (by simpa using S.nt), S', S.nk, S.nt⟩
theorem Sys.shObj (S : Sys P w K CK CR H r kd tl sh T n ks) : ∃ u, H sh = some u ∧ Imm u = false ∧ ∀ ps, u ≠ .tbl ps := by
  rcases S.S.t with ⟨xs, h, _⟩ | ⟨_, h⟩ <;> exact ⟨_, h, rfl, fun _ z => nomatch z⟩
end
theorem Sys.grow {P : Program} {w : World} {K : PySem.W.Frag} {CK CR : Addr} {H H' : Hp} {r kd tl sh : Addr} {T T' : List Cl} {n n' : Nat} {ks : List NK} (S : Sys P w K CK CR H r kd tl sh T n ks) (f : Fr [kd, tl] H H') (R' : RtW K CK CR H' r kd tl T' n') : Sys P w K CK CR H' r kd tl sh T' n' ks ∧ Mo H H' := by
  obtain ⟨⟨⟨_, _, xs, c1, _⟩, kv0, d0⟩, ⟨⟨dx, fs, g1, g2⟩, g3, g4, g5⟩, nk, nt⟩ := S
  have m : Mo H H' := Mo.fr f fun a ha => by
    simp at ha
    rcases ha with rfl | rfl
    · exact ⟨_, d0, rfl⟩
    · exact ⟨_, c1, rfl⟩
  exact ⟨⟨R', ⟨⟨dx, fs, m _ _ rfl g1, g2⟩, g3.fr m (fun o z _ => f _ _ (by simp; exact ⟨Ne.symm nk, Ne.symm nt⟩) z), g4, g5⟩, nk, nt⟩, m⟩
/-- what a def of the law may change -/
structure Stp (sh pw : Addr) (H H' : Hp) : Prop where
  fr : Fr [sh, pw] H H'
  mo : Mo H H'
theorem Stp.trans {sh pw : Addr} {H H' H2 : Hp} (a : Stp sh pw H H') (b : Stp sh pw H' H2) : Stp sh pw H H2 := ⟨a.fr.trans b.fr, a.mo.trans b.mo⟩
theorem Stp.ext {sh pw : Addr} {H H' : Hp} (e : Wc.Ext H H') : Stp sh pw H H' := ⟨e.fr, e.mo⟩
theorem Stp.sh {sh pw : Addr} {H H' : Hp} (f : Fr [sh] H H') (mo : Mo H H') : Stp sh pw H H' := ⟨f.mono (by simp), mo⟩
theorem Stp.pw {sh pw : Addr} {H H' : Hp} {a b c : Int} (f : Fr [pw] H H') (h : H pw = some (wl a b c)) : Stp sh pw H H' := ⟨f.mono (by simp), Mo.fr1 f h rfl⟩
theorem nd_code {P : Program} {w : World} {d : Addr} {xs : List (NK × Addr × Value)} {q : Str} : HO.ext (NDo P w d xs) ≠ LamX.CodeO d q := fun e => by
  have e2 := HO.ext.inj e
  have g : Heap.get? ⟨Array.replicate (d + 1) ({ cls := .none, data := .fields #[.none, .str q default] } : Obj), {}⟩ d = some ({ cls := .none, data := .fields #[.none, .str q default] } : Obj) := by
    unfold Heap.get?
    simp
  have z : NDo P w d xs ⟨Array.replicate (d + 1) ({ cls := .none, data := .fields #[.none, .str q default] } : Obj), {}⟩ := by
    rw [e2]
    exact ⟨_, _, default, g, rfl, rfl⟩
  obtain ⟨o', es, ep, g', _, hd, _⟩ := z
  rw [g] at g'
  cases g'
  cases hd
theorem tabs_sh {P : Program} {w : World} {T : List (Addr × Str)} {H H' : Hp} {sh : Addr} {kvs : List (NK × V)} (t : LamX.Tabs T H) (f : Wc.Fr [sh] H H') (tb : Tb P w H sh kvs) : LamX.Tabs T H' := fun p hp => by
  obtain ⟨ps, h1, h2, h3⟩ := t p hp
  have n1 : ∀ {a : Addr} {o : HO}, H a = some o → (∀ d xs, d = a → o ≠ .ext (NDo P w d xs)) → o ≠ .dK [] → H' a = some o := fun {a o} ha n n2 => f a o (fun mm => by
    have e : a = sh := List.mem_singleton.mp mm
    rcases tb with ⟨xs, h, _⟩ | ⟨_, h⟩
    · rw [e, h] at ha
      exact n sh xs e.symm (Option.some.inj ha).symm
    · rw [e, h] at ha
      exact n2 (Option.some.inj ha).symm) ha
  refine ⟨ps, n1 h1 (fun _ _ _ z => nomatch z) (fun z => nomatch z), h2, fun pos cv hc => ?_⟩
  obtain ⟨c, e1, e2⟩ := h3 pos cv hc
  refine ⟨c, e1, n1 e2 (fun d xs ed z => ?_) (fun z => nomatch z)⟩
  subst ed
  exact nd_code z.symm
theorem tabs_nd {P : Program} {w : World} {T : List (Addr × Str)} {A : List Addr} {H H' : Hp} (t : LamX.Tabs T H) (f : Wc.Fr A H H') (n : ∀ a, a ∈ A → ∃ u, H a = some u ∧ (∀ ps, u ≠ .tbl ps) ∧ ((∀ φ, u ≠ .ext φ) ∨ ∃ xs, u = .ext (NDo P w a xs))) : LamX.Tabs T H' := fun p hp => by
  obtain ⟨ps, h1, h2, h3⟩ := t p hp
  refine ⟨ps, f _ _ (fun m => ?_) h1, h2, fun pos cv hc => ?_⟩
  · obtain ⟨u, hu, nu, _⟩ := n _ m
    rw [hu] at h1
    exact nu ps (Option.some.inj h1)
  · obtain ⟨c, e1, e2⟩ := h3 pos cv hc
    refine ⟨c, e1, f _ _ (fun m => ?_) e2⟩
    obtain ⟨u, hu, _, nu⟩ := n _ m
    rw [hu] at e2
    rcases nu with nu | ⟨xs, e⟩
    · exact nu _ (Option.some.inj e2)
    · rw [e] at e2
      exact nd_code (Option.some.inj e2)
/-- what stands while the law runs -/
structure Ev (P : Program) (w : World) (K : PySem.W.Frag) (CK CR Pr Ps pw r kd tl sh : Addr) (T : List Cl) (n : Nat) (y : Int) (H : Hp) (ks : List NK) (M : Nat) : Prop where
  S : Sys P w K CK CR H r kd tl sh T n ks
  tb : LamX.Tabs (TL Pr Ps) H
  wl_ : ∃ x z, H pw = some (wl x y z) ∧ WellOk M y z
  n1 : pw ≠ kd
  n2 : pw ≠ tl
  n3 : pw ≠ sh
section
variable {P : Program} {w : World} {K : PySem.W.Frag} {CK CR Pr Ps pw r kd tl sh : Addr} {T : List Cl} {n : Nat} {y : Int} {H H' : Hp} {ks ks' : List NK} {M : Nat}
theorem Ev.ext (v : Ev P w K CK CR Pr Ps pw r kd tl sh T n y H ks M) (e : Wc.Ext H H') : Ev P w K CK CR Pr Ps pw r kd tl sh T n y H' ks M := by
  obtain ⟨S, tb, ⟨x, z, h1, h2⟩, n1, n2, n3⟩ := v
  exact ⟨S.ext e, LamX.Tabs.ext tb e, ⟨x, z, e _ _ h1, h2⟩, n1, n2, n3⟩
theorem Ev.made (v : Ev P w K CK CR Pr Ps pw r kd tl sh T n y H ks M) (f : Wc.Fr [sh] H H') (S' : Sys P w K CK CR H' r kd tl sh T n ks') : Ev P w K CK CR Pr Ps pw r kd tl sh T n y H' ks' M := by
  obtain ⟨S, tb, ⟨x, z, h1, h2⟩, n1, n2, n3⟩ := v
  exact ⟨S', tabs_sh tb f S.S.t, ⟨x, z, f _ _ (by simpa using n3) h1, h2⟩, n1, n2, n3⟩
theorem Ev.lam (v : Ev P w K CK CR Pr Ps pw r kd tl sh T n y H ks M) (f : Wc.FrN [] H H') (tb : LamX.Tabs (TL Pr Ps) H') : Ev P w K CK CR Pr Ps pw r kd tl sh T n y H' ks M := by
  obtain ⟨S, _, ⟨x, z, h1, h2⟩, n1, n2, n3⟩ := v
  exact ⟨S.frn f (f.mo (by simp)) (by simp) (by simp) (by simp), tb, ⟨x, z, f _ _ (by simp) (fun _ q => by unfold wl at q; cases q) h1, h2⟩, n1, n2, n3⟩
theorem Ev.draw {x z x' z' : Int} {M' : Nat} (v : Ev P w K CK CR Pr Ps pw r kd tl sh T n y H ks M) (f : Wc.Fr [pw] H H') (h : H pw = some (wl x y z)) (h' : H' pw = some (wl x' y z')) (wo : WellOk M' y z') : Ev P w K CK CR Pr Ps pw r kd tl sh T n y H' ks M' ∧ Mo H H' := by
  obtain ⟨S, tb, _, n1, n2, n3⟩ := v
  have m : Mo H H' := Mo.fr1 f h rfl
  exact ⟨⟨S.frn f.n m (by simpa using Ne.symm n1) (by simpa using Ne.symm n2) (by simpa using Ne.symm n3), tabs_fr tb f (fun q hq => by
    rw [show q = pw by simpa using hq]
    exact ⟨_, h, (fun ps z => by unfold wl at z; cases z), (fun φ z => by unfold wl at z; cases z)⟩), ⟨x', z', h', wo⟩, n1, n2, n3⟩, m⟩
end
theorem Ev.stp {P : Program} {w : World} {K : PySem.W.Frag} {CK CR Pr Ps pw r kd tl sh : Addr} {T : List Cl} {n : Nat} {y : Int} {H H' : Hp} {ks ks' : List NK} {M M' : Nat} {x' z' : Int} (v : Ev P w K CK CR Pr Ps pw r kd tl sh T n y H ks M) (st : Stp sh pw H H') (S' : Sys P w K CK CR H' r kd tl sh T n ks') (h' : H' pw = some (wl x' y z')) (wo : WellOk M' y z') : Ev P w K CK CR Pr Ps pw r kd tl sh T n y H' ks' M' := by
  obtain ⟨S, tb, ⟨x, z, h1, h2⟩, n1, n2, n3⟩ := v
  refine ⟨S', tabs_nd (P := P) (w := w) tb st.fr (fun a ha => ?_), ⟨x', z', h', wo⟩, n1, n2, n3⟩
  simp at ha
  rcases ha with rfl | rfl
  · rcases S.S.t with ⟨xs, h, _⟩ | ⟨_, h⟩
    · exact ⟨_, h, (fun ps z => nomatch z), .inr ⟨xs, rfl⟩⟩
    · exact ⟨_, h, (fun ps z => nomatch z), .inl (fun φ z => nomatch z)⟩
  · exact ⟨_, h1, (fun ps z => by unfold wl at z; cases z), .inl (fun φ z => by unfold wl at z; cases z)⟩
theorem Ev.grow {P : Program} {w : World} {K : PySem.W.Frag} {CK CR Pr Ps pw r kd tl sh : Addr} {T T' : List Cl} {n n' : Nat} {y : Int} {H H' : Hp} {ks : List NK} {M : Nat} (v : Ev P w K CK CR Pr Ps pw r kd tl sh T n y H ks M) (f : Wc.Fr [kd, tl] H H') (R' : RtW K CK CR H' r kd tl T' n') : Ev P w K CK CR Pr Ps pw r kd tl sh T' n' y H' ks M ∧ Mo H H' := by
  obtain ⟨S, tb, ⟨x, z, h1, h2⟩, n1, n2, n3⟩ := v
  obtain ⟨S', m⟩ := S.grow f R'
  obtain ⟨⟨_, _, xs, c1, _⟩, kv0, d0⟩ := S.R
  refine ⟨⟨S', tabs_nd (P := P) (w := w) tb f (fun a ha => ?_), ⟨x, z, f _ _ (by simp; exact ⟨n1, n2⟩) h1, h2⟩, n1, n2, n3⟩, m⟩
  simp at ha
  rcases ha with rfl | rfl
  · exact ⟨_, d0, (fun ps z => nomatch z), .inl (fun φ z => nomatch z)⟩
  · exact ⟨_, c1, (fun ps z => nomatch z), .inl (fun φ z => nomatch z)⟩
/-- .. beside the tables -/
structure StN (sh pw : Addr) (H H' : Hp) : Prop where
  fr : Wc.FrN [sh, pw] H H'
  mo : Mo H H'
theorem StN.trans {sh pw : Addr} {H H' H2 : Hp} (a : StN sh pw H H') (b : StN sh pw H' H2) : StN sh pw H H2 := ⟨a.fr.trans b.fr, a.mo.trans b.mo⟩
theorem Stp.n {sh pw : Addr} {H H' : Hp} (a : Stp sh pw H H') : StN sh pw H H' := ⟨Wc.Fr.n a.fr, a.mo⟩
theorem StN.lam {sh pw : Addr} {H H' : Hp} (f : Wc.FrN [] H H') : StN sh pw H H' := ⟨f.mono (by simp), f.mo (by simp)⟩
theorem Ev.up {P : Program} {w : World} {K : PySem.W.Frag} {CK CR Pr Ps pw r kd tl sh : Addr} {T : List Cl} {n : Nat} {y : Int} {H : Hp} {ks : List NK} {M M' : Nat} (v : Ev P w K CK CR Pr Ps pw r kd tl sh T n y H ks M) (h : M ≤ M') : Ev P w K CK CR Pr Ps pw r kd tl sh T n y H ks M' := by
  obtain ⟨S, tb, ⟨x, z, h1, h2⟩, n1, n2, n3⟩ := v
  exact ⟨S, tb, ⟨x, z, h1, h2.up h⟩, n1, n2, n3⟩
theorem Ev.own {P : Program} {w : World} {K : PySem.W.Frag} {CK CR Pr Ps pw r kd tl sh : Addr} {T : List Cl} {n : Nat} {y : Int} {H H' : Hp} {ks : List NK} {M : Nat} {A : List Addr} (v : Ev P w K CK CR Pr Ps pw r kd tl sh T n y H ks M) (f : Wc.Fr A H H') (m : Mo H H') (hA : ∀ q, q ∈ A → q ≠ kd ∧ q ≠ tl ∧ q ≠ sh ∧ q ≠ pw) (tb : LamX.Tabs (TL Pr Ps) H') : Ev P w K CK CR Pr Ps pw r kd tl sh T n y H' ks M := by
  obtain ⟨S, _, ⟨x, z, h1, h2⟩, n1, n2, n3⟩ := v
  exact ⟨S.frn f.n m (fun h => (hA _ h).1 rfl) (fun h => (hA _ h).2.1 rfl) (fun h => (hA _ h).2.2.1 rfl), tb, ⟨x, z, f _ _ (fun h => (hA _ h).2.2.2 rfl) h1, h2⟩, n1, n2, n3⟩

mutual
/-- the names of classes are texts -/
def nmT : Tg → Bool
  | .int _ => true
  | .th of ps => PyData.strOk of && nmTs ps
def nmTs : List Tg → Bool
  | [] => true
  | p :: ps => nmT p && nmTs ps
end
theorem nmTs_of : ∀ {ts : List Tg}, (∀ t, t ∈ ts → nmT t = true) → nmTs ts = true
  | [], _ => rfl
  | t :: ts, h => by
    show (nmT t && nmTs ts) = true
    rw [h t List.mem_cons_self, nmTs_of fun u hu => h u (List.mem_cons_of_mem _ hu)] <;> rfl

end K03

set_option Elab.async false
set_option linter.all false
set_option maxRecDepth 100000
set_option maxHeartbeats 4000000
namespace K03
open PySem PySem.Spec PyProof.Rows L2 Wc
local macro_rules | `(tactic| walk_at "lk") => `(tactic| first | with_reducible exact Look.here | (with_reducible apply Look.there; walk_at "lk"))
local macro_rules | `(tactic| walk_at "ul") => `(tactic| first | with_reducible exact UpL.here | (with_reducible apply UpL.there; walk_at "ul"))
local macro_rules | `(tactic| walk_at "ga") => `(tactic| first | exact GetAt.here | (apply GetAt.there; walk_at "ga"))
local macro_rules | `(tactic| walk_at "sa") => `(tactic| first | exact SetAt.here | (apply SetAt.there; walk_at "sa"))
local macro_rules | `(tactic| walk_at "hp") => `(tactic| first | assumption | (refine' KH.find ?k ?h; (case k => assumption); (case h => walk_at "lk")))
local macro_rules | `(tactic| walk_at "sql") => `(tactic| first | assumption | (refine' SqL.of ?h; (case h => walk_at "hp")) | (refine' Fr.sql (KH.fr ?k) ?n ?h; (case k => assumption); (case h => assumption); (case n => (simp; done))))
local macro_rules | `(tactic| walk_at "sqt") => `(tactic| first | assumption | (refine' SqT.of ?h; (case h => walk_at "hp")))
local macro_rules | `(tactic| walk_at "side") => `(tactic| first | exact (show (0 : Int) < _ by decide) | exact (show (0 : Int) < _ by omega) | exact ⟨by decide, by decide, by decide⟩ | exact ⟨by decide, by decide, by omega⟩ | exact ⟨by decide, by decide⟩ | exact ⟨by omega, by omega⟩ | exact Or.inl ⟨by omega, by omega⟩ | exact Or.inr ⟨by omega, by omega⟩)
local macro_rules | `(tactic| walk_at "siz") => `(tactic| first | (refine sz_of ?_; first | decide | omega | (simp; done) | (simp; omega)) | (refine sz_lt ?_; first | decide | omega | (simp; done) | (simp; omega)))
local macro_rules | `(tactic| walk_at "own") => `(tactic| first | (exact Or.inr (by assumption)) | (refine Or.inl ?_; simp; done))
local macro_rules | `(tactic| walk_at "al") => `(tactic| (refine' AllocO.mk ?k ?_; (case k => assumption); intro _ _ _ _))
local macro_rules | `(tactic| walk_at "up") => `(tactic| (refine' UpdO.mk ?k ?h ?m ?_; (case k => assumption); (case h => walk_at "ul"); (case m => walk_at "own"); intro _ _))
local macro_rules | `(tactic| walk_at "st") => `(tactic| first
  | ((with_reducible refine' r_var ?h ?_); (case h => walk_at "ga"))
  | (with_reducible refine' r_seq ?_) | (with_reducible refine' r_next ?_) | (with_reducible refine' r_asg ?_) | (with_reducible refine' r_drop ?_) | (with_reducible refine' r_ret ?_) | (with_reducible refine' r_retN ?_)
  | (with_reducible refine' r_ifs ?_) | (with_reducible refine' r_cont ?_) | (with_reducible refine' r_break ?_) | (with_reducible refine' r_c ?_) | (with_reducible refine' r_op ?_) | (with_reducible refine' r_un ?_)
  | (with_reducible refine' r_test ?_) | (with_reducible refine' r_tB ?_) | (with_reducible refine' r_not ?_) | (with_reducible refine' r_and ?_) | (with_reducible refine' r_or ?_) | (with_reducible refine' r_notV ?_)
  | (with_reducible refine' r_andV ?_) | (with_reducible refine' r_orV ?_) | (with_reducible refine' r_ifE ?_) | (with_reducible refine' r_bl ?_) | (with_reducible refine' r_nil ?_) | (with_reducible refine' r_cons ?_)
  | (with_reducible refine' r_tup ?_) | (with_reducible refine' r_lst ?_) | (with_reducible refine' r_cb ?_) | (with_reducible refine' r_call ?_) | ((with_reducible refine' r_name ?h ?_); (case h => walk_at "sa")) | (with_reducible refine' r_gnil ?_)
  | (with_reducible refine' r_gcons ?_) | (with_reducible refine' r_gsub ?_) | (with_reducible refine' r_par ?_) | (with_reducible refine' r_par2 ?_) | (with_reducible refine' r_I0 ?_) | (with_reducible refine' r_U ?_)
  | ((with_reducible refine' r_eq ?h ?_); (case h => rfl)) | ((with_reducible refine' r_ne ?h ?_); (case h => rfl))
  | ((with_reducible refine' r_ixL ?h ?a ?_); (case h => walk_at "sql"); (case a => rfl))
  | ((with_reducible refine' r_ixT ?h ?a ?_); (case h => walk_at "sqt"); (case a => rfl))
  | ((with_reducible refine' r_setL ?h ?a ?_); (case h => walk_at "hp"); (case a => rfl))
  | ((with_reducible refine' r_I ?c ?_); (case c => walk_at "side"))
  | (with_reducible refine' r_sl ?_) | (with_reducible refine' r_part ?_) | (with_reducible refine' r_nopart ?_) | (with_reducible refine' r_ii ?_)
  | ((with_reducible refine' r_slL ?h ?_); (case h => walk_at "sql"))
  | (with_reducible refine' r_bm ?_) | (with_reducible refine' r_bm0 ?_) | (with_reducible refine' r_int1 ?_) | (with_reducible refine' r_int1b ?_)
  | ((with_reducible refine' r_aug ?h ?_); (case h => walk_at "ga"))
  | ((with_reducible refine' r_cat ?a ?b ?z ?_); (case a => walk_at "hp"); (case b => walk_at "hp"); (case z => walk_at "siz"))
  | ((with_reducible refine' r_append ?a ?z ?_); (case a => walk_at "hp"); (case z => walk_at "siz"))
  | ((with_reducible refine' And.intro ?z ?_); (case z => first | walk_at "siz" | exact Or.inl ⟨rfl, _, by walk_at "sql"⟩))
  | ((with_reducible refine' r_gtup ?h ?l ?_); (case h => walk_at "sqt"); (case l => rfl))
  | (with_reducible refine' r_forL ?_) | (with_reducible refine' r_forE ?_) | (with_reducible refine' r_forR ?_) | ((with_reducible refine' r_forL2 ?h ?_); (case h => walk_at "sql")) | ((with_reducible refine' r_forE2 ?h ?_); (case h => walk_at "sql"))
  | (with_reducible refine' r_lcR ?_) | ((with_reducible refine' r_iteT ?h ?_); (case h => rfl)) | ((with_reducible refine' r_iteF ?h ?_); (case h => rfl))
  | (with_reducible refine' r_dnew ?_) | (with_reducible refine' r_vei ?_) | (with_reducible refine' r_ost ?_) | (with_reducible refine' r_mkV ?_) | (with_reducible refine' r_mkX ?_) | (with_reducible refine' r_xfld ?_)
  | ((with_reducible refine' MkG.mk ?o ?n ?k ?_); (case o => exact ErrOk.o (by assumption)); (case n => exact ErrOk.no (by assumption)); (case k => assumption); intro _ _ _ _)
  | ((with_reducible refine' AllocX.mk ?k ?_); (case k => assumption); intro _ _ _ _)
  | (with_reducible refine' r_chain ?_) | (with_reducible refine' r_lcS ?_) | (with_reducible refine' r_lcS2 ?_) | (with_reducible refine' r_lcL ?_) | (with_reducible refine' r_lcT ?_) | (with_reducible refine' r_lcI ?_) | (with_reducible refine' r_yes ?_)
  | (with_reducible refine' r_fld ?_) | (with_reducible refine' r_sfld ?_) | (with_reducible refine' r_meth ?_) | (with_reducible refine' r_make ?_) | (with_reducible refine' r_dget ?_) | (with_reducible refine' r_din ?_) | (with_reducible refine' r_dput ?_)
  | ((with_reducible refine' r_disp ?k ?_); (case k => assumption); intro _ _ _ _) | (with_reducible refine' r_pnil ?_) | (with_reducible refine' r_pcons ?_)
  | (walk_at "al") | (walk_at "up"))
local macro_rules | `(tactic| walk_at "go") => `(tactic| repeat walk_at "st")

theorem un65 {A : Around} {k : Nat} (r : Room k A) : A.units + 65 < cLine := by
  have := r.un
  omega
/-- the law's code of a value -/
inductive Cd where
  | int (i : Int)
  | th (z : Str) (ns : List Nat)
def datC : Cd → PyData
  | .int i => .tuple [.str "int", .int i]
  | .th z ns => .tuple [.str z, .tuple (ns.map fun n => .int (n : Nat))]
def cdOk : Cd → Bool
  | .int _ => true
  | .th z _ => PyData.strOk z
theorem nats_eqv : ∀ ns ns' : List Nat, PyData.eqvAll (ns.map fun n => PyData.int (n : Nat)) (ns'.map fun n => PyData.int (n : Nat)) = true ↔ ns = ns'
  | [], [] => ⟨fun _ => rfl, fun _ => rfl⟩
  | [], _ :: _ => ⟨(fun e => by cases e), (fun e => by cases e)⟩
  | _ :: _, [] => ⟨(fun e => by cases e), (fun e => by cases e)⟩
  | n :: ns, n' :: ns' => by
    show (((n : Int) == (n' : Int)) && PyData.eqvAll (ns.map fun n => PyData.int (n : Nat)) (ns'.map fun n => PyData.int (n : Nat))) = true ↔ _
    rw [Bool.and_eq_true, beq_iff_eq, nats_eqv ns ns', List.cons.injEq]
    constructor
    · rintro ⟨e1, e2⟩
      exact ⟨by omega, e2⟩
    · rintro ⟨e1, e2⟩
      exact ⟨by omega, e2⟩
theorem datC_eqv : ∀ (c d : Cd), PyData.eqv (datC c) (datC d) = true ↔ c = d
  | .int i, .int j => by
    show ((("int" : Str) == ("int" : Str)) && ((i == j) && true)) = true ↔ _
    rw [beq_self_eq_true, Bool.true_and, Bool.and_true, beq_iff_eq]
    exact ⟨fun e => by rw [e], fun e => by cases e; rfl⟩
  | .int i, .th z ns => by
    constructor
    · intro e
      have e : ((("int" : Str) == z) && (PyData.eqv (.int i) (.tuple (ns.map fun n => PyData.int (n : Nat))) && true)) = true := e
      rw [show PyData.eqv (.int i) (.tuple (ns.map fun n => PyData.int (n : Nat))) = false from rfl, Bool.false_and, Bool.and_false] at e
      cases e
    · intro e
      cases e
  | .th z ns, .int i => by
    constructor
    · intro e
      have e : ((z == ("int" : Str)) && (PyData.eqv (.tuple (ns.map fun n => PyData.int (n : Nat))) (.int i) && true)) = true := e
      rw [show PyData.eqv (.tuple (ns.map fun n => PyData.int (n : Nat))) (.int i) = false from rfl, Bool.false_and, Bool.and_false] at e
      cases e
    · intro e
      cases e
  | .th z ns, .th z' ns' => by
    show ((z == z') && (PyData.eqvAll (ns.map fun n => PyData.int (n : Nat)) (ns'.map fun n => PyData.int (n : Nat)) && true)) = true ↔ _
    rw [Bool.and_eq_true, Bool.and_true, beq_iff_eq, nats_eqv]
    exact ⟨fun ⟨a, b⟩ => by rw [a, b], fun e => by cases e; exact ⟨rfl, rfl⟩⟩
theorem nats_lay : ∀ ns : List Nat, PyData.canLayAll0 (ns.map fun n => PyData.int (n : Nat)) = true ∧ PyData.depthAll (ns.map fun n => PyData.int (n : Nat)) = 0
  | [] => ⟨rfl, rfl⟩
  | n :: ns => by
    obtain ⟨h1, h2⟩ := nats_lay ns
    refine ⟨?_, ?_⟩
    · show (PyData.canLay0 (.int (n : Nat)) && PyData.canLayAll0 (ns.map fun n => PyData.int (n : Nat))) = true
      rw [h1, show PyData.canLay0 (.int (n : Nat)) = true by simp [PyData.canLay0]] <;> rfl
    · show max 0 (PyData.depthAll (ns.map fun n => PyData.int (n : Nat))) = 0
      rw [h2] <;> rfl
theorem datC_lay : ∀ (c : Cd), cdOk c = true → PyData.canLay0 (datC c) = true ∧ PyData.depth (datC c) ≤ 2
  | .int i, _ => by
    refine ⟨?_, by show max 0 (max 0 0) + 1 ≤ 2; decide⟩
    have c2 : PyData.canLay0 (.str "int") = true := by simp [PyData.canLay0]; decide +kernel
    simp [datC, PyData.canLay0, PyData.canLayAll0] at c2 ⊢
    exact c2
  | .th z ns, h => by
    have h : PyData.strOk z = true := h
    have c2 : PyData.canLay0 (.str z) = true := by simpa [PyData.canLay0] using h
    obtain ⟨h1, h2⟩ := nats_lay ns
    refine ⟨?_, ?_⟩
    · show (PyData.canLay0 (.str z) && (PyData.canLay0 (.tuple (ns.map fun n => PyData.int (n : Nat))) && true)) = true
      rw [c2, show PyData.canLay0 (.tuple (ns.map fun n => PyData.int (n : Nat))) = PyData.canLayAll0 (ns.map fun n => PyData.int (n : Nat)) by simp [PyData.canLay0], h1] <;> rfl
    · show max 0 (max (PyData.depthAll (ns.map fun n => PyData.int (n : Nat)) + 1) 0) + 1 ≤ 2
      rw [h2] <;> decide
theorem datC_sh {c : Cd} (h : cdOk c = true) : SeqAt.shaped (datC c) = true := by
  obtain ⟨h1, h2⟩ := datC_lay c h
  show (PyData.canLay0 (datC c) && decide (PyData.depth (datC c) ≤ 64)) = true
  rw [h1, decide_eq_true (by omega)] <;> rfl
theorem datCs_lay : ∀ {cs : List Cd}, (∀ c, c ∈ cs → cdOk c = true) → PyData.canLayAll0 (cs.map datC) = true ∧ PyData.depthAll (cs.map datC) ≤ 2
  | [], _ => ⟨rfl, Nat.zero_le _⟩
  | c :: cs, h => by
    obtain ⟨h1, h2⟩ := datCs_lay (cs := cs) fun d hd => h d (List.mem_cons_of_mem _ hd)
    obtain ⟨h3, h4⟩ := datC_lay c (h c List.mem_cons_self)
    refine ⟨?_, ?_⟩
    · show (PyData.canLay0 (datC c) && PyData.canLayAll0 (cs.map datC)) = true
      rw [h1, h3] <;> rfl
    · show max (PyData.depth (datC c)) (PyData.depthAll (cs.map datC)) ≤ 2
      omega
theorem datCs_sh {cs : List Cd} (h : ∀ c, c ∈ cs → cdOk c = true) : SeqAt.shaped (.list (cs.map datC)) = true := by
  obtain ⟨h1, h2⟩ := datCs_lay h
  show (PyData.canLay0 (.list (cs.map datC)) && decide (PyData.depthAll (cs.map datC) + 1 ≤ 64)) = true
  rw [show PyData.canLay0 (.list (cs.map datC)) = PyData.canLayAll0 (cs.map datC) by simp [PyData.canLay0], h1, decide_eq_true (by omega)] <;> rfl
/-- a code on the heap -/
def CdR (H : Hp) (v : V) : Cd → Prop
  | .int i => ∃ a, v = .ref a ∧ H a = some (.tup [.str "int", .int i])
  | .th z ns => ∃ a b, v = .ref a ∧ H a = some (.tup [.str z, .ref b]) ∧ H b = some (.tup (ns.map fun n => V.int (n : Nat)))
theorem CdR.mo {H H' : Hp} {v : V} {c : Cd} (h : CdR H v c) (m : Mo H H') : CdR H' v c := by
  cases c with
  | int i =>
    obtain ⟨a, e, h⟩ := h
    exact ⟨a, e, m _ _ rfl h⟩
  | th z ns =>
    obtain ⟨a, b, e, h1, h2⟩ := h
    exact ⟨a, b, e, m _ _ rfl h1, m _ _ rfl h2⟩
theorem nats_dp {K : PySem.W.Frag} {H : Hp} : ∀ ns : List Nat, DpAll K H (ns.map fun n => V.int (n : Nat)) (ns.map fun n => PyData.int (n : Nat))
  | [] => .nil
  | n :: ns => .cons (.int _) (nats_dp ns)
theorem CdR.dp {K : PySem.W.Frag} {H : Hp} {v : V} {c : Cd} (h : CdR H v c) : Dp K H v (datC c) := by
  cases c with
  | int i =>
    obtain ⟨a, rfl, h⟩ := h
    exact .tup (SqT.of h) (.cons (.str _) (.cons (.int _) .nil))
  | th z ns =>
    obtain ⟨a, b, rfl, h1, h2⟩ := h
    exact .tup (SqT.of h1) (.cons (.str _) (.cons (.tup (SqT.of h2) (nats_dp ns)) .nil))
theorem cds_dp {K : PySem.W.Frag} {H : Hp} {vs : List V} {cs : List Cd} (h : PySem.Paired (CdR H) vs cs) : DpAll K H vs (cs.map datC) := by
  induction h with
  | nil => exact .nil
  | cons h _ ih => exact .cons h.dp ih
theorem cd_any {cs : List Cd} {c : Cd} : ((cs.map datC).any fun z => PyData.eqv z (datC c)) = true ↔ c ∈ cs := by
  rw [List.any_eq_true]
  constructor
  · rintro ⟨x, hx, e⟩
    obtain ⟨d, hd, rfl⟩ := List.mem_map.mp hx
    rw [(datC_eqv d c).mp e] at hd
    exact hd
  · intro h
    exact ⟨_, List.mem_map_of_mem h, (datC_eqv c c).mpr rfl⟩
mutual
/-- a value's number -/
inductive NumR (cs : List Cd) : Tg → Nat → Prop
  | int {i : Int} {n : Nat} : cs[n]? = some (.int i) → NumR cs (.int i) n
  | th {z : Str} {ps : List Tg} {ns : List Nat} {n : Nat} : cs[n]? = some (.th z ns) → NumRs cs ps ns → NumR cs (.th z ps) n
inductive NumRs (cs : List Cd) : List Tg → List Nat → Prop
  | nil : NumRs cs [] []
  | cons {t : Tg} {n : Nat} {ts : List Tg} {ns : List Nat} : NumR cs t n → NumRs cs ts ns → NumRs cs (t :: ts) (n :: ns)
end
theorem cd_pre {cs cs' : List Cd} (pk : ∃ l, cs' = cs ++ l) {n : Nat} {c : Cd} (e : cs[n]? = some c) : cs'[n]? = some c := by
  obtain ⟨l, rfl⟩ := pk
  rw [List.getElem?_append_left (List.getElem?_eq_some_iff.mp e).1]
  exact e
mutual
theorem NumR.pre {cs cs' : List Cd} (pk : ∃ l, cs' = cs ++ l) : ∀ (t : Tg) (n : Nat), NumR cs t n → NumR cs' t n
  | .int i, _, h => by cases h with | int h => exact .int (cd_pre pk h)
  | .th z ps, _, h => by cases h with | th h r => exact .th (cd_pre pk h) (NumRs.pre pk ps _ r)
theorem NumRs.pre {cs cs' : List Cd} (pk : ∃ l, cs' = cs ++ l) : ∀ (ts : List Tg) (ns : List Nat), NumRs cs ts ns → NumRs cs' ts ns
  | [], _, h => by cases h; exact .nil
  | t :: ts, _, h => by cases h with | cons h r => exact .cons (NumR.pre pk t _ h) (NumRs.pre pk ts _ r)
end
theorem cd_at {cs : List Cd} (nd : cs.Nodup) {i j : Nat} {k : Cd} (h : cs[i]? = some k) (h' : cs[j]? = some k) : i = j := by
  obtain ⟨hi, e⟩ := List.getElem?_eq_some_iff.mp h
  obtain ⟨hj, e'⟩ := List.getElem?_eq_some_iff.mp h'
  exact (List.getElem_inj nd).mp (e.trans e'.symm)
mutual
theorem num_inj {cs : List Cd} (nd : cs.Nodup) : ∀ (t : Tg) (n : Nat), NumR cs t n → ∀ (t' : Tg) (n' : Nat), NumR cs t' n' → (n = n' ↔ t = t')
  | .int i, n, h, t', n', h' => by
    cases h with
    | int h =>
      cases h' with
      | int h' =>
        constructor
        · intro e
          rw [e, h'] at h
          cases h
          rfl
        · intro e
          cases e
          exact cd_at nd h h'
      | th h' _ =>
        constructor
        · intro e
          rw [e, h'] at h
          cases h
        · intro e
          cases e
  | .th z ps, n, h, t', n', h' => by
    cases h with
    | th h r =>
      cases h' with
      | int h' =>
        constructor
        · intro e
          rw [e, h'] at h
          cases h
        · intro e
          cases e
      | th h' r' =>
        have ih := nums_inj nd ps _ r _ _ r'
        constructor
        · intro e
          rw [e, h'] at h
          cases h
          rw [ih.mp rfl]
        · intro e
          cases e
          have := ih.mpr rfl
          subst this
          exact cd_at nd h h'
theorem nums_inj {cs : List Cd} (nd : cs.Nodup) : ∀ (ts : List Tg) (ns : List Nat), NumRs cs ts ns → ∀ (ts' : List Tg) (ns' : List Nat), NumRs cs ts' ns' → (ns = ns' ↔ ts = ts')
  | [], _, h, _, _, h' => by
    cases h
    cases h' with
    | nil => exact ⟨fun _ => rfl, fun _ => rfl⟩
    | cons _ _ => exact ⟨(fun e => nomatch e), (fun e => nomatch e)⟩
  | t :: ts, _, h, _, _, h' => by
    cases h with
    | cons h r =>
      cases h' with
      | nil => exact ⟨(fun e => nomatch e), (fun e => nomatch e)⟩
      | cons h' r' =>
        have i1 := num_inj nd t _ h _ _ h'
        have i2 := nums_inj nd ts _ r _ _ r'
        rw [List.cons.injEq, List.cons.injEq, i1, i2]
end
section
variable {P : Program} {w : World} {K : PySem.W.Frag} {mg : Str → Option Value} {base : Heap} {f : Addr} {fd : FuncData}
def spCoded : Sp := fun vs H Q _ => ∃ lc v c cvs cs, vs = [.ref lc, v] ∧ CdR H v c ∧ cdOk c = true ∧ H lc = some (.lst cvs) ∧ PySem.Paired (CdR H) cvs cs ∧ cs.Nodup ∧ (∀ c, c ∈ cs → cdOk c = true) ∧ cs.length ≤ 1000 ∧
  ∀ n cvs' cs' H', cs'[n]? = some c → (cs' = cs ∨ cs' = cs ++ [c]) → cs'.Nodup → PySem.Paired (CdR H') cvs' cs' → H' lc = some (.lst cvs') → Wc.Fr [lc] H H' → Q (.int ((n : Nat) : Int)) H'
theorem ok_coded (F : FnP K "_law_coded" s_l_coded f fd) (T : Bt mg) : FnOk P w K mg base CX0 1 f fd ["_law_codes", "_law_code"] spCoded := by
  refine F.ok sc_l_coded (fun vs H Q E h => ?_) (fun cdv A outer s H vs Q E hr h => ?_)
  · obtain ⟨lc, v, c, cvs, cs, rfl, _⟩ := h
    rfl
  · refine ⟨_, PSs.nox (pss_cons (ps_if (pt_cmpR (op_notInD (un65 hr)) (pv 1) (pv 0) (by rfl)) (pss_one (ps_expr (pe_bm PySem.F.plainAttrs_list PySem.F.slot_list_append PySem.F.type_list_append mt_append (pv 0) (pa_cons (pv 1) pa_nil)))) pss_nil)
      (pss_one (ps_ret (pe_bm PySem.F.plainAttrs_list PySem.F.slot_list_index PySem.F.type_list_index (mt_indexD (un65 hr)) (pv 0) (pa_cons (pv 1) pa_nil))))), ?_⟩
    obtain ⟨lc, v, c, cvs, cs, rfl, hv, okc, hlc, hcs, nd, okcs, hz, k⟩ := h
    rw [show L2.start ["_law_codes", "_law_code"] [V.ref lc, v] = ([some (V.ref lc), some (v)] : List (Option V)) from rfl]
    have hlen := Paired.length hcs
    have kh := KH.start1 hlc
    have fin : ∀ (cvs' : List V) (cs' : List Cd) (H' : Hp) (R : VK), H' lc = some (.lst cvs') → PySem.Paired (CdR H') cvs' cs' → cs'.Nodup → (∀ c, c ∈ cs' → cdOk c = true) → CdR H' v c → c ∈ cs' → (∀ n, cs'[n]? = some c → R (.int ((n : Nat) : Int)) H') → rIndexD K (.ref lc) [v] H' R := fun cvs' cs' H' R h1 h2 h3 h4 h5 h6 h7 => by
      obtain ⟨j, hj⟩ := List.getElem?_of_mem h6
      refine ⟨lc, v, datC c, cs'.map datC, j, datC c, rfl, rfl, .lst (SqL.of h1) (cds_dp h2), h5.dp, datCs_sh h4, datC_sh okc, by rw [List.getElem?_map, hj] <;> rfl, (datC_eqv c c).mpr rfl, fun m' z' hm hz' => ?_, h7 j hj⟩
      rw [List.getElem?_map] at hz'
      obtain ⟨d, hd, rfl⟩ := Option.map_eq_some_iff.mp hz'
      cases q : PyData.eqv (datC d) (datC c) with
      | false => rfl
      | true =>
        rw [(datC_eqv d c).mp q] at hd
        exact absurd (cd_at h3 hd hj) (by omega)
    walk_at "go"
    refine ⟨datC c, cs.map datC, hv.dp, .lst (SqL.of hlc) (cds_dp hcs), datC_sh okc, datCs_sh okcs, ?_⟩
    by_cases hm : c ∈ cs
    · rw [cd_any.mpr hm]
      walk_at "go"
      refine fin cvs cs H _ hlc hcs nd okcs hv hm fun n hn => ?_
      exact k n cvs cs H hn (.inl rfl) nd hcs hlc (Wc.Fr.refl _ _)
    · rw [show ((cs.map datC).any fun z => PyData.eqv z (datC c)) = false from by cases q : ((cs.map datC).any fun z => PyData.eqv z (datC c)) with | false => rfl | true => exact absurd (cd_any.mp q) hm]
      have hcz : cvs.length < sizeLine := sz_lt (by omega)
      walk_at "go"
      rename_i H1 k1
      have f1 : Wc.Fr [lc] H H1 := k1.fr
      have h1 := k1.find (p := lc) .here
      have m1 : Mo H H1 := Mo.fr1 f1 hlc rfl
      have P1 : PySem.Paired (CdR H1) (cvs ++ [v]) (cs ++ [c]) := Paired.snoc (Paired.mapP hcs fun _ _ z => z.mo m1) (hv.mo m1)
      have nd1 : (cs ++ [c]).Nodup := by
        rw [List.nodup_append]
        exact ⟨nd, by simp, fun a ha b hb e => hm (by rw [List.mem_singleton.mp hb] at e; rw [← e]; exact ha)⟩
      have ok1 : ∀ d, d ∈ cs ++ [c] → cdOk d = true := fun d hd => by
        rcases List.mem_append.mp hd with hd | hd
        · exact okcs d hd
        · rw [List.mem_singleton.mp hd]
          exact okc
      refine fin _ _ H1 _ h1 P1 nd1 ok1 (hv.mo m1) (by simp) fun n hn => ?_
      exact k n _ _ H1 hn (.inr rfl) nd1 P1 h1 f1
end
end K03

set_option Elab.async false
set_option linter.all false
set_option maxRecDepth 100000
set_option maxHeartbeats 8000000
namespace K03
open PySem PySem.Spec PyProof.Rows L2 Wc
local macro_rules | `(tactic| walk_at "lk") => `(tactic| first | with_reducible exact Look.here | (with_reducible apply Look.there; walk_at "lk"))
local macro_rules | `(tactic| walk_at "ul") => `(tactic| first | with_reducible exact UpL.here | (with_reducible apply UpL.there; walk_at "ul"))
local macro_rules | `(tactic| walk_at "ga") => `(tactic| first | exact GetAt.here | (apply GetAt.there; walk_at "ga"))
local macro_rules | `(tactic| walk_at "sa") => `(tactic| first | exact SetAt.here | (apply SetAt.there; walk_at "sa"))
local macro_rules | `(tactic| walk_at "hp") => `(tactic| first | assumption | (refine' KH.find ?k ?h; (case k => assumption); (case h => walk_at "lk")))
local macro_rules | `(tactic| walk_at "sql") => `(tactic| first | assumption | (refine' SqL.of ?h; (case h => walk_at "hp")) | (refine' Fr.sql (KH.fr ?k) ?n ?h; (case k => assumption); (case h => assumption); (case n => (simp; done))))
local macro_rules | `(tactic| walk_at "sqt") => `(tactic| first | assumption | (refine' SqT.of ?h; (case h => walk_at "hp")))
local macro_rules | `(tactic| walk_at "side") => `(tactic| first | exact (show (0 : Int) < _ by decide) | exact (show (0 : Int) < _ by omega) | exact ⟨by decide, by decide, by decide⟩ | exact ⟨by decide, by decide, by omega⟩ | exact ⟨by decide, by decide⟩ | exact ⟨by omega, by omega⟩ | exact Or.inl ⟨by omega, by omega⟩ | exact Or.inr ⟨by omega, by omega⟩)
local macro_rules | `(tactic| walk_at "siz") => `(tactic| first | (refine sz_of ?_; first | decide | omega | (simp; done) | (simp; omega)) | (refine sz_lt ?_; first | decide | omega | (simp; done) | (simp; omega)))
local macro_rules | `(tactic| walk_at "own") => `(tactic| first | (exact Or.inr (by assumption)) | (refine Or.inl ?_; simp; done))
local macro_rules | `(tactic| walk_at "al") => `(tactic| (refine' AllocO.mk ?k ?_; (case k => assumption); intro _ _ _ _))
local macro_rules | `(tactic| walk_at "up") => `(tactic| (refine' UpdO.mk ?k ?h ?m ?_; (case k => assumption); (case h => walk_at "ul"); (case m => walk_at "own"); intro _ _))
local macro_rules | `(tactic| walk_at "st") => `(tactic| first
  | ((with_reducible refine' r_var ?h ?_); (case h => walk_at "ga"))
  | (with_reducible refine' r_seq ?_) | (with_reducible refine' r_next ?_) | (with_reducible refine' r_asg ?_) | (with_reducible refine' r_drop ?_) | (with_reducible refine' r_ret ?_) | (with_reducible refine' r_retN ?_)
  | (with_reducible refine' r_ifs ?_) | (with_reducible refine' r_cont ?_) | (with_reducible refine' r_break ?_) | (with_reducible refine' r_c ?_) | (with_reducible refine' r_op ?_) | (with_reducible refine' r_un ?_)
  | (with_reducible refine' r_test ?_) | (with_reducible refine' r_tB ?_) | (with_reducible refine' r_not ?_) | (with_reducible refine' r_and ?_) | (with_reducible refine' r_or ?_) | (with_reducible refine' r_notV ?_)
  | (with_reducible refine' r_andV ?_) | (with_reducible refine' r_orV ?_) | (with_reducible refine' r_ifE ?_) | (with_reducible refine' r_bl ?_) | (with_reducible refine' r_nil ?_) | (with_reducible refine' r_cons ?_)
  | (with_reducible refine' r_tup ?_) | (with_reducible refine' r_lst ?_) | (with_reducible refine' r_cb ?_) | (with_reducible refine' r_call ?_) | ((with_reducible refine' r_name ?h ?_); (case h => walk_at "sa")) | (with_reducible refine' r_gnil ?_)
  | (with_reducible refine' r_gcons ?_) | (with_reducible refine' r_gsub ?_) | (with_reducible refine' r_par ?_) | (with_reducible refine' r_par2 ?_) | (with_reducible refine' r_I0 ?_) | (with_reducible refine' r_U ?_)
  | ((with_reducible refine' r_eq ?h ?_); (case h => rfl)) | ((with_reducible refine' r_ne ?h ?_); (case h => rfl))
  | ((with_reducible refine' r_ixL ?h ?a ?_); (case h => walk_at "sql"); (case a => rfl))
  | ((with_reducible refine' r_ixT ?h ?a ?_); (case h => walk_at "sqt"); (case a => rfl))
  | ((with_reducible refine' r_setL ?h ?a ?_); (case h => walk_at "hp"); (case a => rfl))
  | ((with_reducible refine' r_I ?c ?_); (case c => walk_at "side"))
  | (with_reducible refine' r_sl ?_) | (with_reducible refine' r_part ?_) | (with_reducible refine' r_nopart ?_) | (with_reducible refine' r_ii ?_)
  | ((with_reducible refine' r_slL ?h ?_); (case h => walk_at "sql"))
  | (with_reducible refine' r_bm ?_) | (with_reducible refine' r_bm0 ?_) | (with_reducible refine' r_int1 ?_) | (with_reducible refine' r_int1b ?_)
  | ((with_reducible refine' r_aug ?h ?_); (case h => walk_at "ga"))
  | ((with_reducible refine' r_cat ?a ?b ?z ?_); (case a => walk_at "hp"); (case b => walk_at "hp"); (case z => walk_at "siz"))
  | ((with_reducible refine' r_append ?a ?z ?_); (case a => walk_at "hp"); (case z => walk_at "siz"))
  | ((with_reducible refine' And.intro ?z ?_); (case z => first | walk_at "siz" | exact Or.inl ⟨rfl, _, by walk_at "sql"⟩))
  | ((with_reducible refine' r_gtup ?h ?l ?_); (case h => walk_at "sqt"); (case l => rfl))
  | (with_reducible refine' r_forL ?_) | (with_reducible refine' r_forE ?_) | (with_reducible refine' r_forR ?_) | ((with_reducible refine' r_forL2 ?h ?_); (case h => walk_at "sql")) | ((with_reducible refine' r_forE2 ?h ?_); (case h => walk_at "sql"))
  | (with_reducible refine' r_lcR ?_) | ((with_reducible refine' r_iteT ?h ?_); (case h => rfl)) | ((with_reducible refine' r_iteF ?h ?_); (case h => rfl))
  | (with_reducible refine' r_dnew ?_) | (with_reducible refine' r_vei ?_) | (with_reducible refine' r_ost ?_) | (with_reducible refine' r_mkV ?_) | (with_reducible refine' r_mkX ?_) | (with_reducible refine' r_xfld ?_)
  | ((with_reducible refine' MkG.mk ?o ?n ?k ?_); (case o => exact ErrOk.o (by assumption)); (case n => exact ErrOk.no (by assumption)); (case k => assumption); intro _ _ _ _)
  | ((with_reducible refine' AllocX.mk ?k ?_); (case k => assumption); intro _ _ _ _)
  | (with_reducible refine' r_chain ?_) | (with_reducible refine' r_lcS ?_) | (with_reducible refine' r_lcS2 ?_) | (with_reducible refine' r_lcL ?_) | (with_reducible refine' r_lcT ?_) | (with_reducible refine' r_lcI ?_) | (with_reducible refine' r_yes ?_)
  | (with_reducible refine' r_fld ?_) | (with_reducible refine' r_sfld ?_) | (with_reducible refine' r_meth ?_) | (with_reducible refine' r_make ?_) | (with_reducible refine' r_dget ?_) | (with_reducible refine' r_din ?_) | (with_reducible refine' r_dput ?_)
  | ((with_reducible refine' r_disp ?k ?_); (case k => assumption); intro _ _ _ _) | (with_reducible refine' r_pnil ?_) | (with_reducible refine' r_pcons ?_)
  | (walk_at "al") | (walk_at "up"))
local macro_rules | `(tactic| walk_at "go") => `(tactic| repeat walk_at "st")

theorem lcR_J {lo : Int} {n : Nat} {g : TG} {tt : TT} {te : TE} {vs : List Nat} {σ : L2.St} {Q : VK} {H : Hp} (h : LcJ (Itr lo n) g tt te vs σ Q H) : LcR lo n g tt te vs σ Q H := h
theorem ix_tupK {X : Cx} (K : PySem.W.Frag) (e : X.K = K := by rfl) : IxR X (rIxT K) := by
  subst e
  exact ix_tup
theorem deepM_le {i : Nat} : ∀ {ts : List Tg}, (∀ t, t ∈ ts → deepT t ≤ i) → deepM ts ≤ i
  | [], _ => Nat.zero_le _
  | t :: ts, h => by
    have h1 := h t List.mem_cons_self
    have h2 := deepM_le (ts := ts) fun t ht => h t (List.mem_cons_of_mem _ ht)
    show max (deepT t) (deepM ts) ≤ i
    omega

theorem r_forLT {K : PySem.W.Frag} {ta : TA} {g : TG} {tb : TS} {D : Ends} {σ : L2.St} {H : Hp} (h : ta σ H fun vs H1 => ∃ a b xs ys, vs = [.ref a, .ref b] ∧ SqL K H1 a xs ∧ SqT K H1 b ys ∧ ForJ (ItLT K a b) g tb D σ H1) : tFor (iLT K ta) g tb D σ H := h
/-- t != () -/
def rNeT0 (K : PySem.W.Frag) : R2 := fun x y H Q => ∃ a b xs, x = .ref a ∧ y = .ref b ∧ H a = some (.tup xs) ∧ H b = some (.tup []) ∧ Q (.bl (!xs.isEmpty)) H
theorem op_neT0 {X : Cx} {j : Nat} (hr : Room j X.A) : OpR X (compareOp .NotEq) (rNeT0 X.K) := by
  intro pins s σ H x y v u Q I rx ry h
  obtain ⟨a, b, xs, rfl, rfl, ha, hb, q⟩ := h
  obtain rfl : v = Value.ref a := rx
  obtain rfl : u = Value.ref b := ry
  obtain ⟨its, r1, p1, _⟩ := I.tuple (SqT.of ha)
  obtain ⟨its2, r2, p2, _⟩ := I.tuple (SqT.of hb)
  have hu := un1 hr
  cases r2
  cases r1 with
  | nil => exact SeqAt.RcNeAt.tuples (e := fun _ => true) p1 p2 (by show X.A.units < cLine; omega) (fun j h1 h2 => absurd h1 (by simp)) X.prog X.w _ _ ⟨.bl false, H, I, rfl, q⟩
  | cons c r1 => exact SeqAt.RcNeAt.tuples (e := fun _ => true) p1 p2 (by show X.A.units < cLine; omega) (fun j h1 h2 => absurd h2 (by simp)) X.prog X.w _ _ ⟨.bl true, H, I, rfl, q⟩
/-- _law_said, as it is called -/
structure SaidC (K : PySem.W.Frag) (mg : Str → Option Value) (g : Addr) (NC NP NF TD WE : Addr) : Prop where
  hm : mg "_law_said" = some (.ref g)
  kp : PySem.W.keepIn K (.ref g) = true
  lk : ∃ (oc dV kV doc pm cdv ct : Value) (od an : Option Addr) (osl : Array (Option Value)), K.lookup g = some ⟨oc, od, .func (PySem.W.fnOf "_law_said" "_law_said" (defArgs s_l_said) (defBody s_l_said) (defScope s_l_said) dV kV doc pm an cdv ct), osl⟩ ∧ PySem.W.codeIn K cdv "_law_said" = true ∧
    L2.Binds K (PySem.W.fnOf "_law_said" "_law_said" (defArgs s_l_said) (defBody s_l_said) (defScope s_l_said) dV kV doc pm an cdv ct) ["_law_ask"] []
  h3 : TwoX K NC NP NF TD
  gC : mg "NoClass" = some (.ref NC)
  gP : mg "NoParts" = some (.ref NP)
  gF : mg "NoFit" = some (.ref NF)
  gD : mg "TooDeep" = some (.ref TD)
  gW : mg "WorldError" = some (.ref WE)
theorem nml_in : ∀ n, n ≤ 6 → ∀ q, q ∈ nmL n → q ∈ eight n ∧ q ≠ "int" := fun n hn => by
  have h : n = 0 ∨ n = 1 ∨ n = 2 ∨ n = 3 ∨ n = 4 ∨ n = 5 ∨ n = 6 := by omega
  rcases h with rfl | rfl | rfl | rfl | rfl | rfl | rfl <;> decide +kernel
/-- known -/
def Kn (T : List Cl) (t : Tg) : Prop := ∃ d, findC T (clsT t) = some d
/-- a value and its number -/
def RowV (CT : Addr) (H : Hp) (ks : List NK) (cs : List Cd) (x : V) (t : Tg) : Prop := ∃ tp v n l, x = .ref tp ∧ H tp = some (.tup [v, .int ((n : Nat) : Int)]) ∧ TgR CT H ks v t l ∧ NumR cs t n
theorem RowV.mo {CT : Addr} {H H' : Hp} {ks ks' : List NK} {cs cs' : List Cd} {x : V} {t : Tg} (h : RowV CT H ks cs x t) (m : Mo H H') (pk : ∃ l, ks' = ks ++ l) (pc : ∃ l, cs' = cs ++ l) : RowV CT H' ks' cs' x t := by
  obtain ⟨tp, v, n, l, e, h1, h2, h3⟩ := h
  exact ⟨tp, v, n, l, e, m _ _ rfl h1, TgR.mo m pk _ _ _ h2, NumR.pre pc _ _ h3⟩
theorem vals_split {CT : Addr} {H : Hp} {ks : List NK} {cs : List Cd} {xs : List V} {us : List Tg} (h : PySem.Paired (RowV CT H ks cs) xs us) : ∃ (vs : List V) (ns : List Nat) (ls : List NK), TgRs CT H ks vs us ls ∧ NumRs cs us ns ∧ vs.length = us.length ∧ ns.length = us.length ∧ ∀ (i : Nat) (x : V), xs[i]? = some x → ∃ (tp : Addr) (v : V) (m : Nat), x = V.ref tp ∧ H tp = some (.tup [v, .int ((m : Nat) : Int)]) ∧ vs[i]? = some v ∧ ns[i]? = some m := by
  induction h with
  | nil => exact ⟨[], [], [], .nil, .nil, rfl, rfl, fun i x h => by simp at h⟩
  | cons h _ ih =>
    obtain ⟨tp, v, m, l, rfl, h1, h2, h3⟩ := h
    obtain ⟨vs, ns, ls, g1, g2, g3, g4, g5⟩ := ih
    refine ⟨v :: vs, m :: ns, l :: ls, .cons h2 g1, .cons h3 g2, by simp [g3], by simp [g4], fun i x hx => ?_⟩
    cases i with
    | zero =>
      obtain rfl : V.ref tp = x := by simpa using hx
      exact ⟨tp, v, m, rfl, h1, rfl, rfl⟩
    | succ i => exact g5 i x (by simpa using hx)
/-- "int" if isinstance(v, int) else v.of -/
theorem sort_isi {K : PySem.W.Frag} {CT fe : Addr} {H : Hp} {ks : List NK} {v : V} {t : Tg} {l : NK} {Q : VK} {σ : L2.St} {i : Nat} (C : CsT K CT fe) (h : TgR CT H ks v t l) (hv : GetAt σ i v) (q : Q (.str (clsT t)) H) :
    rIsi K [v, .ty "int"] H fun x H1 => ∃ k, x = .bl k ∧ if k = true then tC (.str "int") σ H1 Q else tFld K (tVar i) "of" σ H1 Q := by
  cases h with
  | int j =>
    refine r_isi (.ty _) (.base (.int j)) (kit_ty (show kitB "int" "int" = some true by decide +kernel)) ⟨true, rfl, ?_⟩
    rw [if_pos rfl]
    exact q
  | th h hp hs hl ho e =>
    refine r_isi (.ty _) (C.o.ty C.c h) C.o.ci ⟨false, rfl, ?_⟩
    rw [if_neg (by decide)]
    refine r_fld (r_var hv ?_)
    exact FldAt.mk h C.c C.of rfl q
/-- what is due behind the fields -/
def DueF (T : List Cl) (fs : List (Str × Str)) (us : List Tg) (H : Hp) (j : Nat) (d : V) : Prop := (d = .non ∧ ∀ i, i < j → FitAt T fs us i) ∨ ∃ i q dt, i < j ∧ d = .ref dt ∧ H dt = some (.tup [.str "fit", .str q.1]) ∧ fs[i]? = some q ∧ ¬ FitAt T fs us i ∧ ∀ i', i' < i → FitAt T fs us i'
theorem DueF.mo {T : List Cl} {fs : List (Str × Str)} {us : List Tg} {H H' : Hp} {j : Nat} {d : V} (h : DueF T fs us H j d) (m : Mo H H') : DueF T fs us H' j d := by
  rcases h with h | ⟨i, q, dt, h1, h2, h3, h4⟩
  · exact .inl h
  · exact .inr ⟨i, q, dt, h1, h2, m _ _ rfl h3, h4⟩
theorem cut_tail (x : V) (l : List V) : cutV (x :: l) (some 1) none = l := by
  unfold cutV
  have h : HT.sIx (x :: l).length 0 (some 1) = 1 := by
    simp [HT.sIx]
  rw [h, show HT.sIx (x :: l).length (x :: l).length none = l.length + 1 from rfl]
  simp
/-- an item of a tuple: whether it is a value -/
def El (CT : Addr) (H : Hp) (ks : List NK) (v : V) (b : Bool) : Prop := (b = true ∧ ∃ t l, TgR CT H ks v t l) ∨ (b = false ∧ (v = .non ∨ (∃ x, v = .bl x) ∨ ∃ s, v = .str s))
theorem El.mo {CT : Addr} {H H' : Hp} {ks : List NK} {v : V} {b : Bool} (h : El CT H ks v b) (m : Mo H H') : El CT H' ks v b := by
  rcases h with ⟨e, t, l, h⟩ | h
  · exact .inl ⟨e, t, l, TgR.mo m ⟨[], (List.append_nil _).symm⟩ _ _ _ h⟩
  · exact .inr h
theorem El.val {K : PySem.W.Frag} {CT fe : Addr} {H : Hp} {ks : List NK} {v : V} {b : Bool} (C : CsT K CT fe) (h : El CT H ks v b) : IsVal K CT H v b := by
  rcases h with ⟨rfl, t, l, h⟩ | ⟨rfl, rfl | ⟨x, rfl⟩ | ⟨s, rfl⟩⟩
  · cases h with
    | int i => exact ⟨_, _, _, _, .base (.int i), kit_ty (show kitB "int" "int" = some true by decide +kernel), kit_ty (show kitB "int" "bool" = some false by decide +kernel), C.o.ki, rfl⟩
    | th h _ _ _ _ _ => exact ⟨_, _, _, _, C.o.ty C.c h, C.o.ci, C.o.cb, OwnC.self, rfl⟩
  · exact ⟨_, _, _, _, .base .non, kit_ty (show kitB "NoneType" "int" = some false by decide +kernel), kit_ty (show kitB "NoneType" "bool" = some false by decide +kernel), C.o.kn, rfl⟩
  · exact ⟨_, _, _, _, .base (.bl x), kit_ty (show kitB "bool" "int" = some true by decide +kernel), kit_ty (show kitB "bool" "bool" = some true by decide +kernel), C.o.kb, rfl⟩
  · exact ⟨_, _, _, _, .base (.str s), kit_ty (show kitB "str" "int" = some false by decide +kernel), kit_ty (show kitB "str" "bool" = some false by decide +kernel), C.o.ks, rfl⟩
theorem els_of {CT : Addr} {H : Hp} {ks : List NK} : ∀ {vs : List V}, (∀ v, v ∈ vs → ∃ t l, TgR CT H ks v t l) → PySem.Paired (El CT H ks) vs (vs.map fun _ => true)
  | [], _ => .nil
  | v :: vs, h => .cons (.inl ⟨rfl, h v List.mem_cons_self⟩) (els_of fun u hu => h u (List.mem_cons_of_mem _ hu))
/-- what are no parts for m fields -/
inductive NotP (pw CT : Addr) (H : Hp) (ks : List NK) (m : Nat) : V → Option (List V) → Prop
  | non : NotP pw CT H ks m .non none
  | int (i : Int) : NotP pw CT H ks m (.int i) none
  | str (s : Str) : s.length ≤ 1000 → NotP pw CT H ks m (.str s) none
  | lst {a : Addr} {xs : List V} : a ≠ pw → H a = some (.lst xs) → NotP pw CT H ks m (.ref a) none
  | dct {a : Addr} {kvs : List (Key × V)} : a ≠ pw → H a = some (.dK kvs) → NotP pw CT H ks m (.ref a) none
  | tup {a : Addr} {vs : List V} {bs : List Bool} : H a = some (.tup vs) → PySem.Paired (El CT H ks) vs bs → vs.length ≠ m ∨ bs.all id = false → NotP pw CT H ks m (.ref a) (some vs)
theorem NotP.fr {pw CT : Addr} {H H' : Hp} {ks : List NK} {m : Nat} {v : V} {tp : Option (List V)} (h : NotP pw CT H ks m v tp) (f : Wc.FrN [pw] H H') (mo : Mo H H') : NotP pw CT H' ks m v tp := by
  cases h with
  | non => exact .non
  | int i => exact .int i
  | str s h => exact .str s h
  | lst n h => exact .lst n (f _ _ (by simpa using n) (by intro _ z; cases z) h)
  | dct n h => exact .dct n (f _ _ (by simpa using n) (by intro _ z; cases z) h)
  | tup h e no => exact .tup (mo _ _ rfl h) (Paired.mapP e fun _ _ z => z.mo mo) no
theorem NotP.ext {pw CT : Addr} {H H' : Hp} {ks : List NK} {m : Nat} {v : V} {tp : Option (List V)} (h : NotP pw CT H ks m v tp) (e : Wc.Ext H H') : NotP pw CT H' ks m v tp := h.fr (e.fr (A := [pw])).n e.mo
theorem NotP.th {K : PySem.W.Frag} {pw CT : Addr} {H : Hp} {ks : List NK} {m : Nat} {v : V} {tp : Option (List V)} (h : NotP pw CT H ks m v tp) : Th K H v tp := by
  cases h with
  | non => exact .non
  | int i => exact .int
  | str s h => exact .str h
  | lst n h => exact .lst h
  | dct n h => exact .dct h
  | tup h e no => exact .tupl h
theorem NotP.same {pw CT : Addr} {H : Hp} {ks : List NK} {m : Nat} {v : V} {tp : Option (List V)} (h : NotP pw CT H ks m v tp) : DSm v v H := by
  cases h with
  | non => exact .inl ⟨rfl, rfl⟩
  | int i => exact .inl ⟨rfl, rfl⟩
  | str s h => exact .inl ⟨rfl, rfl⟩
  | lst n h => exact .inr ⟨_, rfl, rfl⟩
  | dct n h => exact .inr ⟨_, rfl, rfl⟩
  | tup h e no => exact .inr ⟨_, rfl, rfl⟩
section
variable {P : Program} {w : World} {K : PySem.W.Frag} {CK CR CT fe NC NF NP TD : Addr} {H : Hp} {T : List Cl} {n : Nat} {r kd tl : Addr} {Q : VK} {E : XK}
theorem make_notp {z : Str} {c : Cl} {pv : V} {pw : Addr} {ks : List NK} {tp : Option (List V)} (C : CsT K CT fe) (R : RtAt K CK CR H r kd tl T n) (hc : findC T z = some c) (hz : z ≠ "int") (hcv : clsV T (.str z) = true) (hzl : z.length ≤ 1000) (hl : c.all.length ≤ 1000) (hp : NotP pw CT H ks c.all.length pv tp)
    (k : ExTo E H NP "parts" pv) : spMake P w K CK CR CT NC NF NP TD [.ref r, .str z, pv] H Q E :=
  ⟨r, kd, tl, T, n, .str z, none, pv, tp, rfl, R, .str hzl, hp.th, fun h => (by rw [hcv] at h; cases h), fun e => absurd (V.str.inj e) hz, fun z' c' e _ _ hf => by
    cases e
    rw [hc] at hf
    cases hf
    refine ⟨hl, fun _ => k, fun vs e hlen => ?_⟩
    subst e
    cases hp with
    | @tup a _ bs h e no =>
      refine ⟨bs, Paired.mapP e fun _ _ z => z.val C, fun _ => k, fun ha => ?_⟩
      rcases no with no | no
      · exact absurd hlen no
      · rw [no] at ha
        cases ha⟩
end
/-- a if t != () else b -/
theorem ne_join {K : PySem.W.Frag} {H : Hp} {Q : VK} {pt p0 : Addr} {vs : List V} {tA tB : TE} {σ : L2.St} (R : V → Hp → Prop) (h : H pt = some (.tup vs)) (h0 : H p0 = some (.tup [])) (h1 : vs ≠ [] → ∀ Q' : VK, (∀ x H', R x H' → Q' x H') → tA σ H Q') (h2 : vs = [] → ∀ Q' : VK, (∀ x H', R x H' → Q' x H') → tB σ H Q') (k : ∀ x H', R x H' → Q x H') :
    rNeT0 K (.ref pt) (.ref p0) H fun x H1 => ∃ k, x = .bl k ∧ if k = true then tA σ H1 Q else tB σ H1 Q := by
  refine ⟨pt, p0, vs, rfl, rfl, h, h0, _, rfl, ?_⟩
  cases vs with
  | nil => exact h2 rfl Q k
  | cons a l => exact h1 (by simp) Q k
/-- the parts and what is due; the name, the parts, what is due -/
def Mid1 (pw CT pt : Addr) (T : List Cl) (fs : List (Str × Str)) (us : List Tg) (ks : List NK) (m : Nat) (H : Hp) (sv dv : V) : Prop :=
  (sv = .ref pt ∧ DueF T fs us H m dv) ∨ ∃ tp dt, NotP pw CT H ks m sv tp ∧ dv = .ref dt ∧ H dt = some (.tup [.str "parts", sv])
def Mid2 (pw CT pt : Addr) (T : List Cl) (fs : List (Str × Str)) (us : List Tg) (ks : List NK) (m : Nat) (z : Str) (H : Hp) (nv sv dv : V) : Prop :=
  (nv = .str z ∧ Mid1 pw CT pt T fs us ks m H sv dv) ∨ ∃ tp dt, NotP pw CT H ks 99 nv tp ∧ (clsV T nv = false ∨ nv = .str "int") ∧ dv = .ref dt ∧ H dt = some (.tup [.str "class", nv]) ∧ (sv = .ref pt ∨ ∃ tp2, NotP pw CT H ks m sv tp2)
theorem Mid1.mo {pw CT pt : Addr} {T : List Cl} {fs : List (Str × Str)} {us : List Tg} {ks : List NK} {m : Nat} {H H' : Hp} {sv dv : V} (h : Mid1 pw CT pt T fs us ks m H sv dv) (f : Wc.FrN [pw] H H') (mo : Mo H H') : Mid1 pw CT pt T fs us ks m H' sv dv := by
  rcases h with ⟨e, d⟩ | ⟨tp, dt, h1, h2, h3⟩
  · exact .inl ⟨e, d.mo mo⟩
  · exact .inr ⟨tp, dt, h1.fr f mo, h2, mo _ _ rfl h3⟩
theorem Mid2.mo {pw CT pt : Addr} {T : List Cl} {fs : List (Str × Str)} {us : List Tg} {ks : List NK} {m : Nat} {z : Str} {H H' : Hp} {nv sv dv : V} (h : Mid2 pw CT pt T fs us ks m z H nv sv dv) (f : Wc.FrN [pw] H H') (mo : Mo H H') : Mid2 pw CT pt T fs us ks m z H' nv sv dv := by
  rcases h with ⟨e, d⟩ | ⟨tp, dt, h1, h2, h3, h4, h5⟩
  · exact .inl ⟨e, d.mo f mo⟩
  · refine .inr ⟨tp, dt, h1.fr f mo, h2, h3, mo _ _ rfl h4, ?_⟩
    rcases h5 with h5 | ⟨tp2, h5⟩
    · exact .inl h5
    · exact .inr ⟨tp2, h5.fr f mo⟩
theorem midT {t : TS} {D : Ends} {σ : L2.St} {H : Hp} (Mid : L2.St → Hp → Prop) (h : ∀ σ H, Mid σ H → D.nx σ H) (h2 : ∀ Nx : L2.St → Hp → Prop, (∀ σ H, Mid σ H → Nx σ H) → t { D with nx := Nx } σ H) : t D σ H := h2 D.nx h
/-- the law's values and codes -/
structure Vl (CT : Addr) (H : Hp) (lv lc : Addr) (T : List Cl) (ks : List NK) (xs : List V) (ts : List Tg) (cvs : List V) (cs : List Cd) (D : Nat) : Prop where
  lv_ : H lv = some (.lst xs)
  lc_ : H lc = some (.lst cvs)
  rows : PySem.Paired (RowV CT H ks cs) xs ts
  cds : PySem.Paired (CdR H) cvs cs
  nd : cs.Nodup
  ok : ∀ c, c ∈ cs → cdOk c = true
  kn : ∀ t, t ∈ ts → Kn T t ∧ deepT t ≤ D
  len : 0 < ts.length ∧ ts.length ≤ D + 10 ∧ cs.length ≤ D + 10 ∧ ks.length ≤ D + 10
section
variable {P : Program} {w : World} {K : PySem.W.Frag} {mg : Str → Option Value} {base : Heap} {f : Addr} {fd : FuncData} {CK CR CT fe NC NP NF TD WE : Addr}
abbrev NN_l_made_right : List Str := ["_law_well_here", "_law_runtime", "_law_names", "_law_values", "_law_codes", "_law_name", "_law_rows", "_law_drawn", "_law_some", "_law_due", "_law_item", "_law_value", "_law_sort", "_law_odd", "_law_told", "_law_number", "_law_other", "_law_one_here"]
def spMadeR (P : Program) (w : World) (K : PySem.W.Frag) (CK CR CT Pt Pr : Addr) : Sp := fun vs H Q _ => ∃ pw b N r kd tl sh ln lv lc T n ks xs ts cvs cs D, vs = [.ref pw, .ref r, .ref ln, .ref lv, .ref lc] ∧ N ≤ 100000 ∧ 1 ≤ n ∧ n ≤ 6 ∧ D ≤ 40 ∧ BK T n ∧ FlsAt H T ∧ Ev P w K CK CR Pt Pr pw r kd tl sh T n b H ks N ∧ T.map (·.name) = eight n ∧ H ln = some (.lst ((nmL n).map V.str)) ∧ Vl CT H lv lc T ks xs ts cvs cs D ∧
  ln ∉ [pw, sh, lv, lc] ∧ lv ∉ [pw, sh, lc, kd, tl] ∧ lc ∉ [pw, sh, lv, kd, tl] ∧
  ∀ ks' xs' ts' cvs' cs' H', Ev P w K CK CR Pt Pr pw r kd tl sh T n b H' ks' (N + 30) → Vl CT H' lv lc T ks' xs' ts' cvs' cs' (D + 1) → ts'.length ≤ ts.length + 1 → ts.length ≤ ts'.length → Wc.FrN [pw, sh, lv, lc] H H' → Mo H H' → Q (.bl true) H'
theorem ok_made_right {g : Addr} {Pt Pr : Addr} (Sd : SaidC K mg g NC NP NF TD WE) (hne : Pt ≠ Pr) {cc : Addr} {oc dV kV doc pm ct : Value} {od an : Option Addr} {osl : Array (Option Value)}
    (lk : K.lookup f = some ⟨oc, od, .func (PySem.W.fnOf "_law_made_right" "_law_made_right" (defArgs s_l_made_right) (defBody s_l_made_right) (defScope s_l_made_right) dV kV doc pm an (.ref cc) ct), osl⟩) (hcd : PySem.W.codeIn K (.ref cc) "_law_made_right" = true) (TB : LamX.TabB base mg cc Pt)
    (T : Bt mg) (gz : mg "zip" = none) (Ct : CsT K CT fe) (M_teq : ∃ fd, Binds K fd ["self", "other"] [] ∧ FnOk P w K mg base CX0 1 fe fd ["self", "other"] (spTEq K CT))
    (D_l_draw : DfOk P w K mg base CX0 1 "_law_draw" ["_law_well_here", "_law_many"] spDraw) (D_l_one : DfOk P w K mg base CX0 2 "_law_one" ["_law_well_here", "_law_some"] (spOne K)) (D_l_coded : DfOk P w K mg base CX0 1 "_law_coded" ["_law_codes", "_law_code"] spCoded)
    (D_fields : DfOk P w K mg base CX0 4 "fields" ["runtime", "name"] (spFields K CK CR)) (D_is_below : DfOk P w K mg base CX0 4 "is_below" ["runtime", "one", "other"] (spIsBelow K CK CR)) (D_make : DfOk P w K mg base (L2.CX P w) 5 "make" ["runtime", "name", "parts"] (spMake P w K CK CR CT NC NF NP TD)) :
    FnOk P w K mg base CX0 11 f (PySem.W.fnOf "_law_made_right" "_law_made_right" (defArgs s_l_made_right) (defBody s_l_made_right) (defScope s_l_made_right) dV kV doc pm an (.ref cc) ct) ["_law_well_here", "_law_runtime", "_law_names", "_law_values", "_law_codes"] (spMadeR P w K CK CR CT Pt Pr) := by
  obtain ⟨hmS, kpS, ⟨oc2, dV2, kV2, doc2, pm2, cdv2, ct2, od2, an2, osl2, lkS, hcS, bS⟩, h3, gC, gP, gF, gD, gW⟩ := Sd
  refine fn_of lk hcd sc_l_made_right (fun vs H Q E h => ?_) (fun A outer s H vs Q E hr h => ?_)
  · obtain ⟨pw, b, N, r, kd, tl, sh, ln, lv, lc, T, n, ks, xs, ts, cvs, cs, D, rfl, _⟩ := h
    rfl
  · refine ⟨_, PSs.nox (pss_cons (ps_set (i := 5) sc_l_made_right.nd rfl (by first | exact Or.inl rfl | exact Or.inr rfl) (pe_callD D_l_one hr (pa_cons (pv 0) (pa_cons (pv 2) pa_nil))))
      (pss_cons (ps_set (i := 6) sc_l_made_right.nd rfl (by first | exact Or.inl rfl | exact Or.inr rfl) (pe_callD D_fields hr (pa_cons (pv 1) (pa_cons (pv 5) pa_nil))))
      (pss_cons (ps_setLc (i := 7) (own := [("_law_item", 10)]) rfl sc_l_made_right.nd rfl rfl (sw_true rfl rfl rfl (by decide +kernel)) (pi_list (pv 6)) (blkOk_by (N := NN_l_made_right) (sc := defScope s_l_made_right) (by decide +kernel)) (fun _ _ _ _ _ => (pg_name (i := 10) sc_l_made_right.nd rfl (by first | exact Or.inl rfl | exact Or.inr rfl))) (fun _ _ _ _ _ => pts_nil) (fun _ _ _ _ _ => (pe_callD D_l_one hr (pa_cons (pv 0) (pa_cons (pv 3) pa_nil)))))
      (pss_cons (ps_set (i := 8) sc_l_made_right.nd rfl (by first | exact Or.inl rfl | exact Or.inr rfl) (pe_callTy call_tuple_of (by rfl) T.f_tuple PyProof.Rows.boot_tuple (pa_cons (pe_lc (own := [("_law_value", 11), ("_law_number", 15)]) (g := (gTup K 2 (gCons (gName 11) (gCons (gName 15) gNil)))) rfl sc_l_made_right.nd (pi_list (pv 7)) (blkOk_by (N := NN_l_made_right) (sc := defScope s_l_made_right) (by decide +kernel)) (fun _ _ _ _ _ => (pg_tup rfl (pgs_cons (pg_name (i := 11) sc_l_made_right.nd rfl (by first | exact Or.inl rfl | exact Or.inr rfl)) (pgs_cons (pg_name (i := 15) sc_l_made_right.nd rfl (by first | exact Or.inl rfl | exact Or.inr rfl)) pgs_nil)))) (fun _ _ _ _ _ => pts_nil) (fun _ _ _ _ _ => (pv 11))) pa_nil)))
      (pss_cons (ps_set (i := 9) sc_l_made_right.nd rfl (by first | exact Or.inl rfl | exact Or.inr rfl) pe_non)
      (pss_cons (ps_for PassesOwn.never rfl (pi_lt (by rfl) gz (pa_cons (pv 6) (pa_cons (pv 8) pa_nil))) (pg_tup rfl (pgs_cons (pg_name (i := 10) sc_l_made_right.nd rfl (by first | exact Or.inl rfl | exact Or.inr rfl)) (pgs_cons (pg_name (i := 11) sc_l_made_right.nd rfl (by first | exact Or.inl rfl | exact Or.inr rfl)) pgs_nil))) (pss_cons (ps_set (i := 12) sc_l_made_right.nd rfl (by first | exact Or.inl rfl | exact Or.inr rfl) (pe_ifExp (pt_val (pe_callB call_isi (by rfl) T.f_isinstance PyProof.Rows.boot_isinstance (pa_cons (pv 11) (pa_cons (pe_bltn (v := .ty "int") (by rfl) T.f_int PyProof.Rows.boot_int rfl) pa_nil)))) pe_str (pe_fld (pv 11) rfl)))
      (pss_one (ps_if (PW.pt (pw_and (pt_cmpR op_isN (pv 9) pe_non (nomark _)) (pw_and1 (pt_not (pt_val (pe_callD D_is_below hr (pa_cons (pv 1) (pa_cons (pv 12) (pa_cons (pe_ix ix_tup (pv 10) pe_int (fun _ _ => rfl)) pa_nil))))))))) (pss_one (ps_set (i := 9) sc_l_made_right.nd rfl (by first | exact Or.inl rfl | exact Or.inr rfl) (pe_tup (pa_cons pe_str (pa_cons (pe_ix ix_tup (pv 10) pe_int (fun _ _ => rfl)) pa_nil))))) pss_nil))))
      (pss_cons (ps_if (pt_cmpR op_eq (pe_callD D_l_draw hr (pa_cons (pv 0) (pa_cons pe_int pa_nil))) pe_int (nomark _)) (pss_cons (ps_set (i := 13) sc_l_made_right.nd rfl (by first | exact Or.inl rfl | exact Or.inr rfl) (pe_lst (pa_cons (pe_op op_catA (pv 8) (pe_tup (pa_cons pe_int pa_nil))) (pa_cons (pe_callTy call_list_of (by rfl) T.f_list PyProof.Rows.boot_list (pa_cons (pv 8) pa_nil)) (pa_cons pe_non (pa_cons pe_int (pa_cons pe_dnewK (pa_cons pe_str (pa_cons (pe_ifExp (pt_cmpR (op_neT0 hr) (pv 8) (pe_tup pa_nil) (nomark _)) (pe_slice sl_tupA (pv 8) (po_some pe_int) po_none) (pe_tup (pa_cons pe_int pa_nil))) pa_nil)))))))))
      (pss_cons (ps_set (i := 13) sc_l_made_right.nd rfl (by first | exact Or.inl rfl | exact Or.inr rfl) (pe_op op_cat (pv 13) (pe_lst (pa_cons (pe_ifExp (pt_cmpR (op_neT0 hr) (pv 8) (pe_tup pa_nil) (nomark _)) (pe_op op_catA (pe_tup (pa_cons pe_non pa_nil)) (pe_slice sl_tupA (pv 8) (po_some pe_int) po_none)) (pe_tup (pa_cons pe_int pa_nil))) (pa_cons (pe_ifExp (pt_cmpR (op_neT0 hr) (pv 8) (pe_tup pa_nil) (nomark _)) (pe_op op_catA (pe_tup (pa_cons (pe_cmpR op_eq pe_int pe_int (nomark _)) pa_nil)) (pe_slice sl_tupA (pv 8) (po_some pe_int) po_none)) (pe_tup (pa_cons pe_int pa_nil))) pa_nil)))))
      (pss_cons (ps_set (i := 8) sc_l_made_right.nd rfl (by first | exact Or.inl rfl | exact Or.inr rfl) (pe_callD D_l_one hr (pa_cons (pv 0) (pa_cons (pv 13) pa_nil))))
      (pss_one (ps_set (i := 9) sc_l_made_right.nd rfl (by first | exact Or.inl rfl | exact Or.inr rfl) (pe_tup (pa_cons pe_str (pa_cons (pv 8) pa_nil)))))))) pss_nil)
      (pss_cons (ps_if (pt_cmpR op_eq (pe_callD D_l_draw hr (pa_cons (pv 0) (pa_cons pe_int pa_nil))) pe_int (nomark _)) (pss_cons (ps_set (i := 5) sc_l_made_right.nd rfl (by first | exact Or.inl rfl | exact Or.inr rfl) (pe_callD D_l_one hr (pa_cons (pv 0) (pa_cons (pe_lst (pa_cons pe_str (pa_cons pe_str (pa_cons pe_str (pa_cons pe_non (pa_cons pe_int (pa_cons (pe_lst pa_nil) (pa_cons pe_dnewK (pa_cons (pe_tup (pa_cons pe_str pa_nil)) pa_nil))))))))) pa_nil))))
      (pss_one (ps_set (i := 9) sc_l_made_right.nd rfl (by first | exact Or.inl rfl | exact Or.inr rfl) (pe_tup (pa_cons pe_str (pa_cons (pv 5) pa_nil)))))) pss_nil)
      (pss_cons (ps_set (i := 14) sc_l_made_right.nd rfl (by first | exact Or.inl rfl | exact Or.inr rfl) (LamX.pe_lamcall (T := TL Pt Pr) (k := 8) (c := cc) (P := Pt) (by rfl) hmS kpS lkS hcS bS sc_l_said rfl (Or.inl rfl) (said_gives rfl h3 gC gP gF gD gW) TB (by rfl) (List.mem_cons_self) (tl_u1 hne) hr (LamX.lamS_by (sc := defScope s_l_made_right) (by decide +kernel)) (by rfl) (by exact fun _ _ _ _ _ => rfl) (fun A outer s H E f c' hr2 => (pe_callDX (E := E) D_make hr2 (passes_call (takes_of rfl rfl rfl rfl) (fun _ _ _ _ z => z)) (pa_cons (pv 1) (pa_cons (pv 5) (pa_cons (pv 8) pa_nil)))))))
      (pss_cons (ps_if (pt_cmpR op_notN (pv 9) pe_non (nomark _)) (pss_one (ps_ret (pe_cmpR (op_eqB hr) (pv 14) (pv 9) (nomark _)))) pss_nil)
      (pss_cons (ps_if (PW.pt (pw_or (pt_val (pe_callB call_isi (by rfl) T.f_isinstance PyProof.Rows.boot_isinstance (pa_cons (pv 14) (pa_cons (pe_bltn (v := .ty "tuple") (by rfl) T.f_tuple PyProof.Rows.boot_tuple rfl) pa_nil)))) (pw_or (pt_cmpR op_ne (pe_fld (pv 14) rfl) (pv 5) (nomark _)) (pw_or1 (pt_cmpR (op_neT1 hr) (pe_fld (pv 14) rfl) (pv 8) (nomark _)))))) (pss_one (ps_ret pe_bl)) pss_nil)
      (pss_cons (ps_set (i := 15) sc_l_made_right.nd rfl (by first | exact Or.inl rfl | exact Or.inr rfl) (pe_callD D_l_coded hr (pa_cons (pv 4) (pa_cons (pe_tup (pa_cons (pv 5) (pa_cons (pe_callTy call_tuple_of (by rfl) T.f_tuple PyProof.Rows.boot_tuple (pa_cons (pe_lc (own := [("_law_one_here", 17)]) rfl sc_l_made_right.nd (pi_list (pv 7)) (blkOk_by (N := NN_l_made_right) (sc := defScope s_l_made_right) (by decide +kernel)) (fun _ _ _ _ _ => (pg_name (i := 17) sc_l_made_right.nd rfl (by first | exact Or.inl rfl | exact Or.inr rfl))) (fun _ _ _ _ _ => pts_nil) (fun _ _ _ _ _ => (pe_ix (ix_tupK K) (pv 17) pe_int (fun _ _ => rfl)))) pa_nil)) pa_nil))) pa_nil))))
      (pss_cons (ps_for PassesOwn.never rfl (pi_list (pv 3)) (pg_tup rfl (pgs_cons (pg_name (i := 11) sc_l_made_right.nd rfl (by first | exact Or.inl rfl | exact Or.inr rfl)) (pgs_cons (pg_name (i := 16) sc_l_made_right.nd rfl (by first | exact Or.inl rfl | exact Or.inr rfl)) pgs_nil))) (pss_one (ps_if (PW.pt (pw_or (pt_cmpR op_ne (pe_cmpR (op_eqMix Ct.o M_teq hr) (pv 14) (pv 11) (nomark _)) (pe_cmpR op_eq (pv 15) (pv 16) (nomark _)) (nomark _)) (pw_or1 (pt_cmpR op_ne (pe_cmpR (op_eqMix Ct.o M_teq hr) (pv 11) (pv 14) (nomark _)) (pe_cmpR op_eq (pv 15) (pv 16) (nomark _)) (nomark _))))) (pss_one (ps_ret pe_bl)) pss_nil)))
      (pss_cons (ps_expr (pe_bm PySem.F.plainAttrs_list PySem.F.slot_list_append PySem.F.type_list_append mt_append (pv 3) (pa_cons (pe_tup (pa_cons (pv 14) (pa_cons (pv 15) pa_nil))) pa_nil)))
      (pss_one (ps_ret (pe_and (pe_not (pe_cmpR (op_eqOwn Ct.o M_teq hr) (pv 14) (pv 5) (nomark _))) (pe_and (pe_not (pe_cmpR (op_eqOwn Ct.o M_teq hr) (pv 14) (pv 8) (nomark _))) (pe_one (pe_not (pe_cmpR (op_eqOwn Ct.o M_teq hr) (pv 14) pe_non (nomark _)))))))))))))))))))))), ?_⟩
    obtain ⟨pw, b, N, r, kd, tl, sh, ln, lv, lc, TT, n, ks, xs, ts, cvs, cs, D, rfl, hN, hn1, hn, hD, bk, fls, E0, hT, hln, V0, nln, nlv, nlc, k⟩ := h
    rw [show L2.start ["_law_well_here", "_law_runtime", "_law_names", "_law_values", "_law_codes", "_law_name", "_law_rows", "_law_drawn", "_law_some", "_law_due", "_law_item", "_law_value", "_law_sort", "_law_odd", "_law_told", "_law_number", "_law_other", "_law_one_here"] [V.ref pw, V.ref r, V.ref ln, V.ref lv, V.ref lc] = ([some (V.ref pw), some (V.ref r), some (V.ref ln), some (V.ref lv), some (V.ref lc), none, none, none, none, none, none, none, none, none, none, none, none, none] : List (Option V)) from rfl]
    have kh := KH.start (H := H)
    walk_at "go"
    simp only [List.mem_cons, List.not_mem_nil, or_false, not_or] at nln nlv nlc
    obtain ⟨nn1, nn2, nn3, nn4⟩ := nln
    obtain ⟨nv1, nv2, nv3, nv4, nv5⟩ := nlv
    obtain ⟨nc1, nc2, nc3, nc4, nc5⟩ := nlc
    obtain ⟨a0, c0, hp0, wo0⟩ := E0.wl_
    refine ⟨pw, ln, _, a0, b, c0, N, rfl, hp0, SqL.of hln, by simp [nmL], by simp [nmL, lets]; omega, Ne.symm nn1, wo0, by omega, fun y a1 c1 H1 hy1 wo1 f1 h1 => ?_⟩
    obtain ⟨pn, hpn, npi, rfl⟩ : ∃ pn : Str, pn ∈ TT.map (·.name) ∧ pn ≠ "int" ∧ y = V.str pn := by
      rw [hT]
      obtain ⟨q, hq, rfl⟩ := List.mem_map.mp hy1
      obtain ⟨q1, q2⟩ := nml_in n hn q hq
      exact ⟨q, q1, q2, rfl⟩
    obtain ⟨cp, hcp, rfl⟩ := List.mem_map.mp hpn
    obtain ⟨E1, mo1⟩ := E0.draw f1 hp0 h1 wo1
    have fls1 := fls.mo mo1
    obtain ⟨hlv, hlc, rows, cds, nd, okc, kn, hlen⟩ := V0
    have hlv1 := f1 _ _ (by simpa using nv1) hlv
    have hlc1 := f1 _ _ (by simpa using nc1) hlc
    have hzn := bk_cls bk (bk.find hcp)
    have hall := bk.al cp hcp
    clear kh
    have kh := KH.start (H := H1)
    walk_at "go"
    refine ⟨r, kd, tl, TT, n, cp.name, cp, rfl, E1.S.R.at_, hzn.1, hzn.2.1, bk.find hcp, fun lr H2 nlr e2 hlr => ?_⟩
    have E2 := E1.ext e2
    have hlv2 := e2 _ _ hlv1
    have hlc2 := e2 _ _ hlc1
    obtain ⟨a2, c2, hp2, wo2⟩ := E2.wl_
    have nlrp : lr ≠ pw := (ne_of_none h1 nlr).symm
    clear kh
    have kh := KH.start (H := H2)
    have rows2 : PySem.Paired (RowV CT H2 ks cs) xs ts := Paired.mapP rows fun _ _ z => z.mo (mo1.trans e2.mo) ⟨[], (List.append_nil _).symm⟩ ⟨[], (List.append_nil _).symm⟩
    have hxl : xs.length = ts.length := Paired.length rows
    walk_at "go"
    refine ⟨lr, rfl, ⟨_, SqL.of hlr⟩, ?_⟩
    refine lcP (walk_list (xs := cp.all)) (fun j acc H' => (∃ a' c', H' pw = some (wl a' b c') ∧ WellOk (N + 1 + j) b c') ∧ Wc.Fr [pw] H2 H' ∧ ∃ us : List Tg, PySem.Paired (RowV CT H' ks cs) acc us ∧ us.length = j ∧ ∀ t, t ∈ us → t ∈ ts) ⟨⟨a2, c2, hp2, wo2⟩, Wc.Fr.refl _ _, [], .nil, rfl, fun t ht => by cases ht⟩ (by omega)
      (fun D j acc H' H'' hD mo fr ⟨⟨a', c', g1, g2⟩, g3, us, g4, g5⟩ => ⟨⟨a', c', fr _ _ (by simpa using ne_of_none hp2 hD) g1, g2⟩, fun q o hq hz => fr _ _ (by simpa using ne_of_none hz hD) (g3 q o hq hz), us, Paired.mapP g4 fun _ _ z => z.mo mo ⟨[], (List.append_nil _).symm⟩ ⟨[], (List.append_nil _).symm⟩, g5⟩)
      (fun j acc H' _ ⟨_, g3, _⟩ => SqL.of (g3 _ _ (by simpa using nlrp) hlr)) ?_ ?_
    · rintro j y acc G1 G2 D' R' N' hj hD hdD ⟨⟨a', c', g1, g2⟩, g3, us, g4, g5, g6⟩ ⟨rfl, _⟩ hR hN
      have nDp : D' ≠ pw := (ne_of_none hp2 hD).symm
      have hlg := g3 _ _ (by simpa using nv1) hlv2
      have kg := (KH.start1 g1).cons hdD (by simpa using nDp)
      walk_at "go"
      refine ⟨rfl, ?_⟩
      walk_at "go"
      refine ⟨pw, lv, xs, a', b, c', N + 1 + j, rfl, g1, SqL.of hlg, by omega, by omega, Ne.symm nv1, g2, by omega, fun y a4 c4 G4 hy4 wo4 f4 h4 => ?_⟩
      obtain ⟨iy, hiy⟩ := List.mem_iff_getElem?.mp hy4
      obtain ⟨ty, hty, rty⟩ := paired_get1 rows2 hiy
      have mg4 : Mo H2 G4 := Mo.fr1 (g3.trans f4) hp2 rfl
      refine hR _ _ ⟨⟨a4, c4, h4, wo4⟩, g3.trans f4, us ++ [ty], Paired.snoc (Paired.mapP g4 fun _ _ z => z.mo (Mo.fr1 f4 g1 rfl) ⟨[], (List.append_nil _).symm⟩ ⟨[], (List.append_nil _).symm⟩) (rty.mo mg4 ⟨[], (List.append_nil _).symm⟩ ⟨[], (List.append_nil _).symm⟩), by rw [List.length_append, g5] <;> rfl, fun t ht => ?_⟩ (f4 _ _ (by simpa using nDp) hdD)
      rcases List.mem_append.mp ht with ht | ht
      · exact g6 t ht
      · rw [List.mem_singleton.mp ht]
        exact List.mem_of_getElem? hty
    intro ld H3 drawn nld hz3 hld
    obtain ⟨⟨a3, c3, h3p, wo3⟩, f23, us, rus, usl, usm⟩ := hz3
    obtain ⟨E3, mo3⟩ := E2.draw f23 hp2 h3p wo3
    have hlv3 := f23 _ _ (by simpa using nv1) hlv2
    have hlc3 := f23 _ _ (by simpa using nc1) hlc2
    have hlr3 := f23 _ _ (by simpa using nlrp) hlr
    obtain ⟨pvs, ns, pls, hts, hns, pvl, nsl, hsp⟩ := vals_split rus
    have lsu : drawn.length = us.length := Paired.length rus
    have nldsh : ld ≠ sh := by
      obtain ⟨u, hu, _⟩ := E2.S.shObj
      exact (ne_of_none hu nld).symm
    have nldlc : ld ≠ lc := (ne_of_none hlc2 nld).symm
    clear kh
    have kh := KH.start (H := H3)
    walk_at "go"
    refine ⟨ld, rfl, ⟨_, SqL.of hld⟩, ?_⟩
    refine lcJ (walk_list (xs := drawn)) (fun i => pvs[i]?.map id) (by omega) (fun _ e => SqL.of (e _ _ hld)) ?_ ?_
    · rintro i3 y3 G3 G4 R' N' hi3 e3 ⟨rfl, hv⟩ hR hN
      obtain ⟨tp3, v3, m3, rfl, g1, hv3, hn3⟩ := hsp _ _ hv
      have g1' := e3 _ _ g1
      have sq3 : SqT K _ tp3 _ := SqT.of g1'
      walk_at "go"
      refine ⟨rfl, ?_⟩
      walk_at "go"
      exact hR _ _ (by rw [hv3] <;> rfl) (Wc.Ext.refl _)
    intro pl H4 npl e34 hpl
    rw [show drawn.length = pvs.length by omega, range_mapG, List.map_id] at hpl
    walk_at "go"
    refine ⟨pl, _, rfl, .inl ⟨SqL.of hpl, fun pt npt => ?_⟩⟩
    have hpt : upd H4 pt (.tup pvs) pt = some (.tup pvs) := upd_same
    have e35 : Wc.Ext H3 (upd H4 pt (.tup pvs)) := e34.trans (Wc.Ext.new npt)
    have nptp : pt ≠ pw := ne_of_none (e34 _ _ h3p) npt |>.symm
    generalize upd H4 pt (.tup pvs) = H5 at hpt e35 ⊢
    have E5 := E3.ext e35
    have hlr5 := e35 _ _ hlr3
    have hld5 := e35 _ _ hld
    have hlv5 := e35 _ _ hlv3
    have hlc5 := e35 _ _ hlc3
    have m15 : Mo H1 H5 := e2.mo.trans (mo3.trans e35.mo)
    obtain ⟨as, hfl⟩ := fls1 cp hcp
    obtain ⟨fs, hfs, hfk⟩ := bk_rows bk hfl
    have hts5 := TgRs.mo e35.mo ⟨[], (List.append_nil _).symm⟩ _ _ _ hts
    have hfs5 := Paired.mapP hfs fun _ _ z => FlR.mo z m15
    have hfl5 : cp.all.length = fs.length := Paired.length hfs
    have usk : ∀ t, t ∈ us → Kn TT t := fun t ht => (kn t (usm t ht)).1
    clear kh
    have kh := KH.start (H := H5)
    walk_at "go"
    refine r_forLT ?_
    walk_at "go"
    refine ⟨lr, pt, cp.all, pvs, rfl, SqL.of hlr5, SqT.of hpt, ?_⟩
    refine ForJ.mk (walk_lt (us := cp.all) (vs := pvs) (by omega)) (fun j σ H' => ∃ (v9 v10 v11 v12 : Option V) (d : V), v9 = some d ∧ σ = [some (.ref pw), some (.ref r), some (.ref ln), some (.ref lv), some (.ref lc), some (.str cp.name), some (.ref lr), some (.ref ld), some (.ref pt), v9, v10, v11, v12, none, none, none, none, none] ∧ Wc.Ext H5 H' ∧ DueF TT fs us H' j d)
      ⟨_, _, _, _, .non, rfl, rfl, Wc.Ext.refl _, .inl ⟨rfl, fun i h => absurd h (by omega)⟩⟩ (fun j σ H' _ ⟨_, _, _, _, _, _, _, e, _⟩ => ⟨SqL.of (e _ _ hlr5), SqT.of (e _ _ hpt)⟩) ?_ ?_
    · rintro j x σ G1 G2 hj ⟨v9, v10, v11, v12, d, rfl, rfl, e1, du⟩ ⟨zc, u1, v1, rfl, hzc, rfl, hu1, hv1⟩
      obtain ⟨q, hq, t0, rfl, ht0⟩ := paired_get1 hfs5 hu1
      obtain ⟨t1, l1, ht1, hl1, tg1⟩ := hts5.get hv1
      have e12 : Wc.Ext H5 (upd G1 zc (.tup [V.ref t0, v1])) := e1.trans (Wc.Ext.new hzc)
      have hz2 : upd G1 zc (.tup [V.ref t0, v1]) zc = some (.tup [V.ref t0, v1]) := upd_same
      have du2 := du.mo (Wc.Ext.new (o := .tup [V.ref t0, v1]) hzc).mo
      generalize upd G1 zc (.tup [V.ref t0, v1]) = G3 at e12 hz2 du2 ⊢
      have ht3 := e12 _ _ ht0
      have sqz : SqT K G3 zc _ := SqT.of hz2
      have sqt : SqT K G3 t0 _ := SqT.of ht3
      have tg3 := TgR.mo e12.mo ⟨[], (List.append_nil _).symm⟩ _ _ _ tg1
      have kg := KH.start (H := G3)
      walk_at "go"
      refine sort_isi Ct tg3 (by walk_at "ga") ?_
      walk_at "go"
      refine ⟨rfl, ?_⟩
      obtain ⟨c1, hc1⟩ := usk t1 (List.mem_of_getElem? ht1)
      obtain ⟨c2, hc2⟩ := (hfk q (List.mem_of_getElem? hq)).2.2
      obtain ⟨lnn, hln1, hln2⟩ := (bk_tr bk hn).line _ _ hc1
      rcases du2 with ⟨rfl, dfit⟩ | ⟨i0, q0, dt, di, rfl, hdt, dq, dnf, dpre⟩
      · rw [show decide (V.non = V.non) = true from decide_eq_true rfl]
        walk_at "go"
        refine ⟨r, kd, tl, TT, n, clsT t1, q.2, lnn, rfl, E5.S.R.at_.ext e12, (bk_cls bk hc1).2.2, (bk_cls bk hc2).2.2, (bk_cls bk hc1).2.1, (bk_cls bk hc2).2.1, hln1, hln2, fun G4 e34' => ?_⟩
        rw [inV_strs']
        have e14 := e12.trans e34'
        have ht4 := e34' _ _ ht3
        have sqt4 : SqT K G4 t0 _ := SqT.of ht4
        clear kg
        have kg := KH.start (H := G4)
        by_cases hb : q.2 ∈ lnn
        · rw [List.contains_iff_mem.mpr hb]
          walk_at "go"
          refine ⟨_, _, _, _, _, rfl, rfl, e14, .inl ⟨rfl, fun i' hi' => ?_⟩⟩
          rcases Nat.lt_or_eq_of_le (Nat.lt_succ_iff.mp hi') with hi' | hi'
          · exact dfit i' hi'
          · rw [hi']
            intro q' t' hq' ht'
            rw [hq] at hq'
            rw [ht1] at ht'
            cases hq'
            cases ht'
            exact (below_iff hln1).mpr hb
        · rw [show lnn.contains q.2 = false from by cases z : lnn.contains q.2 with | false => rfl | true => exact absurd (List.contains_iff_mem.mp z) hb]
          walk_at "go"
          rename_i dt G5' ndt kdt
          refine ⟨_, _, _, _, _, rfl, rfl, e14.trans kdt.extE, .inr ⟨j, q, dt, Nat.lt_succ_self _, rfl, kdt.find .here, hq, fun z => hb ((below_iff hln1).mp (z q t1 hq ht1)), dfit⟩⟩
      · rw [show decide (V.ref dt = V.non) = false from decide_eq_false (fun z => by cases z)]
        walk_at "go"
        exact ⟨_, _, _, _, _, rfl, rfl, e12, .inr ⟨i0, q0, dt, by omega, rfl, hdt, dq, dnf, dpre⟩⟩
    · rintro σ H6 ⟨v9, v10, v11, v12, d, rfl, rfl, e6, du⟩
      have E6 := E5.ext e6
      obtain ⟨a6, c6, hp6, wo6⟩ := E6.wl_
      have hpt6 := e6 _ _ hpt
      have hts6 := TgRs.mo e6.mo ⟨[], (List.append_nil _).symm⟩ _ _ _ hts5
      have elp : ∀ {H' : Hp}, Mo H6 H' → ∀ v, v ∈ pvs → ∃ t l, TgR CT H' ks v t l := fun m v hv => by
        obtain ⟨iv, hiv⟩ := List.mem_iff_getElem?.mp hv
        obtain ⟨t1, l1, _, _, tg1⟩ := hts6.get hiv
        exact ⟨t1, l1, TgR.mo m ⟨[], (List.append_nil _).symm⟩ _ _ _ tg1⟩
      have hpl2 : pvs.length = cp.all.length := by omega
      dsimp only
      refine r_seq ?_
      refine midT (fun σ H' => ∃ (v10 v11 v12 v13 : Option V) (sv dv : V) (a' c' : Int), σ = [some (.ref pw), some (.ref r), some (.ref ln), some (.ref lv), some (.ref lc), some (.str cp.name), some (.ref lr), some (.ref ld), some sv, some dv, v10, v11, v12, v13, none, none, none, none] ∧ H' pw = some (wl a' b c') ∧ WellOk (N + 1 + cp.all.length + 2) b c' ∧ Wc.Fr [pw] H6 H' ∧ Mid1 pw CT pt TT fs us ks cp.all.length H' sv dv) ?_ ?_
      rotate_left
      · intro Nx hNx
        have kh := KH.start (H := H6)
        walk_at "go"
        refine ⟨pw, 8, a6, b, c6, N + 1 + cp.all.length, rfl, by decide, by decide, hp6, wo6, by omega, fun d7 a7 c7 H7 d70 d71 wo7 f7 h7 => ?_⟩
        have mo7 : Mo H6 H7 := Mo.fr1 f7 hp6 rfl
        have hpt7 := mo7 _ _ rfl hpt6
        clear kh
        have kh := KH.start (H := H7)
        walk_at "go"
        by_cases hd7 : d7 = 0
        · rw [show decide (V.int d7 = V.int 0) = true from decide_eq_true (by rw [hd7])]
          walk_at "go"
          have p0 : ∀ {H' : Hp}, Wc.Ext H7 H' → H' pw ≠ none := fun e z => by
            rw [e _ _ h7] at z
            cases z
          have npw : ∀ {H' : Hp} {q : Addr}, Wc.Ext H7 H' → H' q = none → q ≠ pw := fun e z q => p0 e (by rw [← q]; exact z)
          have elv : ∀ {H' : Hp} {vs : List V}, Wc.Ext H7 H' → (∀ v, v ∈ vs → v ∈ pvs ∨ ∃ i, v = .int i) → PySem.Paired (El CT H' ks) vs (vs.map fun _ => true) := fun e h => els_of fun v hv => by
            rcases h v hv with h | ⟨i, rfl⟩
            · exact elp (mo7.trans e.mo) v h
            · exact ⟨_, _, .int i⟩
          have tl1 : pvs ≠ [] → cutV pvs (some 1) none = pvs.tail ∧ pvs.tail.length + 1 = pvs.length ∧ ∀ v, v ∈ pvs.tail → v ∈ pvs := fun h => by
            cases hp : pvs with
            | nil => exact absurd hp h
            | cons a l => exact ⟨cut_tail a l, rfl, fun v hv => List.mem_cons_of_mem _ hv⟩
          rename_i p1 G1 np1 k1
          refine r_catG (k1.extE _ _ hpt7) (k1.find .here) (sz_of (by simp; omega)) fun c1 G2 e12 hc1 => ?_
          have e72 := k1.extE.trans e12
          have n1 : NotP pw CT G2 ks cp.all.length (.ref c1) _ := .tup hc1 (elv e72 (fun v hv => by
            rcases List.mem_append.mp hv with hv | hv
            · exact .inl hv
            · exact .inr ⟨1, by simpa using hv⟩)) (.inl (by simp; omega))
          clear kh k1
          have kh := KH.start (H := G2)
          walk_at "go"
          refine ⟨pt, pvs, rfl, .inr (SqT.of (e72 _ _ hpt7)), fun l2 nl2 => ?_⟩
          have e23 : Wc.Ext G2 (upd G2 l2 (.lst pvs)) := Wc.Ext.new nl2
          have n2 : NotP pw CT (upd G2 l2 (.lst pvs)) ks cp.all.length (.ref l2) none := .lst (npw e72 nl2) upd_same
          have n1 := n1.ext e23
          have e73 := e72.trans e23
          generalize upd G2 l2 (.lst pvs) = G3 at e73 n1 n2 ⊢
          clear kh
          have kh := KH.start (H := G3)
          walk_at "go"
          rename_i d3 G4 nd3 k3 p4 G5 np4 k4
          have e35 := k4.extE
          have n3 : NotP pw CT G5 ks cp.all.length (.ref d3) none := .dct (npw e73 (kh.fresh nd3)) (k4.find (o := .dK []) (by walk_at "lk"))
          have n1 := n1.ext e35
          have n2 := n2.ext e35
          have e75 := e73.trans e35
          have hpt5' := e75 _ _ hpt7
          refine ne_join (fun x H' => Wc.Ext G5 H' ∧ ∃ tp, NotP pw CT H' ks cp.all.length x tp) hpt5' (k4.find .here) (fun hne' Q' hQ => ?_) (fun he Q' hQ => ?_) (fun x4 G6 hx4 => ?_)
          · clear k3 k4 kh
            have kh := KH.start (H := G5)
            walk_at "go"
            refine r_slA hpt5' fun c H' e hc => ?_
            obtain ⟨q1, q2, q3⟩ := tl1 hne'
            rw [q1] at hc
            exact hQ _ _ ⟨e, _, .tup hc (elv (e75.trans e) (fun v hv => .inl (q3 v hv))) (.inl (by omega))⟩
          · clear k3 k4 kh
            have kh := KH.start (H := G5)
            walk_at "go"
            rename_i c H' nc' kc
            exact hQ _ _ ⟨kc.extE, _, .tup (kc.find .here) (elv (e75.trans kc.extE) (fun v hv => .inr ⟨1, by simpa using hv⟩)) (.inl (by rw [← hpl2, he]; simp))⟩
          obtain ⟨e56, tp4, n4⟩ := hx4
          have n1 := n1.ext e56
          have n2 := n2.ext e56
          have n3 := n3.ext e56
          have e76 := e75.trans e56
          have hpt6' := e56 _ _ hpt5'
          clear k3 k4 kh
          have kh := KH.start (H := G6)
          walk_at "go"
          rename_i l7 G7 nl7 k7 p8 G8 np8 k8
          have e68 := k8.extE
          have hl8 := k8.find (p := l7) (by walk_at "lk")
          have e78 := e76.trans e68
          have hpt8 := e68 _ _ hpt6'
          refine ne_join (fun x H' => Wc.Ext G8 H' ∧ ∃ tp, NotP pw CT H' ks cp.all.length x tp) hpt8 (k8.find .here) (fun hne' Q' hQ => ?_) (fun he Q' hQ => ?_) (fun x5 G9 hx5 => ?_)
          · clear k7 k8 kh
            have kh := KH.start (H := G8)
            walk_at "go"
            rename_i pn Gn npn kn'
            refine r_slA (kn'.extE _ _ hpt8) fun c H' e hc => ?_
            obtain ⟨q1, q2, q3⟩ := tl1 hne'
            rw [q1] at hc
            refine r_catG (e _ _ (kn'.find .here)) hc (sz_of (by simp; omega)) fun c' H'' e' hc' => ?_
            have e9 := kn'.extE.trans (e.trans e')
            exact hQ _ _ ⟨e9, _, .tup hc' (.cons (.inr ⟨rfl, .inl rfl⟩) (elv (e78.trans e9) (fun v hv => .inl (q3 v hv)))) (.inr rfl)⟩
          · clear k7 k8 kh
            have kh := KH.start (H := G8)
            walk_at "go"
            rename_i c H' nc' kc
            exact hQ _ _ ⟨kc.extE, _, .tup (kc.find .here) (elv (e78.trans kc.extE) (fun v hv => .inr ⟨2, by simpa using hv⟩)) (.inl (by rw [← hpl2, he]; simp))⟩
          obtain ⟨e89, tp5, n5⟩ := hx5
          have e79 := e78.trans e89
          have hpt9 := e89 _ _ hpt8
          have hl9 := e89 _ _ hl8
          clear k7 k8 kh
          have kh := KH.start (H := G9)
          walk_at "go"
          rename_i p10 G10 np10 k10
          have e910 := k10.extE
          have e710 := e79.trans e910
          have hpt10 := e910 _ _ hpt9
          have hl10 := e910 _ _ hl9
          refine ne_join (fun x H' => Wc.Ext G10 H' ∧ ∃ tp, NotP pw CT H' ks cp.all.length x tp) hpt10 (k10.find .here) (fun hne' Q' hQ => ?_) (fun he Q' hQ => ?_) (fun x6 G11 hx6 => ?_)
          · clear k10 kh
            have kh := KH.start (H := G10)
            walk_at "go"
            rename_i pn Gn npn kn'
            refine r_slA (kn'.extE _ _ hpt10) fun c H' e hc => ?_
            obtain ⟨q1, q2, q3⟩ := tl1 hne'
            rw [q1] at hc
            refine r_catG (e _ _ (kn'.find .here)) hc (sz_of (by simp; omega)) fun c' H'' e' hc' => ?_
            have e9 := kn'.extE.trans (e.trans e')
            exact hQ _ _ ⟨e9, _, .tup hc' (.cons (.inr ⟨rfl, .inr (.inl ⟨_, rfl⟩)⟩) (elv (e710.trans e9) (fun v hv => .inl (q3 v hv)))) (.inr rfl)⟩
          · clear k10 kh
            have kh := KH.start (H := G10)
            walk_at "go"
            rename_i c H' nc' kc
            exact hQ _ _ ⟨kc.extE, _, .tup (kc.find .here) (elv (e710.trans kc.extE) (fun v hv => .inr ⟨3, by simpa using hv⟩)) (.inl (by rw [← hpl2, he]; simp))⟩
          obtain ⟨e1011, tp6, n6⟩ := hx6
          have e711 := e710.trans e1011
          have hl11 := e1011 _ _ hl10
          clear k10 kh
          have kh := KH.start (H := G11)
          walk_at "go"
          rename_i l12 G12 nl12 k12
          refine r_cat (k12.extE _ _ hl11) (k12.find .here) (sz_of (by simp)) ?_
          walk_at "go"
          rename_i l13 G13 nl13 k13
          have e1113 := k13.extE
          have e913 := e910.trans (e1011.trans e1113)
          have e613 := e68.trans (e89.trans e913)
          have e713 := e711.trans e1113
          have hp13 := e713 _ _ h7
          refine ⟨pw, l13, _, a7, b, c7, N + 1 + cp.all.length + 1, rfl, hp13, SqL.of (k13.find .here), by simp, by simp, Ne.symm (npw e711 (kh.fresh nl13)), wo7, by omega, fun y a14 c14 G14 hy14 wo14 f14 h14 => ?_⟩
          have hNP : ∃ tp, NotP pw CT G13 ks cp.all.length y tp := by
            simp only [List.cons_append, List.nil_append, List.mem_cons, List.not_mem_nil, or_false] at hy14
            rcases hy14 with rfl | rfl | rfl | rfl | rfl | rfl | rfl | rfl | rfl
            · exact ⟨_, n1.ext e613⟩
            · exact ⟨_, n2.ext e613⟩
            · exact ⟨_, .non⟩
            · exact ⟨_, .int 7⟩
            · exact ⟨_, n3.ext e613⟩
            · exact ⟨_, .str "" (by decide)⟩
            · exact ⟨_, n4.ext e613⟩
            · exact ⟨_, n5.ext e913⟩
            · exact ⟨_, n6.ext e1113⟩
          obtain ⟨tpy, ny⟩ := hNP
          have mo14 : Mo G13 G14 := Mo.fr1 f14 hp13 rfl
          have ny := ny.fr f14.n mo14
          clear k12 k13 kh
          have kh := KH.start (H := G14)
          walk_at "go"
          rename_i dt G15 ndt k15
          have e15 := k15.extE
          exact hNx _ _ ⟨_, _, _, _, _, _, a14, c14, rfl, e15 _ _ h14, wo14.up (by omega), f7.trans ((e713.fr.trans f14).trans e15.fr), .inr ⟨_, dt, ny.ext e15, rfl, k15.find .here⟩⟩
        · rw [show decide (V.int d7 = V.int 0) = false from decide_eq_false (fun e => hd7 (by injection e))]
          walk_at "go"
          exact hNx _ _ ⟨_, _, _, _, _, _, a7, c7, rfl, h7, wo7.up (by omega), f7, .inl ⟨rfl, du.mo mo7⟩⟩
      · rintro σ H8 ⟨v10, v11, v12, v13, sv, dv, a8, c8, rfl, hp8, wo8, f8, md8⟩
        dsimp only
        refine r_seq ?_
        refine midT (fun σ H' => ∃ (nv sv dv : V) (a' c' : Int), σ = [some (.ref pw), some (.ref r), some (.ref ln), some (.ref lv), some (.ref lc), some nv, some (.ref lr), some (.ref ld), some sv, some dv, v10, v11, v12, v13, none, none, none, none] ∧ H' pw = some (wl a' b c') ∧ WellOk (N + 1 + cp.all.length + 4) b c' ∧ Wc.Fr [pw] H8 H' ∧ Mid2 pw CT pt TT fs us ks cp.all.length cp.name H' nv sv dv) ?_ ?_
        rotate_left
        · intro Nx hNx
          have kh := KH.start (H := H8)
          walk_at "go"
          refine ⟨pw, 8, a8, b, c8, N + 1 + cp.all.length + 2, rfl, by decide, by decide, hp8, wo8, by omega, fun d7 a9 c9 H9 d70 d71 wo9 f9 h9 => ?_⟩
          have mo9 : Mo H8 H9 := Mo.fr1 f9 hp8 rfl
          have md9 := md8.mo f9.n mo9
          clear kh
          have kh := KH.start (H := H9)
          walk_at "go"
          by_cases hd7 : d7 = 0
          · rw [show decide (V.int d7 = V.int 0) = true from decide_eq_true (by rw [hd7])]
            walk_at "go"
            rename_i le G1 nle k1 de G2 nde k2 te G3 nte k3 lo G4 nlo k4
            have e94 := k4.extE
            have npw : ∀ {q : Addr}, H9 q = none → q ≠ pw := fun z q => by
              rw [q, h9] at z
              cases z
            refine ⟨pw, lo, _, a9, b, c9, N + 1 + cp.all.length + 3, rfl, e94 _ _ h9, SqL.of (k4.find .here), by simp, by simp, Ne.symm (npw nlo), wo9, by omega, fun y a10 c10 H10 hy10 wo10 f10 h10 => ?_⟩
            have hNC : ∃ tp, NotP pw CT G4 ks 99 y tp ∧ (clsV TT y = false ∨ y = .str "int") := by
              have noc : ∀ z : Str, z ∉ bkN → clsV TT (.str z) = false := fun z hz => by
                show (nameS z && (findC TT z).isSome) = false
                cases hf : findC TT z with
                | none => simp
                | some c =>
                  obtain ⟨h1, h2⟩ := find_mem hf
                  exact absurd (h2 ▸ bk.nm c h1) hz
              simp only [List.mem_cons, List.not_mem_nil, or_false] at hy10
              rcases hy10 with rfl | rfl | rfl | rfl | rfl | rfl | rfl | rfl
              · exact ⟨_, .str _ (by decide), .inr rfl⟩
              · exact ⟨_, .str _ (by decide), .inl (noc _ (by decide +kernel))⟩
              · exact ⟨_, .str _ (by decide), .inl (noc _ (by decide +kernel))⟩
              · exact ⟨_, .non, .inl rfl⟩
              · exact ⟨_, .int _, .inl rfl⟩
              · exact ⟨_, .lst (npw nle) (k4.find (o := .lst []) (by walk_at "lk")), .inl rfl⟩
              · exact ⟨_, .dct (npw nde) (k4.find (o := .dK []) (by walk_at "lk")), .inl rfl⟩
              · exact ⟨_, .tup (k4.find (p := te) (o := .tup [.str "a"]) (by walk_at "lk")) (.cons (.inr ⟨rfl, .inr (.inr ⟨_, rfl⟩)⟩) .nil) (.inr rfl), .inl rfl⟩
            obtain ⟨tpy, ny, nyc⟩ := hNC
            have hp4 := e94 _ _ h9
            have mo10 : Mo G4 H10 := Mo.fr1 f10 hp4 rfl
            have ny := ny.fr f10.n mo10
            have md10 := (md9.mo (e94.fr (A := [pw])).n e94.mo).mo f10.n mo10
            clear k1 k2 k3 k4 kh
            have kh := KH.start (H := H10)
            walk_at "go"
            rename_i dt G5 ndt k5
            have e5 := k5.extE
            refine hNx _ _ ⟨_, _, _, a10, c10, rfl, e5 _ _ h10, wo10.up (by omega), f9.trans ((e94.fr.trans f10).trans e5.fr), .inr ⟨_, dt, ny.ext e5, nyc, rfl, k5.find .here, ?_⟩⟩
            rcases md10 with ⟨e, _⟩ | ⟨tp2, _, h2, _⟩
            · exact .inl e
            · exact .inr ⟨tp2, h2.ext e5⟩
          · rw [show decide (V.int d7 = V.int 0) = false from decide_eq_false (fun e => hd7 (by injection e))]
            walk_at "go"
            exact hNx _ _ ⟨_, _, _, a9, c9, rfl, h9, wo9.up (by omega), f9, .inl ⟨rfl, md9⟩⟩
        · rintro σ G ⟨nv, sv, dv, aG, cG, rfl, hpG, woG, f8G, mdG⟩
          obtain ⟨EG, mo6G⟩ := E6.draw (f8.trans f8G) hp6 hpG woG
          have F0G : Wc.FrN [pw] H G := (f1.trans (e2.fr.trans (f23.trans ((e35.trans e6).fr.trans (f8.trans f8G))))).n
          have M0G : Mo H G := mo1.trans (m15.trans (e6.mo.trans mo6G))
          have hptG := mo6G _ _ rfl hpt6
          have fin : ∀ H', Wc.FrN [] G H' → LamX.Tabs (TL Pt Pr) H' → Q (.bl true) H' := fun H' f tb => by
            have f' : Wc.FrN [pw] H H' := F0G.trans (f.mono (by simp))
            have m' : Mo H H' := M0G.trans (f.mo (by simp))
            exact k ks xs ts cvs cs H' ((EG.lam f tb).up (by omega)) ⟨f' _ _ (by simpa using nv1) (fun _ z => by cases z) hlv, f' _ _ (by simpa using nc1) (fun _ z => by cases z) hlc, Paired.mapP rows fun _ _ z => z.mo m' ⟨[], (List.append_nil _).symm⟩ ⟨[], (List.append_nil _).symm⟩, Paired.mapP cds fun _ _ z => z.mo m', nd, okc, fun t ht => ⟨(kn t ht).1, by have := (kn t ht).2; omega⟩, by omega⟩ (by omega) (by omega) (f'.mono (by simp)) m'
          have kh := KH.start (H := G)
          walk_at "go"
          refine ⟨EG.tb, fun H18 eN18 tb18 => ?_⟩
          have f178 : Wc.FrN [] G H18 := FrN.of eN18
          have E18 := EG.lam f178 tb18
          have m178 : Mo G H18 := f178.mo (by simp)
          have md18 := mdG.mo (f178.mono (by simp)) m178
          have k18 := KH.start (H := H18)
          try unfold TSaid
          dsimp only
          walk_at "go"
          rcases md18 with ⟨rfl, ⟨rfl, duD⟩ | ⟨tp, dt, nP, rfl, hdt⟩⟩ | ⟨tp, dt, nC, nCc, rfl, hdt, sv5⟩
          · have hts18 := TgRs.mo (mo6G.trans m178) ⟨[], (List.append_nil _).symm⟩ _ _ _ hts6
            have hfs18 := Paired.mapP hfs5 fun _ _ z => FlR.mo z (e6.mo.trans (mo6G.trans m178))
            have hpt18 := m178 _ _ rfl hptG
            have hdep : deepM us ≤ D := deepM_le fun t ht => (kn t (usm t ht)).2
            rcases duD with ⟨rfl, allfit⟩ | ⟨i0, q0, dt, di, rfl, hdt, dq, dnf, dpre⟩
            · have allF : ∀ i, FitAt TT fs us i := fun i => by
                by_cases hi : i < cp.all.length
                · exact allfit i hi
                · intro q t hq ht
                  have := (List.getElem?_eq_some_iff.mp hq).1
                  omega
              refine make_ok (c := cp) (fs := fs) (ts := us) Ct E18.S.R.at_ (bk_tr bk hn) (bk.find hcp) npi hzn.2.2 hfs18 hpt18 hts18 (by omega) (by omega) usk E18.S.S (by omega) ?_ ?_ ?_
              · intro i' q' _ nf'
                exact absurd (allF i') nf'
              · intro _ hd
                exact absurd hd (by omega)
              · intro _ _ a' Hm ksm km na frm mom Sm hkm hTm hPm
                have kM := KH.start (H := Hm)
                walk_at "go"
                refine ⟨rfl, ?_⟩
                rw [show decide (V.non = V.non) = true from decide_eq_true rfl]
                obtain ⟨dxU, dU, nU, hU⟩ := id hPm
                have hptm := mom _ _ rfl hpt18
                walk_at "go"
                refine r_isi (.ty _) (Ct.o.ty Ct.c hU) Ct.o.ctp ?_
                walk_at "go"
                refine FldAt.mk hU Ct.c Ct.of rfl ?_
                walk_at "go"
                rw [show decide (V.str cp.name = V.str cp.name) = true from decide_eq_true rfl]
                walk_at "go"
                refine FldAt.mk hU Ct.c Ct.parts rfl ?_
                walk_at "go"
                refine ⟨pt, _, rfl, rfl, hptm, ?_⟩
                have m5G : Mo H5 G := e6.mo.trans mo6G
                have m5m : Mo H5 Hm := m5G.trans (m178.trans mom)
                have nldp : ld ≠ pw := (ne_of_none hp2 nld).symm
                have hldG : G ld = some (.lst drawn) := (f8.trans f8G) _ _ (by simpa using nldp) (e6 _ _ hld5)
                have hld18 := f178 _ _ (by simp) (fun _ z => by cases z) hldG
                have hldm := frm _ _ (by simpa using nldsh) hld18
                have hlcG : G lc = some (.lst cvs) := F0G _ _ (by simpa using nc1) (fun _ z => by cases z) hlc
                have hlvG : G lv = some (.lst xs) := F0G _ _ (by simpa using nv1) (fun _ z => by cases z) hlv
                have hlcm := frm _ _ (by simpa using nc2) (f178 _ _ (by simp) (fun _ z => by cases z) hlcG)
                have hlvm := frm _ _ (by simpa using nv2) (f178 _ _ (by simp) (fun _ z => by cases z) hlvG)
                have m0m : Mo H Hm := M0G.trans (m178.trans mom)
                have m3m : Mo H3 Hm := e35.mo.trans m5m
                walk_at "go"
                refine ⟨ld, rfl, ⟨_, SqL.of hldm⟩, ?_⟩
                refine lcJ (walk_list (xs := drawn)) (fun i => ns[i]?.map fun m => V.int ((m : Nat) : Int)) (by omega) (fun _ e => SqL.of (e _ _ hldm)) ?_ ?_
                · rintro i3 y3 G3 G4 R' N' hi3 e3 ⟨rfl, hv⟩ hR hN
                  obtain ⟨tp3, v3, m3, rfl, g1, hv3, hn3⟩ := hsp _ _ hv
                  have g1' := e3 _ _ (m3m _ _ rfl g1)
                  have sq3 : SqT K _ tp3 _ := SqT.of g1'
                  walk_at "go"
                  refine ⟨rfl, ?_⟩
                  walk_at "go"
                  exact hR _ _ (by rw [hn3] <;> rfl) (Wc.Ext.refl _)
                intro nl2 Hn nnl em hnl
                rw [show drawn.length = ns.length by omega, range_mapG] at hnl
                walk_at "go"
                refine ⟨nl2, _, rfl, .inl ⟨SqL.of hnl, fun ct2 nct => ?_⟩⟩
                have hct : upd Hn ct2 (.tup (ns.map fun m => V.int ((m : Nat) : Int))) ct2 = some (.tup (ns.map fun m => V.int ((m : Nat) : Int))) := upd_same
                have em2 : Wc.Ext Hm (upd Hn ct2 (.tup (ns.map fun m => V.int ((m : Nat) : Int)))) := em.trans (Wc.Ext.new nct)
                generalize upd Hn ct2 (.tup (ns.map fun m => V.int ((m : Nat) : Int))) = Hc at hct em2 ⊢
                clear kM
                have kM := KH.start (H := Hc)
                walk_at "go"
                rename_i ctu Hd nctu kd2
                have emd : Wc.Ext Hm Hd := em2.trans kd2.extE
                have hcdD := kd2.find (p := ctu) .here
                refine ⟨lc, _, .th cp.name ns, cvs, cs, rfl, ⟨ctu, ct2, rfl, hcdD, kd2.extE _ _ hct⟩, (bkN_ok _ (bk.nm cp hcp)).2.2, emd _ _ hlcm, Paired.mapP cds fun _ _ z => z.mo (m0m.trans emd.mo), nd, okc, by omega, fun num cvs' cs' He hnum hcs' nd' cds' hlc' fde => ?_⟩
                have hlvd := emd _ _ hlvm
                have hlve := fde _ _ (by simpa using nv3) hlvd
                have mde : Mo Hd He := Mo.fr1 fde (emd _ _ hlcm) rfl
                have mme : Mo Hm He := emd.mo.trans mde
                have pcs : ∃ l, cs' = cs ++ l := by
                  rcases hcs' with e | e
                  · exact ⟨[], by rw [e]; simp⟩
                  · exact ⟨_, e⟩
                have pks : ∃ l, ksm = ks ++ l := by
                  rcases hkm with e | e
                  · exact ⟨[], by rw [e]; simp⟩
                  · exact ⟨_, e⟩
                have tgA := TgR.mo mme ⟨[], (List.append_nil _).symm⟩ _ _ _ hTm
                have numA : NumR cs' (.th cp.name us) num := .th hnum (NumRs.pre pcs _ _ hns)
                have rowsE : PySem.Paired (RowV CT He ksm cs') xs ts := Paired.mapP rows fun _ _ z => z.mo (m0m.trans mme) pks pcs
                have ndk := Sm.nd
                clear kM kd2
                have kM := KH.start1 hlve
                walk_at "go"
                refine ForG.mk (xs := xs) (fun i σ H' => ∃ (v11' v16' : Option V), σ = [some (.ref pw), some (.ref r), some (.ref ln), some (.ref lv), some (.ref lc), some (.str cp.name), some (.ref lr), some (.ref ld), some (.ref pt), some .non, v10, v11', v12, v13, some (.ref a'), some (.int ((num : Nat) : Int)), v16', none] ∧ Wc.Ext He H') ⟨_, _, rfl, Wc.Ext.refl _⟩ (fun i σ H' _ ⟨_, _, _, e⟩ => SqL.of (e _ _ hlve)) ?_ ?_
                · rintro i x σ Hf hx ⟨v11', v16', rfl, eef⟩
                  obtain ⟨t2, ht2, tp2, v2, n2, l2, rfl, hq1, hq2, hq3⟩ := paired_get1 rowsE hx
                  have hq1f := eef _ _ hq1
                  have sq2 : SqT K Hf tp2 _ := SqT.of hq1f
                  have tgB := TgR.mo eef.mo ⟨[], (List.append_nil _).symm⟩ _ _ _ hq2
                  have tgAf := TgR.mo eef.mo ⟨[], (List.append_nil _).symm⟩ _ _ _ tgA
                  obtain ⟨b2, hb2⟩ : ∃ b2 : Bool, (b2 = true ↔ Tg.th cp.name us = t2) := ⟨@decide (Tg.th cp.name us = t2) (Classical.propDecidable _), by simp⟩
                  have hdec : decide (V.int ((num : Nat) : Int) = V.int ((n2 : Nat) : Int)) = b2 := by
                    rw [Bool.eq_iff_iff, decide_eq_true_eq, hb2, ← num_inj nd' _ _ numA _ _ hq3]
                    constructor
                    · intro e
                      injection e with e
                      omega
                    · intro e
                      rw [e]
                  have kf := KH.start (H := Hf)
                  walk_at "go"
                  refine mix_tg Ct ndk tgAf tgB b2 hb2 ?_
                  walk_at "go"
                  rw [hdec, show decide (V.bl b2 = V.bl b2) = true from decide_eq_true rfl]
                  walk_at "go"
                  refine mix_tg Ct ndk tgB tgAf b2 (hb2.trans eq_comm) ?_
                  walk_at "go"
                  rw [hdec, show decide (V.bl b2 = V.bl b2) = true from decide_eq_true rfl]
                  walk_at "go"
                  exact ⟨_, _, rfl, eef⟩
                · rintro σ Hf ⟨v11', v16', rfl, eef⟩
                  have hlvf := eef _ _ hlve
                  have kf := KH.start1 hlvf
                  have hxz : xs.length < sizeLine := sz_lt (by omega)
                  walk_at "go"
                  rename_i tpn Hg ntpn kg0 Hz kz
                  have ffz : Wc.Fr [lv] Hf Hz := kz.fr
                  have mfz : Mo Hf Hz := Mo.fr1 ffz hlvf rfl
                  have hlvz := kz.find (p := lv) (by walk_at "lk")
                  have htpz := kz.find (p := tpn) (by walk_at "lk")
                  have mmz : Mo Hm Hz := mme.trans (eef.mo.trans mfz)
                  have tgZ := TgR.mo mmz ⟨[], (List.append_nil _).symm⟩ _ _ _ hTm
                  refine own_no Ct false tgZ (.base (.str _)) (nf_ty "str" (by rfl)) Ct.o.ks ?_
                  walk_at "go"
                  refine own_no Ct false tgZ (.base (.tup (mmz _ _ rfl hptm))) (nf_ty "tuple" (by rfl)) Ct.o.kt ?_
                  walk_at "go"
                  refine own_no Ct false tgZ (.base .non) (nf_ty "NoneType" (by rfl)) Ct.o.kn ?_
                  walk_at "go"
                  have fmz : Wc.Fr [lc, lv] Hm Hz := ((emd.fr (A := [lc, lv])).trans (fde.mono (by simp))).trans ((eef.fr (A := [lc, lv])).trans (ffz.mono (by simp)))
                  have Em := E18.made frm (E18.S.made frm mom Sm)
                  have tbz := tabs_fr Em.tb fmz (fun q hq => by
                    simp only [List.mem_cons, List.not_mem_nil, or_false] at hq
                    rcases hq with rfl | rfl
                    · exact ⟨_, hlcm, (fun ps z => by cases z), (fun φ z => by cases z)⟩
                    · exact ⟨_, hlvm, (fun ps z => by cases z), (fun φ z => by cases z)⟩)
                  have m0z : Mo H Hz := m0m.trans mmz
                  have F0z : Wc.FrN [pw, sh, lv, lc] H Hz := (F0G.mono (by simp)).trans ((f178.mono (by simp)).trans ((frm.n.mono (by simp)).trans (fmz.n.mono (by simp))))
                  have hlcz : Hz lc = some (.lst cvs') := ffz _ _ (by simpa using Ne.symm nv3) (eef _ _ hlc')
                  have mez : Mo He Hz := eef.mo.trans mfz
                  have ksl : ksm.length ≤ ks.length + 1 := by
                    rcases hkm with e | e
                    · rw [e]; omega
                    · rw [e, List.length_append]; simp
                  have csl : cs'.length ≤ cs.length + 1 := by
                    rcases hcs' with e | e
                    · rw [e]; omega
                    · rw [e, List.length_append]; simp
                  have okc' : ∀ c, c ∈ cs' → cdOk c = true := fun c hc => by
                    rcases hcs' with e | e
                    · exact okc c (e ▸ hc)
                    · rw [e] at hc
                      rcases List.mem_append.mp hc with hc | hc
                      · exact okc c hc
                      · rw [List.mem_singleton.mp hc]
                        exact (bkN_ok _ (bk.nm cp hcp)).2.2
                  refine k ksm (xs ++ [.ref tpn]) (ts ++ [.th cp.name us]) cvs' cs' Hz ((Em.own fmz mmz (fun q hq => ?_) tbz).up (by omega)) ⟨hlvz, hlcz, Paired.snoc (Paired.mapP rowsE fun _ _ z => z.mo mez ⟨[], (List.append_nil _).symm⟩ ⟨[], (List.append_nil _).symm⟩) ⟨tpn, .ref a', num, km, rfl, htpz, tgZ, numA⟩, Paired.mapP cds' fun _ _ z => z.mo mez, nd', okc', fun t ht => ?_, ?_⟩ (by simp) (by simp) F0z m0z
                  · simp only [List.mem_cons, List.not_mem_nil, or_false] at hq
                    rcases hq with rfl | rfl
                    · exact ⟨nc4, nc5, nc2, nc1⟩
                    · exact ⟨nv4, nv5, nv2, nv1⟩
                  · rcases List.mem_append.mp ht with ht | ht
                    · exact ⟨(kn t ht).1, by have := (kn t ht).2; omega⟩
                    · rw [List.mem_singleton.mp ht]
                      refine ⟨⟨cp, bk.find hcp⟩, ?_⟩
                      show deepM us + 1 ≤ D + 1
                      omega
                  · rw [List.length_append]
                    simp only [List.length_cons, List.length_nil]
                    omega
            · refine make_ok (c := cp) (fs := fs) (ts := us) Ct E18.S.R.at_ (bk_tr bk hn) (bk.find hcp) npi hzn.2.2 hfs18 hpt18 hts18 (by omega) (by omega) usk E18.S.S (by omega) ?_ ?_ ?_
              · intro i' q' hq' nf' pre'
                obtain rfl : q0 = q' := by
                  rcases Nat.lt_trichotomy i' i0 with h | h | h
                  · exact absurd (dpre _ h) nf'
                  · subst h
                    rw [dq] at hq'
                    exact Option.some.inj hq'
                  · exact absurd (pre' _ h) dnf
                intro e H9 e9 he hx9
                refine .inr <| .inr <| .inl ⟨_, e, rfl, rfl, hx9, AllocO.mk (KH.start (H := H9)) fun q Hq nq kq => ?_⟩
                walk_at "go"
                refine ⟨rfl, ?_⟩
                rw [show decide (V.ref dt = V.non) = false from decide_eq_false (fun z => by cases z)]
                walk_at "go"
                have eq9 := e9.trans kq.extE
                refine eqB_tup (t := "fit") (kq.find .here) (eq9 _ _ hdt) (.inl ⟨rfl, rfl⟩) fun H' e' => ?_
                exact fin H' (f178.trans ((eq9.trans e').fr (A := [])).n) (LamX.Tabs.ext tb18 (eq9.trans e'))
              · intro hf
                exact absurd (hf i0) dnf
              · intro hf
                exact absurd (hf i0) dnf
          · refine make_notp (c := cp) Ct E18.S.R.at_ (bk.find hcp) npi hzn.2.2 hzn.2.1 (by omega) nP ?_
            intro e H9 e9 he hx9
            refine .inr <| .inl ⟨_, e, rfl, rfl, hx9, AllocO.mk (KH.start (H := H9)) fun q Hq nq kq => ?_⟩
            walk_at "go"
            refine ⟨rfl, ?_⟩
            rw [show decide (V.ref dt = V.non) = false from decide_eq_false (fun z => by cases z)]
            walk_at "go"
            have eq9 := e9.trans kq.extE
            refine eqB_tup (t := "parts") (kq.find .here) (eq9 _ _ hdt) nP.same fun H' e' => ?_
            exact fin H' (f178.trans ((eq9.trans e').fr (A := [])).n) (LamX.Tabs.ext tb18 (eq9.trans e'))
          · have thS : ∃ tp2, Th K H18 sv tp2 := by
              rcases sv5 with rfl | ⟨tp2, h⟩
              · exact ⟨_, .tupl (m178 _ _ rfl hptG)⟩
              · exact ⟨tp2, h.th⟩
            obtain ⟨tp2, thS⟩ := thS
            refine make_nocls E18.S.R.at_ nC.th thS nCc ?_
            intro e H9 e9 he hx9
            refine .inl ⟨_, e, rfl, rfl, hx9, AllocO.mk (KH.start (H := H9)) fun q Hq nq kq => ?_⟩
            walk_at "go"
            refine ⟨rfl, ?_⟩
            rw [show decide (V.ref dt = V.non) = false from decide_eq_false (fun z => by cases z)]
            walk_at "go"
            have eq9 := e9.trans kq.extE
            refine eqB_tup (t := "class") (kq.find .here) (eq9 _ _ hdt) nC.same fun H' e' => ?_
            exact fin H' (f178.trans ((eq9.trans e').fr (A := [])).n) (LamX.Tabs.ext tb18 (eq9.trans e'))
end
end K03

set_option Elab.async false
set_option linter.all false
set_option maxRecDepth 100000
set_option maxHeartbeats 8000000
namespace K03
open PySem PySem.Spec PyProof.Rows L2 Wc
local macro_rules | `(tactic| walk_at "lk") => `(tactic| first | with_reducible exact Look.here | (with_reducible apply Look.there; walk_at "lk"))
local macro_rules | `(tactic| walk_at "ul") => `(tactic| first | with_reducible exact UpL.here | (with_reducible apply UpL.there; walk_at "ul"))
local macro_rules | `(tactic| walk_at "ga") => `(tactic| first | exact GetAt.here | (apply GetAt.there; walk_at "ga"))
local macro_rules | `(tactic| walk_at "sa") => `(tactic| first | exact SetAt.here | (apply SetAt.there; walk_at "sa"))
local macro_rules | `(tactic| walk_at "hp") => `(tactic| first | assumption | (refine' KH.find ?k ?h; (case k => assumption); (case h => walk_at "lk")))
local macro_rules | `(tactic| walk_at "sql") => `(tactic| first | assumption | (refine' SqL.of ?h; (case h => walk_at "hp")) | (refine' Fr.sql (KH.fr ?k) ?n ?h; (case k => assumption); (case h => assumption); (case n => (simp; done))))
local macro_rules | `(tactic| walk_at "sqt") => `(tactic| first | assumption | (refine' SqT.of ?h; (case h => walk_at "hp")))
local macro_rules | `(tactic| walk_at "side") => `(tactic| first | exact (show (0 : Int) < _ by decide) | exact (show (0 : Int) < _ by omega) | exact ⟨by decide, by decide, by decide⟩ | exact ⟨by decide, by decide, by omega⟩ | exact ⟨by decide, by decide⟩ | exact ⟨by omega, by omega⟩ | exact Or.inl ⟨by omega, by omega⟩ | exact Or.inr ⟨by omega, by omega⟩)
local macro_rules | `(tactic| walk_at "siz") => `(tactic| first | (refine sz_of ?_; first | decide | omega | (simp; done) | (simp; omega)) | (refine sz_lt ?_; first | decide | omega | (simp; done) | (simp; omega)))
local macro_rules | `(tactic| walk_at "own") => `(tactic| first | (exact Or.inr (by assumption)) | (refine Or.inl ?_; simp; done))
local macro_rules | `(tactic| walk_at "al") => `(tactic| (refine' AllocO.mk ?k ?_; (case k => assumption); intro _ _ _ _))
local macro_rules | `(tactic| walk_at "up") => `(tactic| (refine' UpdO.mk ?k ?h ?m ?_; (case k => assumption); (case h => walk_at "ul"); (case m => walk_at "own"); intro _ _))
local macro_rules | `(tactic| walk_at "st") => `(tactic| first
  | ((with_reducible refine' r_var ?h ?_); (case h => walk_at "ga"))
  | (with_reducible refine' r_seq ?_) | (with_reducible refine' r_next ?_) | (with_reducible refine' r_asg ?_) | (with_reducible refine' r_drop ?_) | (with_reducible refine' r_ret ?_) | (with_reducible refine' r_retN ?_)
  | (with_reducible refine' r_ifs ?_) | (with_reducible refine' r_cont ?_) | (with_reducible refine' r_break ?_) | (with_reducible refine' r_c ?_) | (with_reducible refine' r_op ?_) | (with_reducible refine' r_un ?_)
  | (with_reducible refine' r_test ?_) | (with_reducible refine' r_tB ?_) | (with_reducible refine' r_not ?_) | (with_reducible refine' r_and ?_) | (with_reducible refine' r_or ?_) | (with_reducible refine' r_notV ?_)
  | (with_reducible refine' r_andV ?_) | (with_reducible refine' r_orV ?_) | (with_reducible refine' r_ifE ?_) | (with_reducible refine' r_bl ?_) | (with_reducible refine' r_nil ?_) | (with_reducible refine' r_cons ?_)
  | (with_reducible refine' r_tup ?_) | (with_reducible refine' r_lst ?_) | (with_reducible refine' r_cb ?_) | (with_reducible refine' r_call ?_) | ((with_reducible refine' r_name ?h ?_); (case h => walk_at "sa")) | (with_reducible refine' r_gnil ?_)
  | (with_reducible refine' r_gcons ?_) | (with_reducible refine' r_gsub ?_) | (with_reducible refine' r_par ?_) | (with_reducible refine' r_par2 ?_) | (with_reducible refine' r_I0 ?_) | (with_reducible refine' r_U ?_)
  | ((with_reducible refine' r_eq ?h ?_); (case h => rfl)) | ((with_reducible refine' r_ne ?h ?_); (case h => rfl))
  | ((with_reducible refine' r_ixL ?h ?a ?_); (case h => walk_at "sql"); (case a => rfl))
  | ((with_reducible refine' r_ixT ?h ?a ?_); (case h => walk_at "sqt"); (case a => rfl))
  | ((with_reducible refine' r_setL ?h ?a ?_); (case h => walk_at "hp"); (case a => rfl))
  | ((with_reducible refine' r_I ?c ?_); (case c => walk_at "side"))
  | (with_reducible refine' r_sl ?_) | (with_reducible refine' r_part ?_) | (with_reducible refine' r_nopart ?_) | (with_reducible refine' r_ii ?_)
  | ((with_reducible refine' r_slL ?h ?_); (case h => walk_at "sql"))
  | (with_reducible refine' r_bm ?_) | (with_reducible refine' r_bm0 ?_) | (with_reducible refine' r_int1 ?_) | (with_reducible refine' r_int1b ?_)
  | ((with_reducible refine' r_aug ?h ?_); (case h => walk_at "ga"))
  | ((with_reducible refine' r_cat ?a ?b ?z ?_); (case a => walk_at "hp"); (case b => walk_at "hp"); (case z => walk_at "siz"))
  | ((with_reducible refine' r_append ?a ?z ?_); (case a => walk_at "hp"); (case z => walk_at "siz"))
  | ((with_reducible refine' And.intro ?z ?_); (case z => first | walk_at "siz" | exact Or.inl ⟨rfl, _, by walk_at "sql"⟩))
  | ((with_reducible refine' r_gtup ?h ?l ?_); (case h => walk_at "sqt"); (case l => rfl))
  | (with_reducible refine' r_forL ?_) | (with_reducible refine' r_forE ?_) | (with_reducible refine' r_forR ?_) | ((with_reducible refine' r_forL2 ?h ?_); (case h => walk_at "sql")) | ((with_reducible refine' r_forE2 ?h ?_); (case h => walk_at "sql"))
  | (with_reducible refine' r_lcR ?_) | ((with_reducible refine' r_iteT ?h ?_); (case h => rfl)) | ((with_reducible refine' r_iteF ?h ?_); (case h => rfl))
  | (with_reducible refine' r_dnew ?_) | (with_reducible refine' r_vei ?_) | (with_reducible refine' r_ost ?_) | (with_reducible refine' r_mkV ?_) | (with_reducible refine' r_mkX ?_) | (with_reducible refine' r_xfld ?_)
  | ((with_reducible refine' MkG.mk ?o ?n ?k ?_); (case o => exact ErrOk.o (by assumption)); (case n => exact ErrOk.no (by assumption)); (case k => assumption); intro _ _ _ _)
  | ((with_reducible refine' AllocX.mk ?k ?_); (case k => assumption); intro _ _ _ _)
  | (with_reducible refine' r_chain ?_) | (with_reducible refine' r_lcS ?_) | (with_reducible refine' r_lcS2 ?_) | (with_reducible refine' r_lcL ?_) | (with_reducible refine' r_lcT ?_) | (with_reducible refine' r_lcI ?_) | (with_reducible refine' r_yes ?_)
  | (with_reducible refine' r_fld ?_) | (with_reducible refine' r_sfld ?_) | (with_reducible refine' r_meth ?_) | (with_reducible refine' r_make ?_) | (with_reducible refine' r_dget ?_) | (with_reducible refine' r_din ?_) | (with_reducible refine' r_dput ?_)
  | ((with_reducible refine' r_disp ?k ?_); (case k => assumption); intro _ _ _ _) | (with_reducible refine' r_pnil ?_) | (with_reducible refine' r_pcons ?_)
  | (walk_at "al") | (walk_at "up"))
local macro_rules | `(tactic| walk_at "go") => `(tactic| repeat walk_at "st")

/-- x != y: tuples of the same parts -/
def rNeS (K : PySem.W.Frag) : R2 := fun x y H Q => ∃ a b t v, x = .ref a ∧ y = .ref b ∧ H a = some (.tup [.str t, v]) ∧ H b = some (.tup [.str t, v]) ∧ DSm v v H ∧ Q (.bl false) H
theorem eqV_self {v : V} (h : flatV v = true) : eqV v v = true := by
  cases v <;> first | rfl | (cases h; done) | simp [eqV]
theorem op_neS {X : Cx} {j : Nat} (hr : Room j X.A) : OpR X (compareOp .NotEq) (rNeS X.K) := by
  intro pins s σ H x y v u Q I rx ry h
  obtain ⟨a, b, t, z, rfl, rfl, ha, hb, hz, q⟩ := h
  obtain rfl : v = Value.ref a := rx
  obtain rfl : u = Value.ref b := ry
  obtain ⟨its, r1, p1, _⟩ := I.tuple (SqT.of ha)
  obtain ⟨its2, r2, p2, _⟩ := I.tuple (SqT.of hb)
  have hu := un1 hr
  cases r1 with
  | @cons _ u1 _ _ a1 r1 =>
  cases r1 with
  | @cons _ u2 _ _ a2 r1 =>
  cases r1
  cases r2 with
  | @cons _ w1 _ _ b1 r2 =>
  cases r2 with
  | @cons _ w2 _ _ b2 r2 =>
  cases r2
  refine SeqAt.RcNeAt.tuples (e := fun _ => true) p1 p2 (by show X.A.units < cLine; omega) (fun j h1 h2 => ?_) X.prog X.w _ _ ?_
  · match j, h1, h2 with
    | 0, _, _ =>
      obtain ⟨k1, rfl⟩ := (show ∃ k, u1 = Value.str t k from a1)
      obtain ⟨k2, rfl⟩ := (show ∃ k, w1 = Value.str t k from b1)
      have := SeqAt.EqAt.str_str (A := X.A.in1) (s := s) t k1 t k2
      rw [show (t == t) = true from beq_self_eq_true t] at this
      exact this
    | 1, _, _ =>
      rcases hz with ⟨_, f⟩ | ⟨c, rfl, _⟩
      · have := eqAt_V (A := X.A.in1) (s := s) a2 b2 f f
        rw [eqV_self f] at this
        exact this
      · obtain rfl : u2 = Value.ref c := a2
        obtain rfl : w2 = Value.ref c := b2
        exact SeqAt.EqAt.same (A := X.A.in1) (s := s) (.ref c)
    | j + 2, h1, _ => exact absurd h1 (by simp)
  · exact ⟨.bl false, H, I, rfl, q⟩

/-- the class box -/
def cBox (a b : V) : Cl := ⟨"box", some "any", [a, b], [a, b], 1⟩
def TB3 (a b : V) : List Cl := T0 ++ [cBox a b]
/-- ints and boxes -/
def Kb (t : Tg) : Prop := clsT t = "int" ∨ clsT t = "box"
theorem kb_known {a b : V} {t : Tg} (h : Kb t) : ∃ d, findC (TB3 a b) (clsT t) = some d := by
  rcases h with h | h <;> rw [h]
  · exact ⟨_, rfl⟩
  · exact ⟨_, rfl⟩
theorem ln_any (a b : V) : Line (TB3 a b) (some "any") ["any"] := .cons (c := ⟨"any", none, [], [], 0⟩) rfl .nil
theorem ln_int (a b : V) : Line (TB3 a b) (some "int") ["int", "any"] := .cons (c := ⟨"int", some "any", [], [], 0⟩) rfl (ln_any a b)
theorem ln_box (a b : V) : Line (TB3 a b) (some "box") ["box", "any"] := .cons (c := cBox a b) rfl (ln_any a b)
theorem kb_any {a b : V} {t : Tg} (h : Kb t) : Below (TB3 a b) (clsT t) "any" := by
  rcases h with h | h <;> rw [h]
  · exact (below_iff (ln_int a b)).mpr (by decide +kernel)
  · exact (below_iff (ln_box a b)).mpr (by decide +kernel)
theorem tr_box (a b : V) : TrOk (TB3 a b) 1 := by
  have cases3 : ∀ x c, findC (TB3 a b) x = some c → (x = "any" ∧ c.since ≤ 1) ∨ (x = "int" ∧ c.since ≤ 1) ∨ (x = "box" ∧ c.since ≤ 1) := fun x c e => by
    obtain ⟨h1, h2⟩ := find_mem e
    have h1 : c ∈ [(⟨"any", none, [], [], 0⟩ : Cl), ⟨"int", some "any", [], [], 0⟩, cBox a b] := h1
    simp only [List.mem_cons, List.not_mem_nil, or_false] at h1
    rcases h1 with rfl | rfl | rfl
    · exact .inl ⟨h2.symm, Nat.zero_le _⟩
    · exact .inr (.inl ⟨h2.symm, Nat.zero_le _⟩)
    · exact .inr (.inr ⟨h2.symm, Nat.le_refl _⟩)
  refine ⟨fun x c e => ?_, fun x c e => ?_, fun x c e => ?_⟩
  · rcases cases3 x c e with h | h | h <;> exact h.2
  · rcases cases3 x c e with ⟨rfl, _⟩ | ⟨rfl, _⟩ | ⟨rfl, _⟩
    · exact ⟨_, ln_any a b, by decide⟩
    · exact ⟨_, ln_int a b, by decide⟩
    · exact ⟨_, ln_box a b, by decide⟩
  · rcases cases3 x c e with ⟨rfl, _⟩ | ⟨rfl, _⟩ | ⟨rfl, _⟩ <;> decide
/-- the rows of box -/
def FBx (H : Hp) (a b : V) : Prop := ∃ ta tb, a = .ref ta ∧ b = .ref tb ∧ H ta = some (.tup [.str "left", .str "any"]) ∧ H tb = some (.tup [.str "right", .str "any"])
theorem FBx.mo {H H' : Hp} {a b : V} (h : FBx H a b) (m : Mo H H') : FBx H' a b := by
  obtain ⟨ta, tb, e1, e2, h1, h2⟩ := h
  exact ⟨ta, tb, e1, e2, m _ _ rfl h1, m _ _ rfl h2⟩
section
variable {P : Program} {w : World} {K : PySem.W.Frag} {CK CR CT fe NC NF NP TD : Addr}
theorem make_box {H : Hp} {Q : VK} {E : XK} {r kd tl sh p : Addr} {a b : V} {ks : List NK} {v v' : V} {t t' : Tg} {l l' : NK} (C : CsT K CT fe) (S : Sys P w K CK CR H r kd tl sh (TB3 a b) 1 ks) (F : FBx H a b) (hp : H p = some (.tup [v, v'])) (hv : TgR CT H ks v t l) (hv' : TgR CT H ks v' t' l') (kt : Kb t) (kt' : Kb t') (hk : ks.length < 80000)
    (m2 : 100 < deepM [t, t'] + 1 → ∀ H', Wc.Ext H H' → E (.ref TD) none H')
    (m3 : deepM [t, t'] + 1 ≤ 100 → ∀ a' H' ks' k, H a' = none → Wc.Fr [sh] H H' → Mo H H' → Sys P w K CK CR H' r kd tl sh (TB3 a b) 1 ks' → (∃ l, ks' = ks ++ l ∧ l.length ≤ 1) → TgR CT H' ks' (.ref a') (.th "box" [t, t']) k → PtAt CT H' a' "box" p → Q (.ref a') H') :
    spMake P w K CK CR CT NC NF NP TD [.ref r, .str "box", .ref p] H Q E := by
  obtain ⟨ta, tb, rfl, rfl, h1, h2⟩ := F
  have any2 : ∀ i, FitAt (TB3 (.ref ta) (.ref tb)) [("left", "any"), ("right", "any")] [t, t'] i := fun i q u hq hu => by
    match i, hq, hu with
    | 0, hq, hu =>
      cases hq
      cases hu
      exact kb_any kt
    | 1, hq, hu =>
      cases hq
      cases hu
      exact kb_any kt'
    | i + 2, hq, _ => cases hq
  refine make_ok (c := cBox (.ref ta) (.ref tb)) (fs := [("left", "any"), ("right", "any")]) (ts := [t, t']) C S.R.at_ (tr_box _ _) rfl (by decide +kernel) (by kernel_rfl) (.cons ⟨ta, rfl, h1⟩ (.cons ⟨tb, rfl, h2⟩ .nil)) hp (.cons hv (.cons hv' .nil)) rfl (by show 2 ≤ 1000; decide) (fun u hu => ?_) S.S hk (fun i q _ nf => absurd (any2 i) nf) (fun _ hd => m2 hd) (fun _ hd a' H' ks' k na f mo S' hks hT hP => m3 hd a' H' ks' k na f mo (S.made f mo S') ?_ hT hP)
  · simp only [List.mem_cons, List.not_mem_nil, or_false] at hu
    rcases hu with rfl | rfl
    · exact kb_known kt
    · exact kb_known kt'
  · rcases hks with e | e
    · exact ⟨[], by rw [e]; simp⟩
    · exact ⟨_, e, by simp⟩
end
/-- the trees -/
def tO : Nat → Tg
  | 0 => .int 0
  | n + 1 => .th "box" [tO n, tO n]
def tS : Nat → Tg
  | 0 => .int 1
  | n + 1 => .th "box" [tS n, if n = 50 then tO n else tS n]
theorem tO_kb : ∀ n, Kb (tO n)
  | 0 => .inl rfl
  | n + 1 => .inr rfl
theorem tS_kb : ∀ n, Kb (tS n)
  | 0 => .inl rfl
  | n + 1 => .inr rfl
theorem tO_deep : ∀ n, deepT (tO n) = n
  | 0 => rfl
  | n + 1 => by
    have := tO_deep n
    show max (deepT (tO n)) (max (deepT (tO n)) 0) + 1 = n + 1
    omega
theorem tS_deep : ∀ n, deepT (tS n) = n
  | 0 => rfl
  | n + 1 => by
    have h1 := tS_deep n
    have h2 := tO_deep n
    show max (deepT (tS n)) (max (deepT (if n = 50 then tO n else tS n)) 0) + 1 = n + 1
    split <;> omega
theorem tOS : ∀ n, tO n ≠ tS n
  | 0 => fun e => by
    injection e with e
    exact absurd e (by decide)
  | n + 1 => fun e => by
    injection e with _ e
    injection e with e _
    exact tOS n e
section
variable {P : Program} {w : World} {K : PySem.W.Frag} {mg : Str → Option Value} {base : Heap} {f : Addr} {fd : FuncData} {CK CR CT fe NC TK NFd NP NF TD WE : Addr}
abbrev NN_l_chain_right : List Str := ["_law_many", "_law_runtime", "_law_one_here", "_law_other", "_law_third", "_law_k"]
def spChain (Pt Pr : Addr) : Sp := fun vs H Q _ => ∃ i : Nat, vs = [.int (i : Nat)] ∧ i ≤ 100 ∧ LamX.Tabs (TL Pt Pr) H ∧ ∀ H', Q (.bl true) H'
theorem ok_chain {g fa : Addr} {fdA : FuncData} {Pt Pr : Addr} (Sd : SaidC K mg g NC NP NF TD WE) (hne : Pt ≠ Pr) {cc : Addr} {oc dV kV doc pm ct : Value} {od an : Option Addr} {osl : Array (Option Value)}
    (lk : K.lookup f = some ⟨oc, od, .func (PySem.W.fnOf "_law_chain_right" "_law_chain_right" (defArgs s_l_chain_right) (defBody s_l_chain_right) (defScope s_l_chain_right) dV kV doc pm an (.ref cc) ct), osl⟩) (hcd : PySem.W.codeIn K (.ref cc) "_law_chain_right" = true) (TB : LamX.TabB base mg cc Pr)
    (T : Bt mg) (Ct : CsT K CT fe) (M_teq : ∃ fd, Binds K fd ["self", "other"] [] ∧ FnOk P w K mg base CX0 1 fe fd ["self", "other"] (spTEq K CT)) (K_Runtime : MkOk P w K mg base CX0 3 "Runtime" CR ["self"] (spRuntime K CK CR))
    (gA : mg "add_class" = some (.ref fa)) (kpA : PySem.W.keepIn K (.ref fa) = true) (KB : KBn K fdA ["runtime", "name", "parent", "fields"] 3 ["fields"] (fun us ws => us ++ ws) (fun vs zs => vs ++ zs))
    (FA : FnOk P w K mg base (L2.CX P w) 4 fa fdA ["runtime", "name", "parent", "fields"] (spAdd K CK CR NC TK NFd))
    (D_make : DfOk P w K mg base (L2.CX P w) 5 "make" ["runtime", "name", "parts"] (spMake P w K CK CR CT NC NF NP TD)) :
    FnOk P w K mg base CX0 11 f (PySem.W.fnOf "_law_chain_right" "_law_chain_right" (defArgs s_l_chain_right) (defBody s_l_chain_right) (defScope s_l_chain_right) dV kV doc pm an (.ref cc) ct) ["_law_many"] (spChain Pt Pr) := by
  obtain ⟨hmS, kpS, ⟨oc2, dV2, kV2, doc2, pm2, cdv2, ct2, od2, an2, osl2, lkS, hcS, bS⟩, h3, gC, gP, gF, gD, gW⟩ := Sd
  refine fn_of lk hcd sc_l_chain_right (fun vs H Q E h => ?_) (fun A outer s H vs Q E hr h => ?_)
  · obtain ⟨i, rfl, _⟩ := h
    rfl
  · refine ⟨_, PSs.nox (pss_cons (ps_set (i := 1) sc_l_chain_right.nd rfl (by first | exact Or.inl rfl | exact Or.inr rfl) (pe_makeC0 K_Runtime hr))
      (pss_cons (ps_expr (pe_callN FA (hr.mono (by decide)) (by rfl) gA kpA KB (by first | exact pass0 | exact passL) (pa_cons (pv 1) (pa_cons pe_str (pa_cons pe_str pa_nil))) (pk_cons (pe_tup (pa_cons (pe_tup (pa_cons pe_str (pa_cons pe_str pa_nil))) (pa_cons (pe_tup (pa_cons pe_str (pa_cons pe_str pa_nil))) pa_nil))) pk_nil)))
      (pss_cons (ps_asg (pe_tup (pa_cons pe_int (pa_cons pe_int (pa_cons pe_int pa_nil)))) (pg_tup rfl (pgs_cons (pg_name (i := 2) sc_l_chain_right.nd rfl (by first | exact Or.inl rfl | exact Or.inr rfl)) (pgs_cons (pg_name (i := 3) sc_l_chain_right.nd rfl (by first | exact Or.inl rfl | exact Or.inr rfl)) (pgs_cons (pg_name (i := 4) sc_l_chain_right.nd rfl (by first | exact Or.inl rfl | exact Or.inr rfl)) pgs_nil)))))
      (pss_cons (ps_for PassesOwn.never rfl (pi_range1 (by rfl) T.f_range (pa_cons pe_int pa_nil)) (pg_name (i := 5) sc_l_chain_right.nd rfl (by first | exact Or.inl rfl | exact Or.inr rfl)) (pss_cons (ps_asg (pe_tup (pa_cons (pe_callD D_make hr (pa_cons (pv 1) (pa_cons pe_str (pa_cons (pe_tup (pa_cons (pv 2) (pa_cons (pv 2) pa_nil))) pa_nil)))) (pa_cons (pe_callD D_make hr (pa_cons (pv 1) (pa_cons pe_str (pa_cons (pe_tup (pa_cons (pv 3) (pa_cons (pv 3) pa_nil))) pa_nil)))) pa_nil))) (pg_tup rfl (pgs_cons (pg_name (i := 2) sc_l_chain_right.nd rfl (by first | exact Or.inl rfl | exact Or.inr rfl)) (pgs_cons (pg_name (i := 3) sc_l_chain_right.nd rfl (by first | exact Or.inl rfl | exact Or.inr rfl)) pgs_nil))))
      (pss_one (ps_set (i := 4) sc_l_chain_right.nd rfl (by first | exact Or.inl rfl | exact Or.inr rfl) (pe_callD D_make hr (pa_cons (pv 1) (pa_cons pe_str (pa_cons (pe_tup (pa_cons (pv 4) (pa_cons (pe_ix ix_list (pe_lst (pa_cons (pv 4) (pa_cons (pe_ix ix_tup (pe_fld (pv 2) rfl) pe_int (fun _ _ => rfl)) pa_nil))) (pe_callTy call_int1 (by rfl) T.f_int PyProof.Rows.boot_int (pa_cons (pe_cmpR op_eq (pv 5) pe_int (nomark _)) pa_nil)) (fun _ _ => rfl)) pa_nil))) pa_nil))))))))
      (pss_cons (ps_if (PW.pt (pw_or (pt_not (pt_cmpR (op_eqMix Ct.o M_teq hr) (pv 2) (pv 3) (nomark _))) (pw_or (pt_cmpR (op_eqMix Ct.o M_teq hr) (pv 2) (pe_ix ix_tup (pe_fld (pv 2) rfl) pe_int (fun _ _ => rfl)) (nomark _)) (pw_or1 (pt_cmpR (op_eqMix Ct.o M_teq hr) (pv 2) (pv 4) (nomark _)))))) (pss_one (ps_ret pe_bl)) pss_nil)
      (pss_cons (ps_for PassesOwn.never rfl (pi_range1 (by rfl) T.f_range (pa_cons (pv 0) pa_nil)) (pg_name (i := 5) sc_l_chain_right.nd rfl (by first | exact Or.inl rfl | exact Or.inr rfl)) (pss_one (ps_if (pt_cmpR (op_neS hr) (LamX.pe_lamcall (T := TL Pt Pr) (k := 8) (c := cc) (P := Pr) (by rfl) hmS kpS lkS hcS bS sc_l_said rfl (Or.inl rfl) (said_gives rfl h3 gC gP gF gD gW) TB (by rfl) (List.mem_cons_of_mem _ List.mem_cons_self) (tl_u2 hne) hr (LamX.lamS_by (sc := defScope s_l_chain_right) (by decide +kernel)) (by rfl) (by exact fun _ _ _ _ _ => rfl) (fun A outer s H E f c' hr2 => (pe_callDX (E := E) D_make hr2 (passes_call (takes_of rfl rfl rfl rfl) (fun _ _ _ _ z => z)) (pa_cons (pv 1) (pa_cons pe_str (pa_cons (pe_tup (pa_cons (pv 5) (pa_cons (pv 2) pa_nil))) pa_nil)))))) (pe_tup (pa_cons pe_str (pa_cons pe_non pa_nil))) (nomark _)) (pss_one (ps_ret pe_bl)) pss_nil)))
      (pss_one (ps_ret pe_bl)))))))), ?_⟩
    obtain ⟨many, rfl, hmany, tabs, k⟩ := h
    rw [show L2.start ["_law_many", "_law_runtime", "_law_one_here", "_law_other", "_law_third", "_law_k"] [V.int (many : Nat)] = ([some (V.int (many : Nat)), none, none, none, none, none] : List (Option V)) from rfl]
    have kh := KH.start (H := H)
    walk_at "go"
    intro x dx hx0 hdx0 ne0
    have kx := (kh.new (o := .own x) hdx0).new (p := x) (o := .ins CR dx []) (by rw [upd_ne (Ne.symm ne0)]; exact hx0)
    refine ⟨x, dx, rfl, upd_same, fun kd tl t0 H1 f1 R1 nkd ntl htl1 ht01 nt0 sh fs1 hsh1 nsh => ⟨rfl, ?_⟩⟩
    generalize upd (upd H dx (.own x)) x (.ins CR dx []) = Hx at kx f1 nkd ntl nt0 nsh
    obtain ⟨⟨dx1, fs2, h1x, _⟩, ⟨kv1, hkv1, bn1⟩, _⟩ := id R1.at_
    have e01 := (kx.up .here f1 h1x (.inr hx0)).extE
    have hnew : ∀ a, a ∈ [kd, tl] → H a = none := fun a ha => by
      simp at ha
      rcases ha with rfl | rfl
      · exact kx.fresh nkd
      · exact kx.fresh ntl
    have nks : kd ≠ sh := fun e => by
      rcases hkv1 with h | ⟨o, h⟩
      · rw [e, hsh1] at h
        cases h
        have := bn1.length
        simp at this
      · rw [e, hsh1] at h
        cases h
    have S1 : Sys P w K CK CR H1 x kd tl sh T0 0 [] := ⟨R1, ⟨fs1, .inr ⟨rfl, hsh1⟩, List.nodup_nil, by simp⟩, nks, ne_of htl1 hsh1 (by intro z; cases z)⟩
    have nsh0 : H sh = none := kx.fresh nsh
    clear kh kx
    have k1 := KH.start (H := H1)
    walk_at "go"
    refine r_callN ?_
    walk_at "go"
    rename_i ta A1 na ka tb A2 nb kb fa2 A3 nf kf
    have eA := kf.extE
    have SA := S1.ext eA
    refine ⟨rfl, rfl, add_ok (c := ⟨"any", none, [], [], 0⟩) (fs := [("left", "any"), ("right", "any")]) (xs := [.ref ta, .ref tb]) SA.R (by decide) (by simp) (by decide +kernel) (by decide +kernel) (by kernel_rfl) (by kernel_rfl) (by decide +kernel) (by decide +kernel) (by kernel_rfl) rfl (.tupl (kf.find .here)) (.cons ⟨ta, rfl, (by have z := KH.find (p := ta) kf (by walk_at "lk"); exact z)⟩ (.cons ⟨tb, rfl, (by have z := KH.find (p := tb) kf (by walk_at "lk"); exact z)⟩ .nil)) (by simp) (by decide +kernel) (fun z hz => by
      simp at hz
      rcases hz with rfl | rfl <;> exact ⟨by decide +kernel, by decide +kernel, by kernel_rfl, by decide +kernel⟩) fun H2 fr2 R2 => ?_⟩
    have hta := (by have z := KH.find (p := ta) kf (by walk_at "lk"); exact z)
    have htb := (by have z := KH.find (p := tb) kf (by walk_at "lk"); exact z)
    obtain ⟨S2, mo2⟩ := SA.grow fr2 R2
    have e02 : Wc.Ext H H2 := extOut (e01.trans eA) fr2 hnew
    have F2 : FBx H2 (.ref ta) (.ref tb) := ⟨ta, tb, rfl, rfl, mo2 _ _ rfl hta, mo2 _ _ rfl htb⟩
    have tabs2 := LamX.Tabs.ext tabs e02
    clear k1 ka kb kf
    have k2 := KH.start (H := H2)
    walk_at "go"
    rename_i t3 H3 nt3 k3
    have e23 := k3.extE
    refine ⟨_, rfl, by decide, by decide, ?_⟩
    refine ForR.mk (n := 100) (fun i σ Hi => ∃ (v1 v2 v3 : V) (vk : Option V) (ks : List NK) (l1 l2 l3 : NK), σ = [some (.int (many : Nat)), some (.ref x), some v1, some v2, some v3, vk] ∧ TgR CT Hi ks v1 (tO i) l1 ∧ TgR CT Hi ks v2 (tO i) l2 ∧ TgR CT Hi ks v3 (tS i) l3 ∧ Sys P w K CK CR Hi x kd tl sh (TB3 (.ref ta) (.ref tb)) 1 ks ∧ ks.length ≤ 3 * i ∧ LamX.Tabs (TL Pt Pr) Hi ∧ FBx Hi (.ref ta) (.ref tb) ∧ (i ≠ 0 → ∃ a p, v1 = .ref a ∧ PtAt CT Hi a "box" p ∧ ∃ v0 l0, Hi p = some (.tup [v0, v0]) ∧ TgR CT Hi ks v0 (tO (i - 1)) l0))
      ⟨_, _, _, _, [], _, _, _, rfl, .int 0, .int 0, .int 1, S2.ext e23, by simp, LamX.Tabs.ext tabs2 e23, F2.mo e23.mo, fun h => absurd rfl h⟩ ?_ ?_
    · rintro i σ Hi hi ⟨v1, v2, v3, vk, ks, l1, l2, l3, rfl, g1, g2, g3, Si, hks, tbi, Fi, _⟩
      have kk := KH.start (H := Hi)
      have pre0 : ∀ ks : List NK, ∃ l, ks = ks ++ l := fun ks => ⟨[], (List.append_nil _).symm⟩
      have dO : deepM [tO i, tO i] + 1 = i + 1 := by
        have := tO_deep i
        show max (deepT (tO i)) (max (deepT (tO i)) 0) + 1 = i + 1
        omega
      have dS : deepM [tS i, if i = 50 then tO i else tS i] + 1 = i + 1 := tS_deep (i + 1)
      walk_at "go"
      rename_i p1 G1 np1 k1
      have e1 := k1.extE
      refine make_box Ct (Si.ext e1) (Fi.mo e1.mo) (k1.find .here) (TgR.mo e1.mo (pre0 _) _ _ _ g1) (TgR.mo e1.mo (pre0 _) _ _ _ g1) (tO_kb i) (tO_kb i) (by omega) (fun h => absurd h (by omega)) (fun _ a1 Ha ksa ka naa fra moa Sa ⟨la, eka, hla⟩ hTa hPa => ?_)
      have mA : Mo Hi Ha := e1.mo.trans moa
      have tbA : LamX.Tabs (TL Pt Pr) Ha := tabs_sh (LamX.Tabs.ext tbi e1) fra (Si.ext e1).S.t
      have g2A := TgR.mo mA ⟨la, eka⟩ _ _ _ g2
      have g3A := TgR.mo mA ⟨la, eka⟩ _ _ _ g3
      have g1A := TgR.mo mA ⟨la, eka⟩ _ _ _ g1
      have hp1A := moa _ _ rfl (k1.find .here)
      clear kk k1
      have kk := KH.start (H := Ha)
      walk_at "go"
      rename_i p2 G2 np2 k2
      have e2 := k2.extE
      refine make_box Ct (Sa.ext e2) ((Fi.mo mA).mo e2.mo) (k2.find .here) (TgR.mo e2.mo (pre0 _) _ _ _ g2A) (TgR.mo e2.mo (pre0 _) _ _ _ g2A) (tO_kb i) (tO_kb i) (by rw [eka, List.length_append]; omega) (fun h => absurd h (by omega)) (fun _ a2 Hb ksb kb nab frb mob Sb ⟨lb, ekb, hlb⟩ hTb hPb => ?_)
      have mB : Mo Ha Hb := e2.mo.trans mob
      have tbB : LamX.Tabs (TL Pt Pr) Hb := tabs_sh (LamX.Tabs.ext tbA e2) frb (Sa.ext e2).S.t
      have g3B := TgR.mo mB ⟨lb, ekb⟩ _ _ _ g3A
      have g1B := TgR.mo mB ⟨lb, ekb⟩ _ _ _ g1A
      have hTaB := TgR.mo mB ⟨lb, ekb⟩ _ _ _ hTa
      obtain ⟨dxU, dU, nU, hU⟩ := id hPa
      have hUB := mB _ _ rfl hU
      have hp1B := mB _ _ rfl hp1A
      clear kk k2
      have kk := KH.start (H := Hb)
      walk_at "go"
      rename_i p4 G4 np4 k4
      have e4 := k4.extE
      refine FldAt.mk (e4 _ _ hUB) Ct.c Ct.parts rfl ?_
      have sq1 : SqT K G4 p1 _ := SqT.of (e4 _ _ hp1B)
      walk_at "go"
      rename_i l5 G5 nl5 k5
      have e45 := k5.extE
      have hl5 := k5.find (p := l5) .here
      obtain ⟨v3', l3', hv3, hT3⟩ : ∃ v3' l3', atI [v3, v1] (if decide (V.int (0 + (i : Int)) = V.int 50) = true then (1 : Int) else 0) = some v3' ∧ TgR CT Hb ksb v3' (if i = 50 then tO i else tS i) l3' := by
        by_cases h : i = 50
        · subst h
          exact ⟨v1, l1, rfl, g1B⟩
        · rw [show decide (V.int (0 + (i : Int)) = V.int 50) = false from decide_eq_false (fun e => h (by injection e; omega)), if_neg h]
          exact ⟨v3, l3, rfl, g3B⟩
      refine r_ixL (SqL.of hl5) hv3 ?_
      walk_at "go"
      rename_i p6 G6 np6 k6
      have e6 := k6.extE
      have Fb := Fi.mo (mA.trans mB)
      refine make_box Ct (Sb.ext e6) (Fb.mo e6.mo) (k6.find .here) (TgR.mo e6.mo (pre0 _) _ _ _ g3B) (TgR.mo e6.mo (pre0 _) _ _ _ hT3) (tS_kb i) (by split; exact tO_kb i; exact tS_kb i) (by rw [ekb, eka, List.length_append, List.length_append]; omega) (fun h => absurd h (by omega)) (fun _ a3 Hc ksc kc nac frc moc Sc ⟨lc, ekc, hlc⟩ hTc hPc => ?_)
      have mC : Mo Hb Hc := e6.mo.trans moc
      have tbC : LamX.Tabs (TL Pt Pr) Hc := tabs_sh (LamX.Tabs.ext tbB e6) frc (Sb.ext e6).S.t
      have kk2 := KH.start (H := Hc)
      walk_at "go"
      exact ⟨_, _, _, _, ksc, _, _, _, rfl, TgR.mo mC ⟨lc, ekc⟩ _ _ _ hTaB, TgR.mo mC ⟨lc, ekc⟩ _ _ _ hTb, hTc, Sc, by rw [ekc, ekb, eka]; simp only [List.length_append]; omega, tbC, Fb.mo mC, fun _ => ⟨a1, p1, rfl, ⟨dxU, dU, nU, mC _ _ rfl hUB⟩, v1, l1, mC _ _ rfl hp1B, TgR.mo mC ⟨lc, ekc⟩ _ _ _ g1B⟩⟩
    · rintro σ Hi ⟨v1, v2, v3, vk, ks, l1, l2, l3, rfl, g1, g2, g3, Si, hks, tbi, Fi, last⟩
      obtain ⟨a, p, rfl, pta, v0, l0, hp0, g0⟩ := last (by decide)
      have kk := KH.start (H := Hi)
      walk_at "go"
      refine mix_tg Ct Si.S.nd g1 g2 true (by simp) ?_
      walk_at "go"
      obtain ⟨dxU, dU, nU, hU⟩ := pta
      refine FldAt.mk hU Ct.c Ct.parts rfl ?_
      have sqp : SqT K Hi p _ := SqT.of hp0
      walk_at "go"
      refine mix_tg Ct Si.S.nd g1 g0 false ⟨(fun h => by cases h), fun h => ?_⟩ ?_
      · have h1 := tO_deep 100
        have h2 := tO_deep (100 - 1)
        rw [h] at h1
        omega
      walk_at "go"
      refine mix_tg Ct Si.S.nd g1 g3 false ⟨(fun h => by cases h), fun h => absurd h (tOS 100)⟩ ?_
      walk_at "go"
      refine ⟨_, rfl, by omega, by omega, ?_⟩
      rw [Int.toNat_natCast]
      refine ForR.mk (n := many) (fun j σ Hj => (∃ vk : Option V, σ = [some (.int (many : Nat)), some (.ref x), some (.ref a), some v2, some v3, vk]) ∧ Sys P w K CK CR Hj x kd tl sh (TB3 (.ref ta) (.ref tb)) 1 ks ∧ LamX.Tabs (TL Pt Pr) Hj ∧ FBx Hj (.ref ta) (.ref tb) ∧ ∃ l, TgR CT Hj ks (.ref a) (tO 100) l) ⟨⟨_, rfl⟩, Si, tbi, Fi, _, g1⟩ ?_ ?_
      · rintro j σ Hj hj ⟨⟨vk', rfl⟩, Sj, tbj, Fj, lj, gj⟩
        have kj := KH.start (H := Hj)
        walk_at "go"
        refine ⟨tbj, fun H8 eN8 tb8 => ?_⟩
        have f8 : Wc.FrN [] Hj H8 := FrN.of eN8
        have m8 : Mo Hj H8 := f8.mo (by simp)
        have S8 := Sj.frn f8 m8 (by simp) (by simp) (by simp)
        have F8 := Fj.mo m8
        have g8 := TgR.mo m8 ⟨[], (List.append_nil _).symm⟩ _ _ _ gj
        have k8 := KH.start (H := H8)
        try unfold TSaid
        dsimp only
        walk_at "go"
        rename_i p9 H9 np9 k9
        have e9 := k9.extE
        have d101 : deepM [Tg.int (0 + (j : Int)), tO 100] = 100 := by
          have := tO_deep 100
          show max 0 (max (deepT (tO 100)) 0) = 100
          omega
        refine make_box Ct (S8.ext e9) (F8.mo e9.mo) (k9.find .here) (.int (0 + (j : Int))) (TgR.mo e9.mo ⟨[], (List.append_nil _).symm⟩ _ _ _ g8) (.inl rfl) (tO_kb 100) (by omega) (fun _ H10 e10 => ?_) (fun h => absurd h (by omega))
        refine .inr (.inr (.inr ⟨rfl, AllocO.mk (KH.start (H := H10)) fun q Hq nq kq => ?_⟩))
        walk_at "go"
        rename_i t10 H11 n11 k11
        refine ⟨q, t10, "deep", .non, rfl, rfl, (by have z := KH.find (p := q) k11 (by walk_at "lk"); exact z), k11.find .here, .inl ⟨rfl, rfl⟩, ?_⟩
        walk_at "go"
        have e11 := e9.trans (e10.trans k11.extE)
        exact ⟨⟨_, rfl⟩, S8.ext e11, LamX.Tabs.ext tb8 e11, F8.mo e11.mo, _, TgR.mo e11.mo ⟨[], (List.append_nil _).symm⟩ _ _ _ g8⟩
      · rintro σ Hj ⟨⟨vk', rfl⟩, _⟩
        walk_at "go"
        exact k _
end
end K03

set_option Elab.async false
set_option linter.all false
set_option maxRecDepth 100000
set_option maxHeartbeats 8000000
namespace K03
open PySem PySem.Spec PyProof.Rows L2 Wc
local macro_rules | `(tactic| walk_at "lk") => `(tactic| first | with_reducible exact Look.here | (with_reducible apply Look.there; walk_at "lk"))
local macro_rules | `(tactic| walk_at "ul") => `(tactic| first | with_reducible exact UpL.here | (with_reducible apply UpL.there; walk_at "ul"))
local macro_rules | `(tactic| walk_at "ga") => `(tactic| first | exact GetAt.here | (apply GetAt.there; walk_at "ga"))
local macro_rules | `(tactic| walk_at "sa") => `(tactic| first | exact SetAt.here | (apply SetAt.there; walk_at "sa"))
local macro_rules | `(tactic| walk_at "hp") => `(tactic| first | assumption | (refine' KH.find ?k ?h; (case k => assumption); (case h => walk_at "lk")))
local macro_rules | `(tactic| walk_at "sql") => `(tactic| first | assumption | (refine' SqL.of ?h; (case h => walk_at "hp")) | (refine' Fr.sql (KH.fr ?k) ?n ?h; (case k => assumption); (case h => assumption); (case n => (simp; done))))
local macro_rules | `(tactic| walk_at "sqt") => `(tactic| first | assumption | (refine' SqT.of ?h; (case h => walk_at "hp")))
local macro_rules | `(tactic| walk_at "side") => `(tactic| first | exact (show (0 : Int) < _ by decide) | exact (show (0 : Int) < _ by omega) | exact ⟨by decide, by decide, by decide⟩ | exact ⟨by decide, by decide, by omega⟩ | exact ⟨by decide, by decide⟩ | exact ⟨by omega, by omega⟩ | exact Or.inl ⟨by omega, by omega⟩ | exact Or.inr ⟨by omega, by omega⟩)
local macro_rules | `(tactic| walk_at "siz") => `(tactic| first | (refine sz_of ?_; first | decide | omega | (simp; done) | (simp; omega)) | (refine sz_lt ?_; first | decide | omega | (simp; done) | (simp; omega)))
local macro_rules | `(tactic| walk_at "own") => `(tactic| first | (exact Or.inr (by assumption)) | (refine Or.inl ?_; simp; done))
local macro_rules | `(tactic| walk_at "al") => `(tactic| (refine' AllocO.mk ?k ?_; (case k => assumption); intro _ _ _ _))
local macro_rules | `(tactic| walk_at "up") => `(tactic| (refine' UpdO.mk ?k ?h ?m ?_; (case k => assumption); (case h => walk_at "ul"); (case m => walk_at "own"); intro _ _))
local macro_rules | `(tactic| walk_at "st") => `(tactic| first
  | ((with_reducible refine' r_var ?h ?_); (case h => walk_at "ga"))
  | (with_reducible refine' r_seq ?_) | (with_reducible refine' r_next ?_) | (with_reducible refine' r_asg ?_) | (with_reducible refine' r_drop ?_) | (with_reducible refine' r_ret ?_) | (with_reducible refine' r_retN ?_)
  | (with_reducible refine' r_ifs ?_) | (with_reducible refine' r_cont ?_) | (with_reducible refine' r_break ?_) | (with_reducible refine' r_c ?_) | (with_reducible refine' r_op ?_) | (with_reducible refine' r_un ?_)
  | (with_reducible refine' r_test ?_) | (with_reducible refine' r_tB ?_) | (with_reducible refine' r_not ?_) | (with_reducible refine' r_and ?_) | (with_reducible refine' r_or ?_) | (with_reducible refine' r_notV ?_)
  | (with_reducible refine' r_andV ?_) | (with_reducible refine' r_orV ?_) | (with_reducible refine' r_ifE ?_) | (with_reducible refine' r_bl ?_) | (with_reducible refine' r_nil ?_) | (with_reducible refine' r_cons ?_)
  | (with_reducible refine' r_tup ?_) | (with_reducible refine' r_lst ?_) | (with_reducible refine' r_cb ?_) | (with_reducible refine' r_call ?_) | ((with_reducible refine' r_name ?h ?_); (case h => walk_at "sa")) | (with_reducible refine' r_gnil ?_)
  | (with_reducible refine' r_gcons ?_) | (with_reducible refine' r_gsub ?_) | (with_reducible refine' r_par ?_) | (with_reducible refine' r_par2 ?_) | (with_reducible refine' r_I0 ?_) | (with_reducible refine' r_U ?_)
  | ((with_reducible refine' r_eq ?h ?_); (case h => rfl)) | ((with_reducible refine' r_ne ?h ?_); (case h => rfl))
  | ((with_reducible refine' r_ixL ?h ?a ?_); (case h => walk_at "sql"); (case a => rfl))
  | ((with_reducible refine' r_ixT ?h ?a ?_); (case h => walk_at "sqt"); (case a => rfl))
  | ((with_reducible refine' r_setL ?h ?a ?_); (case h => walk_at "hp"); (case a => rfl))
  | ((with_reducible refine' r_I ?c ?_); (case c => walk_at "side"))
  | (with_reducible refine' r_sl ?_) | (with_reducible refine' r_part ?_) | (with_reducible refine' r_nopart ?_) | (with_reducible refine' r_ii ?_)
  | ((with_reducible refine' r_slL ?h ?_); (case h => walk_at "sql"))
  | (with_reducible refine' r_bm ?_) | (with_reducible refine' r_bm0 ?_) | (with_reducible refine' r_int1 ?_) | (with_reducible refine' r_int1b ?_)
  | ((with_reducible refine' r_aug ?h ?_); (case h => walk_at "ga"))
  | ((with_reducible refine' r_cat ?a ?b ?z ?_); (case a => walk_at "hp"); (case b => walk_at "hp"); (case z => walk_at "siz"))
  | ((with_reducible refine' r_append ?a ?z ?_); (case a => walk_at "hp"); (case z => walk_at "siz"))
  | ((with_reducible refine' And.intro ?z ?_); (case z => first | walk_at "siz" | exact Or.inl ⟨rfl, _, by walk_at "sql"⟩))
  | ((with_reducible refine' r_gtup ?h ?l ?_); (case h => walk_at "sqt"); (case l => rfl))
  | (with_reducible refine' r_forL ?_) | (with_reducible refine' r_forE ?_) | (with_reducible refine' r_forR ?_) | ((with_reducible refine' r_forL2 ?h ?_); (case h => walk_at "sql")) | ((with_reducible refine' r_forE2 ?h ?_); (case h => walk_at "sql"))
  | (with_reducible refine' r_lcR ?_) | ((with_reducible refine' r_iteT ?h ?_); (case h => rfl)) | ((with_reducible refine' r_iteF ?h ?_); (case h => rfl))
  | (with_reducible refine' r_dnew ?_) | (with_reducible refine' r_vei ?_) | (with_reducible refine' r_ost ?_) | (with_reducible refine' r_mkV ?_) | (with_reducible refine' r_mkX ?_) | (with_reducible refine' r_xfld ?_)
  | ((with_reducible refine' MkG.mk ?o ?n ?k ?_); (case o => exact ErrOk.o (by assumption)); (case n => exact ErrOk.no (by assumption)); (case k => assumption); intro _ _ _ _)
  | ((with_reducible refine' AllocX.mk ?k ?_); (case k => assumption); intro _ _ _ _)
  | (with_reducible refine' r_chain ?_) | (with_reducible refine' r_lcS ?_) | (with_reducible refine' r_lcS2 ?_) | (with_reducible refine' r_lcL ?_) | (with_reducible refine' r_lcT ?_) | (with_reducible refine' r_lcI ?_) | (with_reducible refine' r_yes ?_)
  | (with_reducible refine' r_fld ?_) | (with_reducible refine' r_sfld ?_) | (with_reducible refine' r_meth ?_) | (with_reducible refine' r_make ?_) | (with_reducible refine' r_dget ?_) | (with_reducible refine' r_din ?_) | (with_reducible refine' r_dput ?_)
  | ((with_reducible refine' r_disp ?k ?_); (case k => assumption); intro _ _ _ _) | (with_reducible refine' r_pnil ?_) | (with_reducible refine' r_pcons ?_)
  | (walk_at "al") | (walk_at "up"))
local macro_rules | `(tactic| walk_at "go") => `(tactic| repeat walk_at "st")

section
variable {P : Program} {w : World} {K : PySem.W.Frag} {mg : Str → Option Value} {base : Heap} {f : Addr} {fd : FuncData} {CK CR CT fe NC NP NF TD : Addr}
abbrev NN_law : List Str := ["_law_script", "_law_cell", "_law_well_here", "_law_runtime", "_law_names", "_law_codes", "_law_values", "_law_k", "_law_number"]
def spLaw (K : PySem.W.Frag) (Pt Pr : Addr) : Sp := fun vs H Q _ => ∃ (a : Addr) (ns : List Int), vs = [.ref a] ∧ SqL K H a (ns.map V.int) ∧ ns.length ≤ 63 ∧ LamX.Tabs (TL Pt Pr) H ∧ ∀ H', Q (.bl true) H'
theorem ok_law {Pt Pr : Addr} (F : FnP K "law" s_law f fd) (T : Bt mg) (Ct : CsT K CT fe) (D_l_well : DfOk P w K mg base CX0 1 "_law_well" ["_law_cell"] spWell) (K_Runtime : MkOk P w K mg base CX0 3 "Runtime" CR ["self"] (spRuntime K CK CR)) (D_l_tree : DfOk P w K mg base CX0 5 "_law_tree" ["_law_well_here", "_law_runtime"] (spLTree K CK CR))
    (D_l_coded : DfOk P w K mg base CX0 1 "_law_coded" ["_law_codes", "_law_code"] spCoded) (D_make : DfOk P w K mg base (L2.CX P w) 5 "make" ["runtime", "name", "parts"] (spMake P w K CK CR CT NC NF NP TD)) (D_l_draw : DfOk P w K mg base CX0 1 "_law_draw" ["_law_well_here", "_law_many"] spDraw)
    (D_l_made_right : DfOk P w K mg base CX0 11 "_law_made_right" ["_law_well_here", "_law_runtime", "_law_names", "_law_values", "_law_codes"] (spMadeR P w K CK CR CT Pt Pr)) (D_l_chain_right : DfOk P w K mg base CX0 11 "_law_chain_right" ["_law_many"] (spChain Pt Pr)) : FnOk P w K mg base CX0 12 f fd ["_law_script"] (spLaw K Pt Pr) := by
  refine F.ok sc_law (fun vs H Q E h => ?_) (fun cdv A outer s H vs Q E hr h => ?_)
  · obtain ⟨a, ns, rfl, _⟩ := h
    rfl
  · refine ⟨_, PSs.nox (pss_cons (ps_for PassesOwn.never rfl (pi_list (pe_op op_cat (pe_slice sl_list (pv 0) po_none (po_some pe_int)) (pe_lst (pa_cons pe_int (pa_cons pe_int pa_nil))))) (pg_name (i := 1) sc_law.nd rfl (by first | exact Or.inl rfl | exact Or.inr rfl)) (pss_cons (ps_set (i := 2) sc_law.nd rfl (by first | exact Or.inl rfl | exact Or.inr rfl) (pe_callD D_l_well hr (pa_cons (pv 1) pa_nil)))
      (pss_cons (ps_set (i := 3) sc_law.nd rfl (by first | exact Or.inl rfl | exact Or.inr rfl) (pe_makeC0 K_Runtime hr))
      (pss_cons (ps_set (i := 4) sc_law.nd rfl (by first | exact Or.inl rfl | exact Or.inr rfl) (pe_callD D_l_tree hr (pa_cons (pv 2) (pa_cons (pv 3) pa_nil))))
      (pss_cons (ps_set (i := 5) sc_law.nd rfl (by first | exact Or.inl rfl | exact Or.inr rfl) (pe_lst pa_nil))
      (pss_cons (ps_setLc (i := 6) (own := [("_law_number", 8)]) rfl sc_law.nd rfl rfl (sw_true rfl rfl rfl (by decide +kernel)) (pi_list (pe_lst (pa_cons pe_int (pa_cons pe_int (pa_cons (pe_un un_neg pe_int) pa_nil))))) (blkOk_by (N := NN_law) (sc := defScope s_law) (by decide +kernel)) (fun _ _ _ _ _ => (pg_name (i := 8) sc_law.nd rfl (by first | exact Or.inl rfl | exact Or.inr rfl))) (fun _ _ _ _ _ => pts_nil) (fun _ _ _ _ _ => (pe_tup (pa_cons (pv 8) (pa_cons (pe_callD D_l_coded hr (pa_cons (pv 5) (pa_cons (pe_tup (pa_cons pe_str (pa_cons (pv 8) pa_nil))) pa_nil))) pa_nil)))))
      (pss_cons (ps_expr (pe_bm PySem.F.plainAttrs_list PySem.F.slot_list_append PySem.F.type_list_append mt_append (pv 6) (pa_cons (pe_tup (pa_cons (pe_callD D_make hr (pa_cons (pv 3) (pa_cons pe_str (pa_cons (pe_tup pa_nil) pa_nil)))) (pa_cons (pe_callD D_l_coded hr (pa_cons (pv 5) (pa_cons (pe_tup (pa_cons pe_str (pa_cons (pe_tup pa_nil) pa_nil))) pa_nil))) pa_nil))) pa_nil)))
      (pss_one (ps_for PassesOwn.never rfl (pi_range1 (by rfl) T.f_range (pa_cons (pe_op op_add pe_int (pe_callD D_l_draw hr (pa_cons (pv 2) (pa_cons pe_int pa_nil)))) pa_nil)) (pg_name (i := 7) sc_law.nd rfl (by first | exact Or.inl rfl | exact Or.inr rfl)) (pss_one (ps_if (pt_not (pt_val (pe_callD D_l_made_right hr (pa_cons (pv 2) (pa_cons (pv 3) (pa_cons (pv 4) (pa_cons (pv 6) (pa_cons (pv 5) pa_nil)))))))) (pss_one (ps_ret pe_bl)) pss_nil)))))))))))
      (pss_one (ps_ret (pe_callD D_l_chain_right hr (pa_cons (pe_op op_add pe_int (pe_callB call_len (by rfl) T.f_len PySem.boot_len (pa_cons (pe_slice sl_list (pv 0) po_none (po_some pe_int)) pa_nil))) pa_nil))))), ?_⟩
    obtain ⟨a, ns, rfl, hS, hlen, tabs, k⟩ := h
    rw [show L2.start ["_law_script", "_law_cell", "_law_well_here", "_law_runtime", "_law_names", "_law_codes", "_law_values", "_law_k", "_law_number"] [V.ref a] = ([some (V.ref a), none, none, none, none, none, none, none, none] : List (Option V)) from rfl]
    have kh := KH.start (H := H)
    walk_at "go"
    refine r_cat (by walk_at "hp") (by walk_at "hp") (sz_of (by have := cutV_length (ns.map V.int) none (some 8); simp at *; omega)) ?_
    walk_at "go"
    rename_i l H1 nl k1
    have tb1 := LamX.Tabs.ext tabs k1.extE
    have hl1 := k1.find (p := l) .here
    have hS1 : SqL K H1 a (ns.map V.int) := k1.extE.l hS
    refine ForG.mk (xs := cutV (ns.map V.int) none (some 8) ++ [V.int 0, V.int 1]) (fun i σ H2 => (∃ v1 v2 v3 v4 v5 v6 v7 : Option V, σ = [some (.ref a), v1, v2, v3, v4, v5, v6, v7, none]) ∧ LamX.Tabs (TL Pt Pr) H2 ∧ Wc.FrN [] H1 H2)
      ⟨⟨_, _, _, _, _, _, _, rfl⟩, tb1, (Wc.Fr.refl _ _).n⟩ (fun i σ H2 _ z => SqL.of (z.2.2 l _ (by simp) (by intro _ q; cases q) hl1)) ?_ ?_
    · rintro i x σ H2 hx ⟨⟨v1, v2, v3, v4, v5, v6, v7, rfl⟩, tb2, f2⟩
      obtain ⟨c, rfl⟩ : ∃ c, x = V.int c := by
        rcases List.mem_append.mp (List.mem_of_getElem? hx) with z | z
        · obtain ⟨c, _, e⟩ := List.mem_map.mp (mem_cutV z)
          exact ⟨c, e.symm⟩
        · simp only [List.mem_cons, List.not_mem_nil, or_false] at z
          rcases z with rfl | rfl
          · exact ⟨_, rfl⟩
          · exact ⟨_, rfl⟩
      have kh := KH.start (H := H2)
      walk_at "go"
      refine ⟨c, rfl, fun aw bw wo => ?_⟩
      walk_at "go"
      rename_i pw Hw nw kw
      have hpw := kw.find (p := pw) (o := wl aw bw 0) .here
      have e2w : Wc.Ext H2 Hw := kw.extE
      have tbw := LamX.Tabs.ext tb2 e2w
      clear kh kw
      have kh := KH.start (H := Hw)
      intro x dx hx0 hdx0 ne0
      have kx := (kh.new (o := .own x) hdx0).new (p := x) (o := .ins CR dx []) (by rw [upd_ne (Ne.symm ne0)]; exact hx0)
      refine ⟨x, dx, rfl, upd_same, fun kd tl t0 H3 f3 R3 nkd ntl htl3 ht03 nt0 sh fs3 hsh3 nsh => ⟨rfl, ?_⟩⟩
      generalize upd (upd Hw dx (.own x)) x (.ins CR dx []) = Hx at kx f3 nkd ntl nt0 nsh
      obtain ⟨⟨dx1, fs2, h1x, _⟩, ⟨kv1, hkv1, bn1⟩, _⟩ := id R3.at_
      obtain ⟨kvd, hkd3⟩ := R3.kd
      have e3 : Wc.Ext Hw H3 := (kx.up .here f3 h1x (.inr hx0)).extE
      have nkd0 := kx.fresh nkd
      have ntl0 := kx.fresh ntl
      have nsh0 := kx.fresh nsh
      have pkd : pw ≠ kd := ne_of_none hpw nkd0
      have ptl : pw ≠ tl := ne_of_none hpw ntl0
      have psh : pw ≠ sh := ne_of_none hpw nsh0
      have nkt : kd ≠ tl := ne_of hkd3 htl3 (by intro z; cases z)
      have nks : kd ≠ sh := fun e => by
        rcases hkv1 with h | ⟨o, h⟩
        · rw [e, hsh3] at h
          cases h
          have := bn1.length
          simp at this
        · rw [e, hsh3] at h
          cases h
      have nts : tl ≠ sh := ne_of htl3 hsh3 (by intro z; cases z)
      have tb3 := LamX.Tabs.ext tbw e3
      have hp3 := e3 _ _ hpw
      clear kh kx
      have kh := KH.start (H := H3)
      walk_at "go"
      refine ⟨pw, x, kd, tl, aw, bw, 0, 0, rfl, hp3, wo, by omega, ⟨BK.start, R3, fun c hc => by
        simp at hc
        rcases hc with rfl | rfl <;> exact ⟨[], .nil⟩, _, htl3, rfl⟩, pkd, ptl, nkt, fun TT n ln a4 c4 H4 hn1 hn6 B4 hT nln hln h4 wo4 f4 => ?_⟩
      have m34 : Mo H3 H4 := Mo.fr f4 (fun q hq => by
        simp only [List.mem_cons, List.not_mem_nil, or_false] at hq
        rcases hq with rfl | rfl | rfl
        · exact ⟨_, hp3, rfl⟩
        · exact ⟨_, hkd3, rfl⟩
        · exact ⟨_, htl3, rfl⟩)
      have tb4 := tabs_fr tb3 f4 (fun q hq => by
        simp only [List.mem_cons, List.not_mem_nil, or_false] at hq
        rcases hq with rfl | rfl | rfl
        · exact ⟨_, hp3, (fun ps z => by unfold wl at z; cases z), (fun φ z => by unfold wl at z; cases z)⟩
        · exact ⟨_, hkd3, (fun ps z => by cases z), (fun φ z => by cases z)⟩
        · exact ⟨_, htl3, (fun ps z => by cases z), (fun φ z => by cases z)⟩)
      have hsh4 : H4 sh = some (.dK []) := f4 _ _ (by simp [Ne.symm psh, Ne.symm nks, Ne.symm nts]) hsh3
      obtain ⟨dxs, fss, g1, g2⟩ := id fs3
      have E4 : Ev P w K CK CR Pt Pr pw x kd tl sh TT n bw H4 [] 40 := ⟨⟨B4.R, ⟨⟨dxs, fss, m34 _ _ rfl g1, g2⟩, .inr ⟨rfl, hsh4⟩, List.nodup_nil, by simp⟩, nks, nts⟩, tb4, ⟨a4, c4, h4, wo4.up (by omega)⟩, pkd, ptl, psh⟩
      have nlnp : ln ≠ pw := (ne_of_none hp3 nln).symm
      have nlns : ln ≠ sh := (ne_of_none hsh3 nln).symm
      clear kh
      have kh := KH.start (H := H4)
      walk_at "go"
      rename_i lc H5 nlc k5 li H6 nli k6
      have e46 := k6.extE
      have hlc6 := k6.find (p := lc) (o := .lst []) (by walk_at "lk")
      have hli6 := k6.find (p := li) .here
      have E6 := E4.ext e46
      have hln6 := e46 _ _ hln
      have fls6 := B4.fl.mo e46.mo
      have nlilc : li ≠ lc := by
        intro e
        rw [e, hlc6] at hli6
        cases hli6
      have nlcA : lc ≠ pw ∧ lc ≠ sh ∧ lc ≠ kd ∧ lc ≠ tl ∧ lc ≠ ln := by
        obtain ⟨kv4, hk4⟩ := B4.R.kd
        obtain ⟨ts4, ht4, _⟩ := B4.tls
        exact ⟨(ne_of_none h4 nlc).symm, (ne_of_none hsh4 nlc).symm, (ne_of_none hk4 nlc).symm, (ne_of_none ht4 nlc).symm, (ne_of_none hln nlc).symm⟩
      obtain ⟨nc1, nc2, nc3, nc4, nc5⟩ := nlcA
      clear kh k5 k6
      have kh := KH.start (H := H6)
      try refine ⟨li, rfl, ⟨_, SqL.of hli6⟩, ?_⟩
      refine lcP (walk_list (xs := [V.int 0, V.int 1, V.int (-5)])) (fun j acc H' => ∃ cvs cs, H' lc = some (.lst cvs) ∧ PySem.Paired (CdR H') cvs cs ∧ cs.Nodup ∧ (∀ c, c ∈ cs → cdOk c = true) ∧ cs.length ≤ j ∧ PySem.Paired (RowV CT H' [] cs) acc (([.int 0, .int 1, .int (-5)] : List Tg).take j) ∧ Wc.Fr [lc] H6 H')
        ⟨[], [], hlc6, .nil, List.nodup_nil, (fun c hc => by cases hc), Nat.le_refl _, .nil, Wc.Fr.refl _ _⟩ (by decide)
        (fun D j acc H' H'' hD mo fr ⟨cvs, cs, q1, q2, q3, q4, q5, q6, q7⟩ => ⟨cvs, cs, fr _ _ (by simpa using ne_of_none hlc6 hD) q1, Paired.mapP q2 fun _ _ z => z.mo mo, q3, q4, q5, Paired.mapP q6 fun _ _ z => z.mo mo ⟨[], rfl⟩ ⟨[], (List.append_nil _).symm⟩, fun q o hq hz => fr _ _ (by simpa using ne_of_none hz hD) (q7 q o hq hz)⟩)
        (fun j acc H' _ ⟨cvs, cs, _, _, _, _, _, _, q7⟩ => SqL.of (q7 _ _ (by simpa using nlilc) hli6)) ?_ ?_
      · rintro j y acc G1 G2 D R' N' hj hD hdD ⟨cvs, cs, q1, q2, q3, q4, q5, q6, q7⟩ ⟨rfl, hy⟩ hR hN
        have nDc : D ≠ lc := (ne_of_none hlc6 hD).symm
        obtain ⟨iy, hiy, rfl⟩ : ∃ iy : Int, ([.int 0, .int 1, .int (-5)] : List Tg)[j]? = some (.int iy) ∧ y = V.int iy := by
          have h : j = 0 ∨ j = 1 ∨ j = 2 := by simp at hj; omega
          rcases h with rfl | rfl | rfl
          · exact ⟨0, rfl, by simpa using hy.symm⟩
          · exact ⟨1, rfl, by simpa using hy.symm⟩
          · exact ⟨-5, rfl, by simpa using hy.symm⟩
        have kg := (KH.start1 q1).cons hdD (by simpa using nDc)
        walk_at "go"
        refine ⟨rfl, ?_⟩
        walk_at "go"
        rename_i tc G3 ntc k3
        have f23 : Wc.Fr [lc] _ G3 := k3.fr
        have m23 : Mo _ G3 := Mo.fr1 f23 q1 rfl
        have hdD3 := k3.find (p := D) (by walk_at "lk")
        refine ⟨lc, _, .int iy, cvs, cs, rfl, ⟨tc, rfl, k3.find .here⟩, rfl, k3.find (p := lc) (by walk_at "lk"), Paired.mapP q2 fun _ _ z => z.mo m23, q3, q4, by simp at hj; omega, fun nm cvs' cs' G4 hnm hcs' nd' cds' hlc' f' => ?_⟩
        have m34' : Mo G3 G4 := Mo.fr1 f' (k3.find (p := lc) (by walk_at "lk")) rfl
        have hdD4 := f' _ _ (by simpa using nDc) hdD3
        have pcs : ∃ l, cs' = cs ++ l := by
          rcases hcs' with e | e
          · exact ⟨[], by rw [e]; simp⟩
          · exact ⟨_, e⟩
        clear kg k3
        have kg := KH.start (H := G4)
        walk_at "go"
        rename_i tp G5 ntp k5
        have e45 := k5.extE
        refine hR _ _ ⟨cvs', cs', e45 _ _ hlc', Paired.mapP cds' fun _ _ z => z.mo e45.mo, nd', fun c hc => ?_, ?_, ?_, (q7.trans f23).trans (f'.trans e45.fr)⟩ (e45 _ _ hdD4)
        · rcases hcs' with e | e
          · exact q4 c (e ▸ hc)
          · rw [e] at hc
            rcases List.mem_append.mp hc with hc | hc
            · exact q4 c hc
            · rw [List.mem_singleton.mp hc] <;> rfl
        · rcases hcs' with e | e
          · rw [e]; omega
          · rw [e, List.length_append]; simp; omega
        · rw [List.take_succ, hiy]
          exact Paired.snoc (Paired.mapP q6 fun _ _ z => z.mo (m23.trans (m34'.trans e45.mo)) ⟨[], rfl⟩ pcs) ⟨tp, _, nm, _, rfl, k5.find .here, .int iy, .int hnm⟩
      intro lv H7 xs7 nlv hz7 hlv7
      obtain ⟨cvs, cs, q1, q2, q3, q4, q5, q6, q7⟩ := hz7
      have m67 : Mo H6 H7 := Mo.fr1 q7 hlc6 rfl
      have tb7 := tabs_fr E6.tb q7 (fun q hq => by
        rw [show q = lc by simpa using hq]
        exact ⟨_, hlc6, (fun ps z => by cases z), (fun φ z => by cases z)⟩)
      have E7 := E6.own q7 m67 (fun q hq => by
        rw [show q = lc by simpa using hq]
        exact ⟨nc3, nc4, nc2, nc1⟩) tb7
      have hln7 := q7 _ _ (by simpa using Ne.symm nc5) hln6
      have nlvA : lv ≠ pw ∧ lv ≠ sh ∧ lv ≠ kd ∧ lv ≠ tl ∧ lv ≠ ln ∧ lv ≠ lc := by
        obtain ⟨kv4, hk4⟩ := B4.R.kd
        obtain ⟨ts4, ht4, _⟩ := B4.tls
        exact ⟨(ne_of_none (e46 _ _ h4) nlv).symm, (ne_of_none (e46 _ _ hsh4) nlv).symm, (ne_of_none (e46 _ _ hk4) nlv).symm, (ne_of_none (e46 _ _ ht4) nlv).symm, (ne_of_none hln6 nlv).symm, (ne_of_none hlc6 nlv).symm⟩
      obtain ⟨nv1, nv2, nv3, nv4, nv5, nv6⟩ := nlvA
      obtain ⟨cA, hcA, hcAll⟩ := B4.bk.any
      clear kh
      have kh := KH.start (H := H7)
      walk_at "go"
      rename_i p8 H8 np8 k8
      have e78 := k8.extE
      have E8 := E7.ext e78
      have hcvA := bk_cls B4.bk hcA
      refine make_ok (c := cA) (fs := []) (ts := []) (pvs := []) (ls := []) Ct E8.S.R.at_ (bk_tr B4.bk hn6) hcA (by decide +kernel) hcvA.2.2 (by rw [hcAll]; exact .nil) (k8.find .here) .nil (by rw [hcAll]) (by rw [hcAll]; exact Nat.zero_le _) (fun t ht => by cases ht) E8.S.S (by simp) (fun i q hq => by cases hq) (fun _ hd => absurd hd (by decide)) (fun _ _ aA H9 ks9 kA naA frA moA SA hkA hTA hPA => ?_)
      have ks9l : ks9.length ≤ 1 := by
        rcases hkA with e | e <;> rw [e] <;> simp
      have E9 := E8.made frA (E8.S.made frA moA SA)
      have hlc9 := frA _ _ (by simpa using nc2) (e78 _ _ q1)
      have hlv9 := frA _ _ (by simpa using nv2) (e78 _ _ hlv7)
      have hln9 := frA _ _ (by simpa using nlns) (e78 _ _ hln7)
      have m79 : Mo H7 H9 := e78.mo.trans moA
      clear kh k8
      have kh := KH.start (H := H9)
      walk_at "go"
      rename_i pe G1 npe k1 te G2 nte k2
      have e92 := k2.extE
      refine ⟨lc, _, .th "any" [], cvs, cs, rfl, ⟨te, pe, rfl, k2.find .here, (by have z := KH.find (p := pe) k2 (by walk_at "lk"); exact z)⟩, by decide +kernel, e92 _ _ hlc9, Paired.mapP q2 fun _ _ z => z.mo (m79.trans e92.mo), q3, q4, by simp at q5; omega, fun nm cvs' cs' G3 hnm hcs' nd' cds' hlc' f' => ?_⟩
      have m23 : Mo G2 G3 := Mo.fr1 f' (e92 _ _ hlc9) rfl
      have hlvG := f' _ _ (by simpa using nv6) (e92 _ _ hlv9)
      have pcs : ∃ l, cs' = cs ++ l := by
        rcases hcs' with e | e
        · exact ⟨[], by rw [e]; simp⟩
        · exact ⟨_, e⟩
      have xsl : xs7.length ≤ 3 := by
        have := Paired.length q6
        rw [List.length_take] at this
        simp at this
        omega
      clear kh k1 k2
      have kg := KH.start1 hlvG
      walk_at "go"
      rename_i tn G4 ntn k4 G5 k5
      have f35 : Wc.Fr [lv] G3 G5 := k5.fr
      have m35 : Mo G3 G5 := Mo.fr1 f35 hlvG rfl
      have m95 : Mo H9 G5 := e92.mo.trans (m23.trans m35)
      have f95 : Wc.Fr [lc, lv] H9 G5 := (e92.fr (A := [lc, lv])).trans ((f'.mono (by simp)).trans (f35.mono (by simp)))
      have tb5 := tabs_fr E9.tb f95 (fun q hq => by
        simp only [List.mem_cons, List.not_mem_nil, or_false] at hq
        rcases hq with rfl | rfl
        · exact ⟨_, hlc9, (fun ps z => by cases z), (fun φ z => by cases z)⟩
        · exact ⟨_, hlv9, (fun ps z => by cases z), (fun φ z => by cases z)⟩)
      have E5 := E9.own f95 m95 (fun q hq => by
        simp only [List.mem_cons, List.not_mem_nil, or_false] at hq
        rcases hq with rfl | rfl
        · exact ⟨nc3, nc4, nc2, nc1⟩
        · exact ⟨nv3, nv4, nv2, nv1⟩) tb5
      have hln5 := f95 _ _ (by simp [Ne.symm nc5, Ne.symm nv5]) hln9
      have hlc5 := f35 _ _ (by simpa using Ne.symm nv6) hlc'
      have hlv5 := k5.find (p := lv) (by walk_at "lk")
      have htn5 := k5.find (p := tn) (by walk_at "lk")
      have tgA := TgR.mo m95 ⟨[], (List.append_nil _).symm⟩ _ _ _ hTA
      have fls5 := fls6.mo (m67.trans (m79.trans m95))
      have csl : cs'.length ≤ 4 := by
        simp at q5
        rcases hcs' with e | e
        · rw [e]; omega
        · rw [e, List.length_append]; simp; omega
      have V5 : Vl CT G5 lv lc TT ks9 (xs7 ++ [.ref tn]) [.int 0, .int 1, .int (-5), .th "any" []] cvs' cs' 1 := by
        refine ⟨hlv5, hlc5, ?_, Paired.mapP cds' fun _ _ z => z.mo m35, nd', fun c hc => ?_, fun t ht => ?_, by simp; omega⟩
        · have q6' : PySem.Paired (RowV CT G5 ks9 cs') xs7 [.int 0, .int 1, .int (-5)] := Paired.mapP q6 fun _ _ z => z.mo (m79.trans m95) ⟨ks9, by simp⟩ pcs
          exact Paired.snoc q6' ⟨tn, _, nm, _, rfl, htn5, tgA, .th hnm .nil⟩
        · rcases hcs' with e | e
          · exact q4 c (e ▸ hc)
          · rw [e] at hc
            rcases List.mem_append.mp hc with hc | hc
            · exact q4 c hc
            · rw [List.mem_singleton.mp hc]
              decide +kernel
        · obtain ⟨cI, hcI, _⟩ := B4.bk.int
          simp only [List.mem_cons, List.not_mem_nil, or_false] at ht
          rcases ht with rfl | rfl | rfl | rfl
          · exact ⟨⟨cI, hcI⟩, by decide⟩
          · exact ⟨⟨cI, hcI⟩, by decide⟩
          · exact ⟨⟨cI, hcI⟩, by decide⟩
          · exact ⟨⟨cA, hcA⟩, by decide⟩
      obtain ⟨aD, cD, hpD, woD⟩ := E5.wl_
      clear kg k4 k5
      have kg := KH.start (H := G5)
      walk_at "go"
      refine ⟨pw, 14, aD, bw, cD, 40, rfl, by decide, by decide, hpD, woD, by omega, fun d a6 c6 H10 d0 d1 wo6 f6 h6 => ?_⟩
      obtain ⟨dn, rfl⟩ : ∃ dn : Nat, d = dn := ⟨d.toNat, by omega⟩
      obtain ⟨E10, m10⟩ := E5.draw f6 hpD h6 wo6
      clear kg
      have kg := KH.start (H := H10)
      walk_at "go"
      refine ⟨_, rfl, by omega, by omega, ?_⟩
      have V10 : Vl CT H10 lv lc TT ks9 (xs7 ++ [.ref tn]) [.int 0, .int 1, .int (-5), .th "any" []] cvs' cs' 1 := ⟨f6 _ _ (by simpa using nv1) V5.lv_, f6 _ _ (by simpa using nc1) V5.lc_, Paired.mapP V5.rows fun _ _ z => z.mo m10 ⟨[], (List.append_nil _).symm⟩ ⟨[], (List.append_nil _).symm⟩, Paired.mapP V5.cds fun _ _ z => z.mo m10, V5.nd, V5.ok, V5.kn, V5.len⟩
      have hln10 := f6 _ _ (by simpa using nlnp) hln5
      refine ForR.mk (n := (1 + (dn : Int)).toNat) (fun i σ Hi => (∃ v7 : Option V, σ = [some (.ref a), some (.int c), some (.ref pw), some (.ref x), some (.ref ln), some (.ref lc), some (.ref lv), v7, none]) ∧ ∃ ks xs ts cvs cs, Ev P w K CK CR Pt Pr pw x kd tl sh TT n bw Hi ks (41 + 30 * i) ∧ Vl CT Hi lv lc TT ks xs ts cvs cs (1 + i) ∧ FlsAt Hi TT ∧ Hi ln = some (.lst ((nmL n).map V.str)) ∧ Wc.FrN [pw, sh, lv, lc] H10 Hi)
        ⟨⟨_, rfl⟩, ks9, _, _, cvs', cs', E10, V10, fls5.mo m10, hln10, (Wc.Fr.refl _ _).n⟩ ?_ ?_
      · rintro i σ Hi hi ⟨⟨v7', rfl⟩, ks, xs, ts, cvs, cs, Ei, Vi, fli, hlni, fi⟩
        have kk := KH.start (H := Hi)
        walk_at "go"
        refine ⟨pw, bw, 41 + 30 * i, x, kd, tl, sh, ln, lv, lc, TT, n, ks, xs, ts, cvs, cs, 1 + i, rfl, by omega, hn1, hn6, by omega, B4.bk, fli, Ei, hT, hlni, Vi, by simp [nlnp, nlns, Ne.symm nv5, Ne.symm nc5], by simp [nv1, nv2, nv3, nv4, nv6], by simp [nc1, nc2, nc3, nc4, Ne.symm nv6], fun ks' xs' ts' cvs' cs' H' E' V' _ _ f' m' => ?_⟩
        walk_at "go"
        exact ⟨⟨_, rfl⟩, ks', xs', ts', cvs', cs', E'.up (by omega), V', fli.mo m', f' _ _ (by simp [nlnp, nlns, Ne.symm nv5, Ne.symm nc5]) (fun _ z => by cases z) hlni, fi.trans f'⟩
      · rintro σ Hi ⟨⟨v7', rfl⟩, ks, xs, ts, cvs, cs, Ei, Vi, fli, hlni, fi⟩
        refine ⟨⟨_, _, _, _, _, _, _, rfl⟩, Ei.tb, f2.trans (FrN.outA (A := [pw, kd, tl, sh, lv, lc]) (B := []) e2w.fr.n ?_ (fun q hq => ?_))⟩
        · have g1 : Wc.FrN [pw, kd, tl, sh, lv, lc] Hw H6 := (e3.fr.n).trans (((f4.mono (by simp)).trans e46.fr).n)
          have g2 : Wc.FrN [pw, kd, tl, sh, lv, lc] H6 H9 := ((q7.mono (by simp)).trans (e78.fr.trans (frA.mono (by simp)))).n
          have g3 : Wc.FrN [pw, kd, tl, sh, lv, lc] H9 Hi := ((f95.mono (by simp)).n).trans (((f6.mono (by simp)).n).trans (fi.mono (by simp)))
          exact g1.trans (g2.trans g3)
        · simp only [List.mem_cons, List.not_mem_nil, or_false] at hq
          rcases hq with rfl | rfl | rfl | rfl | rfl | rfl
          · exact .inr (none_nn nw)
          · exact .inr (none_nn (e2w.free nkd0))
          · exact .inr (none_nn (e2w.free ntl0))
          · exact .inr (none_nn (e2w.free nsh0))
          · refine .inr fun o nt ho => ?_
            have z := (((f4.trans (e46.fr (A := [pw, kd, tl])))) _ _ (by simp [nv1, nv3, nv4]) (e3 _ _ (e2w _ _ ho)))
            rw [nlv] at z
            cases z
          · refine .inr fun o nt ho => ?_
            have z := f4 _ _ (by simp [nc1, nc3, nc4]) (e3 _ _ (e2w _ _ ho))
            rw [nlc] at z
            cases z
    · rintro σ H2 ⟨⟨v1, v2, v3, v4, v5, v6, v7, rfl⟩, tb2, f2⟩
      have kh := KH.start (H := H2)
      have hS2 : SqL K H2 a (ns.map V.int) := by
        rcases hS1 with (h | ⟨o, h⟩) | h
        · exact .inl (.inl (f2 _ _ (by simp) (by intro _ q; cases q) h))
        · exact .inl (.inr ⟨o, f2 _ _ (by simp) (by intro _ q; cases q) h⟩)
        · exact .inr h
      walk_at "go"
      rename_i l9 H9 n9 k9
      refine ⟨_, _, rfl, .inl ⟨_, SqL.of (k9.find .here), rfl⟩, ?_⟩
      walk_at "go"
      refine ⟨1 + (cutV (ns.map V.int) none (some 2)).length, by simp, by have := cutV_length (ns.map V.int) none (some 2); simp at this; omega, LamX.Tabs.ext tb2 k9.extE, fun H' => ?_⟩
      exact k H'
end
end K03

set_option Elab.async false
set_option linter.all false
set_option maxRecDepth 100000
set_option maxHeartbeats 8000000
namespace K03
open PySem L2 Wc
local macro_rules | `(tactic| walk_at "lk") => `(tactic| first | with_reducible exact Look.here | (with_reducible apply Look.there; walk_at "lk"))
local macro_rules | `(tactic| walk_at "ul") => `(tactic| first | with_reducible exact UpL.here | (with_reducible apply UpL.there; walk_at "ul"))
local macro_rules | `(tactic| walk_at "ga") => `(tactic| first | exact GetAt.here | (apply GetAt.there; walk_at "ga"))
local macro_rules | `(tactic| walk_at "sa") => `(tactic| first | exact SetAt.here | (apply SetAt.there; walk_at "sa"))
local macro_rules | `(tactic| walk_at "hp") => `(tactic| first | assumption | (refine' KH.find ?k ?h; (case k => assumption); (case h => walk_at "lk")))
local macro_rules | `(tactic| walk_at "sql") => `(tactic| first | assumption | (refine' SqL.of ?h; (case h => walk_at "hp")) | (refine' Fr.sql (KH.fr ?k) ?n ?h; (case k => assumption); (case h => assumption); (case n => (simp; done))))
local macro_rules | `(tactic| walk_at "sqt") => `(tactic| first | assumption | (refine' SqT.of ?h; (case h => walk_at "hp")))
local macro_rules | `(tactic| walk_at "side") => `(tactic| first | exact (show (0 : Int) < _ by decide) | exact (show (0 : Int) < _ by omega) | exact ⟨by decide, by decide, by decide⟩ | exact ⟨by decide, by decide, by omega⟩ | exact ⟨by decide, by decide⟩ | exact ⟨by omega, by omega⟩ | exact Or.inl ⟨by omega, by omega⟩ | exact Or.inr ⟨by omega, by omega⟩)
local macro_rules | `(tactic| walk_at "siz") => `(tactic| first | (refine sz_of ?_; first | decide | omega | (simp; done) | (simp; omega)) | (refine sz_lt ?_; first | decide | omega | (simp; done) | (simp; omega)))
local macro_rules | `(tactic| walk_at "own") => `(tactic| first | (exact Or.inr (by assumption)) | (refine Or.inl ?_; simp; done))
local macro_rules | `(tactic| walk_at "al") => `(tactic| (refine' AllocO.mk ?k ?_; (case k => assumption); intro _ _ _ _))
local macro_rules | `(tactic| walk_at "up") => `(tactic| (refine' UpdO.mk ?k ?h ?m ?_; (case k => assumption); (case h => walk_at "ul"); (case m => walk_at "own"); intro _ _))
local macro_rules | `(tactic| walk_at "st") => `(tactic| first
  | ((with_reducible refine' r_var ?h ?_); (case h => walk_at "ga"))
  | (with_reducible refine' r_seq ?_) | (with_reducible refine' r_next ?_) | (with_reducible refine' r_asg ?_) | (with_reducible refine' r_drop ?_) | (with_reducible refine' r_ret ?_) | (with_reducible refine' r_retN ?_)
  | (with_reducible refine' r_ifs ?_) | (with_reducible refine' r_cont ?_) | (with_reducible refine' r_break ?_) | (with_reducible refine' r_c ?_) | (with_reducible refine' r_op ?_) | (with_reducible refine' r_un ?_)
  | (with_reducible refine' r_test ?_) | (with_reducible refine' r_tB ?_) | (with_reducible refine' r_not ?_) | (with_reducible refine' r_and ?_) | (with_reducible refine' r_or ?_) | (with_reducible refine' r_notV ?_)
  | (with_reducible refine' r_andV ?_) | (with_reducible refine' r_orV ?_) | (with_reducible refine' r_ifE ?_) | (with_reducible refine' r_bl ?_) | (with_reducible refine' r_nil ?_) | (with_reducible refine' r_cons ?_)
  | (with_reducible refine' r_tup ?_) | (with_reducible refine' r_lst ?_) | (with_reducible refine' r_cb ?_) | (with_reducible refine' r_call ?_) | ((with_reducible refine' r_name ?h ?_); (case h => walk_at "sa")) | (with_reducible refine' r_gnil ?_)
  | (with_reducible refine' r_gcons ?_) | (with_reducible refine' r_gsub ?_) | (with_reducible refine' r_par ?_) | (with_reducible refine' r_par2 ?_) | (with_reducible refine' r_I0 ?_) | (with_reducible refine' r_U ?_)
  | ((with_reducible refine' r_eq ?h ?_); (case h => rfl)) | ((with_reducible refine' r_ne ?h ?_); (case h => rfl))
  | ((with_reducible refine' r_ixL ?h ?a ?_); (case h => walk_at "sql"); (case a => rfl))
  | ((with_reducible refine' r_ixT ?h ?a ?_); (case h => walk_at "sqt"); (case a => rfl))
  | ((with_reducible refine' r_setL ?h ?a ?_); (case h => walk_at "hp"); (case a => rfl))
  | ((with_reducible refine' r_I ?c ?_); (case c => walk_at "side"))
  | (with_reducible refine' r_sl ?_) | (with_reducible refine' r_part ?_) | (with_reducible refine' r_nopart ?_) | (with_reducible refine' r_ii ?_)
  | ((with_reducible refine' r_slL ?h ?_); (case h => walk_at "sql"))
  | (with_reducible refine' r_bm ?_) | (with_reducible refine' r_bm0 ?_) | (with_reducible refine' r_int1 ?_) | (with_reducible refine' r_int1b ?_)
  | ((with_reducible refine' r_aug ?h ?_); (case h => walk_at "ga"))
  | ((with_reducible refine' r_cat ?a ?b ?z ?_); (case a => walk_at "hp"); (case b => walk_at "hp"); (case z => walk_at "siz"))
  | ((with_reducible refine' r_append ?a ?z ?_); (case a => walk_at "hp"); (case z => walk_at "siz"))
  | ((with_reducible refine' And.intro ?z ?_); (case z => first | walk_at "siz" | exact Or.inl ⟨rfl, _, by walk_at "sql"⟩))
  | ((with_reducible refine' r_gtup ?h ?l ?_); (case h => walk_at "sqt"); (case l => rfl))
  | (with_reducible refine' r_forL ?_) | (with_reducible refine' r_forE ?_) | (with_reducible refine' r_forR ?_) | ((with_reducible refine' r_forL2 ?h ?_); (case h => walk_at "sql")) | ((with_reducible refine' r_forE2 ?h ?_); (case h => walk_at "sql"))
  | (with_reducible refine' r_lcR ?_) | ((with_reducible refine' r_iteT ?h ?_); (case h => rfl)) | ((with_reducible refine' r_iteF ?h ?_); (case h => rfl))
  | (with_reducible refine' r_dnew ?_) | (with_reducible refine' r_vei ?_) | (with_reducible refine' r_ost ?_) | (with_reducible refine' r_mkV ?_) | (with_reducible refine' r_mkX ?_) | (with_reducible refine' r_xfld ?_)
  | ((with_reducible refine' MkG.mk ?o ?n ?k ?_); (case o => exact ErrOk.o (by assumption)); (case n => exact ErrOk.no (by assumption)); (case k => assumption); intro _ _ _ _)
  | ((with_reducible refine' AllocX.mk ?k ?_); (case k => assumption); intro _ _ _ _)
  | (with_reducible refine' r_chain ?_) | (with_reducible refine' r_lcS ?_) | (with_reducible refine' r_lcS2 ?_) | (with_reducible refine' r_lcL ?_) | (with_reducible refine' r_lcT ?_) | (with_reducible refine' r_lcI ?_) | (with_reducible refine' r_yes ?_)
  | (with_reducible refine' r_fld ?_) | (with_reducible refine' r_sfld ?_) | (with_reducible refine' r_meth ?_) | (with_reducible refine' r_make ?_) | (with_reducible refine' r_dget ?_) | (with_reducible refine' r_din ?_) | (with_reducible refine' r_dput ?_)
  | ((with_reducible refine' r_disp ?k ?_); (case k => assumption); intro _ _ _ _) | (with_reducible refine' r_pnil ?_) | (with_reducible refine' r_pcons ?_)
  | (walk_at "al") | (walk_at "up"))
local macro_rules | `(tactic| walk_at "go") => `(tactic| repeat walk_at "st")

section
variable {P : Program} {w : World} {K : PySem.W.Frag} {mg : Str → Option Value} {base : Heap} {f : Addr} {fd : FuncData}
abbrev FnI (K : PySem.W.Frag) (q : Str) (st : Stmt) (f : Addr) (fd : FuncData) : Prop := FunD K "__init__" q (defArgs st) (defBody st) (defScope st) [] [] f fd
theorem ok_init_NoClass {C Wa : Addr} (F : FnI K "NoClass.__init__" s_NoClass_init f fd) (W : BaseIn K Wa) (gW : mg "WorldError" = some (.ref Wa)) : FnOk P w K mg base CX0 1 f fd ["self", "name"] (spInit K C "name") := by
  refine F.ok sc_NoClass_init (fun vs H Q E h => ?_) (fun cdv A outer s H vs Q E hr h => ?_)
  · obtain ⟨a, v, rfl, _⟩ := h
    rfl
  · refine ⟨_, PSs.nox (pss_cons (ps_expr (pe_winit (by rfl) gW W (pa_cons (pv 0) (pa_cons pe_str pa_nil))))
      (pss_one (ps_ost (pv 0) (pv 1)))), ?_⟩
    obtain ⟨a, v, rfl, ha, o, no, k⟩ := h
    walk_at "go"
    refine ⟨a, C, _, rfl, by simp, o, ha, ?_⟩
    walk_at "go"
    exact ⟨a, C, rfl, o, no, .inl ⟨ha, fun d hd ne => k d hd ne⟩⟩
theorem ok_init_Taken {C Wa : Addr} (F : FnI K "Taken.__init__" s_Taken_init f fd) (W : BaseIn K Wa) (gW : mg "WorldError" = some (.ref Wa)) : FnOk P w K mg base CX0 1 f fd ["self", "name"] (spInit K C "name") := by
  refine F.ok sc_Taken_init (fun vs H Q E h => ?_) (fun cdv A outer s H vs Q E hr h => ?_)
  · obtain ⟨a, v, rfl, _⟩ := h
    rfl
  · refine ⟨_, PSs.nox (pss_cons (ps_expr (pe_winit (by rfl) gW W (pa_cons (pv 0) (pa_cons pe_str pa_nil))))
      (pss_one (ps_ost (pv 0) (pv 1)))), ?_⟩
    obtain ⟨a, v, rfl, ha, o, no, k⟩ := h
    walk_at "go"
    refine ⟨a, C, _, rfl, by simp, o, ha, ?_⟩
    walk_at "go"
    exact ⟨a, C, rfl, o, no, .inl ⟨ha, fun d hd ne => k d hd ne⟩⟩
theorem ok_init_NoField {C Wa : Addr} (F : FnI K "NoField.__init__" s_NoField_init f fd) (W : BaseIn K Wa) (gW : mg "WorldError" = some (.ref Wa)) : FnOk P w K mg base CX0 1 f fd ["self", "field"] (spInit K C "field") := by
  refine F.ok sc_NoField_init (fun vs H Q E h => ?_) (fun cdv A outer s H vs Q E hr h => ?_)
  · obtain ⟨a, v, rfl, _⟩ := h
    rfl
  · refine ⟨_, PSs.nox (pss_cons (ps_expr (pe_winit (by rfl) gW W (pa_cons (pv 0) (pa_cons pe_str pa_nil))))
      (pss_one (ps_ost (pv 0) (pv 1)))), ?_⟩
    obtain ⟨a, v, rfl, ha, o, no, k⟩ := h
    walk_at "go"
    refine ⟨a, C, _, rfl, by simp, o, ha, ?_⟩
    walk_at "go"
    exact ⟨a, C, rfl, o, no, .inl ⟨ha, fun d hd ne => k d hd ne⟩⟩
theorem ok_init_NoParts {C Wa : Addr} (F : FnI K "NoParts.__init__" s_NoParts_init f fd) (W : BaseIn K Wa) (gW : mg "WorldError" = some (.ref Wa)) : FnOk P w K mg base CX0 1 f fd ["self", "parts"] (spInit K C "parts") := by
  refine F.ok sc_NoParts_init (fun vs H Q E h => ?_) (fun cdv A outer s H vs Q E hr h => ?_)
  · obtain ⟨a, v, rfl, _⟩ := h
    rfl
  · refine ⟨_, PSs.nox (pss_cons (ps_expr (pe_winit (by rfl) gW W (pa_cons (pv 0) (pa_cons pe_str pa_nil))))
      (pss_one (ps_ost (pv 0) (pv 1)))), ?_⟩
    obtain ⟨a, v, rfl, ha, o, no, k⟩ := h
    walk_at "go"
    refine ⟨a, C, _, rfl, by simp, o, ha, ?_⟩
    walk_at "go"
    exact ⟨a, C, rfl, o, no, .inl ⟨ha, fun d hd ne => k d hd ne⟩⟩
theorem ok_init_NoFit {C Wa : Addr} (F : FnI K "NoFit.__init__" s_NoFit_init f fd) (W : BaseIn K Wa) (gW : mg "WorldError" = some (.ref Wa)) : FnOk P w K mg base CX0 1 f fd ["self", "field"] (spInit K C "field") := by
  refine F.ok sc_NoFit_init (fun vs H Q E h => ?_) (fun cdv A outer s H vs Q E hr h => ?_)
  · obtain ⟨a, v, rfl, _⟩ := h
    rfl
  · refine ⟨_, PSs.nox (pss_cons (ps_expr (pe_winit (by rfl) gW W (pa_cons (pv 0) (pa_cons pe_str pa_nil))))
      (pss_one (ps_ost (pv 0) (pv 1)))), ?_⟩
    obtain ⟨a, v, rfl, ha, o, no, k⟩ := h
    walk_at "go"
    refine ⟨a, C, _, rfl, by simp, o, ha, ?_⟩
    walk_at "go"
    exact ⟨a, C, rfl, o, no, .inl ⟨ha, fun d hd ne => k d hd ne⟩⟩
end
theorem facts {P : Program} {w : World} {K : PySem.W.Frag} {h : Heap} {mg : Str → Option Value} {f : Addr} (X : K.In h) (G : h.Ns mainGlobals mg) (hfa : mg ("law" : Str) = some (.ref f)) (c : SaysY fa fn tf ex h K) :
    ∃ fd : FuncData, (∀ (s : Shared) (v : Value), BindsTo s fd ⟨[v], []⟩ [("_law_script", v)]) ∧ ∀ base : Heap, K.In base → base.Ns mainGlobals mg → LamX.TabB base mg (He.cT K ("_law_made_right", none)).1 (He.cT K ("_law_made_right", none)).2 → LamX.TabB base mg (He.cT K ("_law_chain_right", none)).1 (He.cT K ("_law_chain_right", none)).2 → FnOk P w K mg base CX0 12 f fd ["_law_script"] (spLaw K (He.cT K ("_law_made_right", none)).2 (He.cT K ("_law_chain_right", none)).2) := by
  have inF : ∀ {f : He.Fa}, f ∈ fa → f.ok K = true := fun hf => c.fact hf
  have glo : ∀ x : Str, x ∈ gloL → mg x = some (.ref (He.ga K x)) := fun x hx => He.glo_ok X G (inF (List.mem_append_left _ (List.mem_map_of_mem hx)))
  have free : ∀ x : Str, x ∈ freeL → mg x = none := fun x hx => He.free_ok X G (inF (List.mem_append_right _ (List.mem_append_left _ (List.mem_map_of_mem hx))))
  have intc : ∀ (x : Str) (i : Int), (x, i) ∈ intL → ∃ t, mg x = some (.int i t) := fun x i hx => He.int_ok X G (inF (List.mem_append_right _ (List.mem_append_right _ (List.mem_append_right _ (List.mem_append_left _ (List.mem_map_of_mem (f := fun p : Str × Int => He.Fa.int p.1 p.2) hx))))))
  have strc : ∀ (x z : Str), (x, z) ∈ strL → ∃ t, mg x = some (.str z t) := fun x z hx => He.str_ok X G (inF (List.mem_append_right _ (List.mem_append_right _ (List.mem_append_right _ (List.mem_append_right _ (List.mem_append_left _ (List.mem_map_of_mem (f := fun p : Str × Str => He.Fa.str p.1 p.2) hx)))))))
  have cl : ∀ x : Str, x ∈ clsL → Cls K (He.ga K x) := fun x hx => He.cls_ok (inF (List.mem_append_right _ (List.mem_append_right _ (List.mem_append_right _ (List.mem_append_right _ (List.mem_append_right _ (List.mem_append_left _ (List.mem_map_of_mem hx))))))))
  have mkr : ∀ x : Str, x ∈ clsL → Mk K (He.ga K x) (He.ma K (He.ga K x) "__init__") := fun x hx => He.mkr_ok (inF (List.mem_append_right _ (List.mem_append_right _ (List.mem_append_right _ (List.mem_append_right _ (List.mem_append_right _ (List.mem_append_right _ (List.mem_append_left _ (List.mem_map_of_mem hx)))))))))
  have na : ∀ x y : Str, (x, y) ∈ noatL → NoAttr K (He.ga K x) y := fun x y hx => He.noat_ok (inF (List.mem_append_right _ (List.mem_append_right _ (List.mem_append_right _ (List.mem_append_right _ (List.mem_append_right _ (List.mem_append_right _ (List.mem_append_right _ (List.mem_append_left _ (List.mem_map_of_mem (f := fun p : Str × Str => He.Fa.noat p.1 p.2) hx))))))))))
  have mth : ∀ x y : Str, (x, y) ∈ methL → Meth K (He.ga K x) y (He.ma K (He.ga K x) y) := fun x y hx => He.meth_ok (inF (List.mem_append_right _ (List.mem_append_right _ (List.mem_append_right _ (List.mem_append_right _ (List.mem_append_right _ (List.mem_append_right _ (List.mem_append_right _ (List.mem_append_right _ (List.mem_map_of_mem (f := fun p : Str × Str => He.Fa.meth p.1 p.2) hx))))))))))
  obtain ⟨x1, x2⟩ := He.ba c.more
  obtain ⟨x2, x3⟩ := He.ba x2
  obtain ⟨x3, x4⟩ := He.ba x3
  have W := baseB_ok x1
  have up : ∀ x, x ∈ kinds → _ := fun x hx => List.all_eq_true.mp x3 x hx
  have kit : ∀ (x y : Str) (b : Bool), x ∈ kinds → y ∈ kinds → decide (x = y) = b → PySem.W.exmOne K (.ref (He.ga K x)) (.ref (He.ga K y)) = some b := fun x y b hx hy e => by
    rw [← e]
    exact of_decide_eq_true (List.all_eq_true.mp (List.all_eq_true.mp x2 x hx) y hy)
  have xf : ∀ x : Str, x ∈ kinds → XfC K (He.ga K x) := fun x hx => by
    obtain ⟨u1, u2⟩ := He.ba (up x hx)
    obtain ⟨u2, u3⟩ := He.ba u2
    obtain ⟨u3, u4⟩ := He.ba u3
    have r := exRdB_ok u3
    exact ⟨r.ga, r.gg, of_decide_eq_true u1, r.hd⟩
  have we : ∀ x : Str, x ∈ kinds → PySem.W.exmOne K (.ref (He.ga K x)) (.ref (He.ga K "WorldError")) = some true := fun x hx => of_decide_eq_true (He.ba (He.ba (He.ba (up x hx)).2).2).2
  have gW := glo "WorldError" (by decide +kernel)
  have T : Bt mg := ⟨free _ (by decide +kernel), free _ (by decide +kernel), free _ (by decide +kernel), free _ (by decide +kernel), free _ (by decide +kernel), free _ (by decide +kernel), free _ (by decide +kernel), free _ (by decide +kernel), free _ (by decide +kernel), free _ (by decide +kernel), strc "LETTERS" _ (by decide +kernel), intc "MOST_FIELDS" _ (by decide +kernel)⟩
  have C : Cs K (He.ga K "Kind") (He.ga K "Runtime") := ⟨cl "Kind" (by decide +kernel), cl "Runtime" (by decide +kernel), na "Kind" "parent" (by decide +kernel), na "Kind" "fields" (by decide +kernel), na "Kind" "since" (by decide +kernel), na "Runtime" "kinds" (by decide +kernel), na "Runtime" "tables" (by decide +kernel)⟩
  have C2 : Cs2 K (He.ga K "Runtime") := ⟨na "Runtime" "entries" (by decide +kernel), na "Runtime" "tasks" (by decide +kernel), na "Runtime" "solutions" (by decide +kernel), na "Runtime" "shapes" (by decide +kernel), na "Runtime" "made" (by decide +kernel)⟩
  generalize eCK : He.ga K "Kind" = CK at C
  generalize eCR : He.ga K "Runtime" = CR at C C2
  obtain ⟨x4, x5⟩ := He.ba x4
  obtain ⟨x5, x6⟩ := He.ba x5
  obtain ⟨x6, x7⟩ := He.ba x6
  have hne : (He.cT K ("_law_made_right", none)).2 ≠ (He.cT K ("_law_chain_right", none)).2 := of_decide_eq_true x7
  have own_ : ∀ p, p ∈ own → OexC K (He.ga K p.1) ∧ ExIn K (He.ga K p.1) (He.ma K (He.ga K p.1) "__init__") ∧ PySem.W.findIn K (.ref (He.ga K p.1)) p.2 = some none := fun p hp => by
    obtain ⟨z1, z2⟩ := He.ba (List.all_eq_true.mp x4 p hp)
    obtain ⟨z2, z3⟩ := He.ba z2
    exact ⟨exB_ok z1, exInB_ok z2, of_decide_eq_true z3⟩
  have exc_ : ∀ x, x ∈ plain → _ := fun x hx => He.exc_ok (inF (List.mem_append_right _ (List.mem_append_right _ (List.mem_append_left _ (List.mem_map_of_mem (f := He.Fa.exc) hx)))))
  have R_TooDeep : RzOk K mg "TooDeep" (He.ga K "TooDeep") := by
    obtain ⟨y1, y2, y3, y4⟩ := exc_ "TooDeep" (by decide +kernel)
    exact ⟨⟨glo "TooDeep" (by decide +kernel), y1, y2⟩, y3, y4⟩
  have gT0 := glo "Thing" (by decide +kernel)
  have Ct0 : CsT K (He.ga K "Thing") (He.ma K (He.ga K "Thing") "__eq__") := ⟨cl "Thing" (by decide +kernel), na "Thing" "of" (by decide +kernel), na "Thing" "parts" (by decide +kernel), na "Thing" "deep" (by decide +kernel), na "Thing" "number" (by decide +kernel), ownEqB_ok x6⟩
  obtain ⟨fd_teq, F_teq⟩ := c.def_ (d := d_Thing_eq) (by simp [fn])
  have M_teq0 : ∀ base, ∃ fd, L2.Binds K fd ["self", "other"] [] ∧ FnOk P w K mg base CX0 1 (He.ma K (He.ga K "Thing") "__eq__") fd ["self", "other"] (spTEq K (He.ga K "Thing")) := fun base => ⟨fd_teq, FunD.bindsN F_teq (fun _ _ _ _ _ _ us hl => match us, hl with | [_, _], _ => rfl), ok_teq F_teq T Ct0 gT0⟩
  generalize efe : He.ma K (He.ga K "Thing") "__eq__" = fe at Ct0 M_teq0
  obtain ⟨CT, eCT⟩ : ∃ CT, He.ga K "Thing" = CT := ⟨_, rfl⟩
  have Ct : CsT K CT fe := eCT ▸ Ct0
  have gT : mg "Thing" = some (.ref CT) := eCT ▸ gT0
  have M_teq : ∀ base, ∃ fd, L2.Binds K fd ["self", "other"] [] ∧ FnOk P w K mg base CX0 1 fe fd ["self", "other"] (spTEq K CT) := eCT ▸ M_teq0
  have gz := free "zip" (by decide +kernel)
  have gm := free "max" (by decide +kernel)
  have gMD := intc "MOST_DEEP" 100 (by decide +kernel)
  obtain ⟨fd_NoClass, F_NoClass⟩ := c.def_ (d := d_NoClass_init) (by simp [fn])
  have E_NoClass : ∀ base, ErrOk P w K mg base "NoClass" (He.ga K "NoClass") "name" := fun base => ⟨glo "NoClass" (by decide +kernel), (own_ ("NoClass", "name") (by decide +kernel)).1, (own_ ("NoClass", "name") (by decide +kernel)).2.2, _, fd_NoClass, ["self", "name"], (own_ ("NoClass", "name") (by decide +kernel)).2.1,
    FunD.bindsN F_NoClass (fun _ _ _ _ _ _ us hl => match us, hl with | [_, _], _ => rfl), ok_init_NoClass F_NoClass W gW⟩
  obtain ⟨fd_Taken, F_Taken⟩ := c.def_ (d := d_Taken_init) (by simp [fn])
  have E_Taken : ∀ base, ErrOk P w K mg base "Taken" (He.ga K "Taken") "name" := fun base => ⟨glo "Taken" (by decide +kernel), (own_ ("Taken", "name") (by decide +kernel)).1, (own_ ("Taken", "name") (by decide +kernel)).2.2, _, fd_Taken, ["self", "name"], (own_ ("Taken", "name") (by decide +kernel)).2.1,
    FunD.bindsN F_Taken (fun _ _ _ _ _ _ us hl => match us, hl with | [_, _], _ => rfl), ok_init_Taken F_Taken W gW⟩
  obtain ⟨fd_NoField, F_NoField⟩ := c.def_ (d := d_NoField_init) (by simp [fn])
  have E_NoField : ∀ base, ErrOk P w K mg base "NoField" (He.ga K "NoField") "field" := fun base => ⟨glo "NoField" (by decide +kernel), (own_ ("NoField", "field") (by decide +kernel)).1, (own_ ("NoField", "field") (by decide +kernel)).2.2, _, fd_NoField, ["self", "field"], (own_ ("NoField", "field") (by decide +kernel)).2.1,
    FunD.bindsN F_NoField (fun _ _ _ _ _ _ us hl => match us, hl with | [_, _], _ => rfl), ok_init_NoField F_NoField W gW⟩
  obtain ⟨fd_NoParts, F_NoParts⟩ := c.def_ (d := d_NoParts_init) (by simp [fn])
  have E_NoParts : ∀ base, ErrOk P w K mg base "NoParts" (He.ga K "NoParts") "parts" := fun base => ⟨glo "NoParts" (by decide +kernel), (own_ ("NoParts", "parts") (by decide +kernel)).1, (own_ ("NoParts", "parts") (by decide +kernel)).2.2, _, fd_NoParts, ["self", "parts"], (own_ ("NoParts", "parts") (by decide +kernel)).2.1,
    FunD.bindsN F_NoParts (fun _ _ _ _ _ _ us hl => match us, hl with | [_, _], _ => rfl), ok_init_NoParts F_NoParts W gW⟩
  obtain ⟨fd_NoFit, F_NoFit⟩ := c.def_ (d := d_NoFit_init) (by simp [fn])
  have E_NoFit : ∀ base, ErrOk P w K mg base "NoFit" (He.ga K "NoFit") "field" := fun base => ⟨glo "NoFit" (by decide +kernel), (own_ ("NoFit", "field") (by decide +kernel)).1, (own_ ("NoFit", "field") (by decide +kernel)).2.2, _, fd_NoFit, ["self", "field"], (own_ ("NoFit", "field") (by decide +kernel)).2.1,
    FunD.bindsN F_NoFit (fun _ _ _ _ _ _ us hl => match us, hl with | [_, _], _ => rfl), ok_init_NoFit F_NoFit W gW⟩
  obtain ⟨fd_is_name, F_is_name⟩ := c.def_ (d := d_is_name) (by simp [fn])
  have D_is_name : ∀ base, DfOk P w K mg base CX0 1 "is_name" ["thing"] (spIsName K) := fun base => ⟨_, fd_is_name, glo "is_name" (by decide +kernel), F_is_name.kp, FunD.bindsN F_is_name (fun _ _ _ _ _ _ us hl => match us, hl with | [_], _ => rfl), ok_is_name F_is_name T⟩
  obtain ⟨fd_is_class, F_is_class⟩ := c.def_ (d := d_is_class) (by simp [fn])
  have D_is_class : ∀ base, DfOk P w K mg base CX0 2 "is_class" ["runtime", "name"] (spIsClass K CK CR) := fun base => ⟨_, fd_is_class, glo "is_class" (by decide +kernel), F_is_class.kp, FunD.bindsN F_is_class (fun _ _ _ _ _ _ us hl => match us, hl with | [_, _], _ => rfl), ok_is_class F_is_class T C (D_is_name base)⟩
  obtain ⟨fd_check_class, F_check_class⟩ := c.def_ (d := d_check_class) (by simp [fn])
  have D_check_class : ∀ base, DfOk P w K mg base (L2.CX P w) 3 "check_class" ["runtime", "name"] (spCheck K CK CR (He.ga K "NoClass")) := fun base => ⟨_, fd_check_class, glo "check_class" (by decide +kernel), F_check_class.kp, FunD.bindsN F_check_class (fun _ _ _ _ _ _ us hl => match us, hl with | [_, _], _ => rfl), ok_check_class F_check_class T C (E_NoClass base) (D_is_class base)⟩
  obtain ⟨fd_line_of, F_line_of⟩ := c.def_ (d := d_line_of) (by simp [fn])
  have D_line_of : ∀ base, DfOk P w K mg base CX0 1 "line_of" ["runtime", "name"] (spLineOf K CK CR) := fun base => ⟨_, fd_line_of, glo "line_of" (by decide +kernel), F_line_of.kp, FunD.bindsN F_line_of (fun _ _ _ _ _ _ us hl => match us, hl with | [_, _], _ => rfl), ok_line_of F_line_of T C⟩
  obtain ⟨fd_below, F_below⟩ := c.def_ (d := d_below) (by simp [fn])
  have D_below : ∀ base, DfOk P w K mg base CX0 2 "below" ["runtime", "one", "other"] (spBelow K CK CR) := fun base => ⟨_, fd_below, glo "below" (by decide +kernel), F_below.kp, FunD.bindsN F_below (fun _ _ _ _ _ _ us hl => match us, hl with | [_, _, _], _ => rfl), ok_below F_below T (D_line_of base)⟩
  obtain ⟨fd_Kind_init, F_Kind_init⟩ := c.def_ (d := d_Kind_init) (by simp [fn])
  have K_Kind : ∀ base, MkOk P w K mg base CX0 1 "Kind" CK ["self", "parent", "fields", "since"] (spKind CK) := fun base => ⟨by rw [← eCK]; exact glo "Kind" (by decide +kernel), _, fd_Kind_init, by rw [← eCK]; exact mkr "Kind" (by decide +kernel), FunD.bindsN F_Kind_init (fun _ _ _ _ _ _ us hl => match us, hl with | [_, _, _, _], _ => rfl), ok_kind F_Kind_init C⟩
  obtain ⟨fd_Runtime_init, F_Runtime_init⟩ := c.def_ (d := d_Runtime_init) (by simp [fn])
  have K_Runtime : ∀ base, MkOk P w K mg base CX0 3 "Runtime" CR ["self"] (spRuntime K CK CR) := fun base => ⟨by rw [← eCR]; exact glo "Runtime" (by decide +kernel), _, fd_Runtime_init, by rw [← eCR]; exact mkr "Runtime" (by decide +kernel), FunD.bindsN F_Runtime_init (fun _ _ _ _ _ _ us hl => match us, hl with | [_], _ => rfl), ok_runtime F_Runtime_init C C2 (K_Kind base)⟩
  obtain ⟨fd_Thing_init, F_Thing_init⟩ := c.def_ (d := d_Thing_init) (by simp [fn])
  have K_Thing : ∀ base, MkOk P w K mg base CX0 1 "Thing" CT ["self", "of", "parts", "deep", "number"] (spThing CT) := fun base => ⟨by rw [← eCT]; exact glo "Thing" (by decide +kernel), _, fd_Thing_init, by rw [← eCT]; exact mkr "Thing" (by decide +kernel), FunD.bindsN F_Thing_init (fun _ _ _ _ _ _ us hl => match us, hl with | [_, _, _, _, _], _ => rfl), ok_thing F_Thing_init Ct⟩
  obtain ⟨fd_Runtime_newest, F_Runtime_newest⟩ := c.def_ (d := d_Runtime_newest) (by simp [fn])
  have M_newest : ∀ base, MtOk P w K mg base CX0 1 CR "newest" ["self"] (spNewest K CK CR) := fun base => ⟨by rw [← eCR]; exact cl "Runtime" (by decide +kernel), _, fd_Runtime_newest, by rw [← eCR]; exact mth "Runtime" "newest" (by decide +kernel), FunD.bindsN F_Runtime_newest (fun _ _ _ _ _ _ us hl => match us, hl with | [_], _ => rfl), ok_newest F_Runtime_newest T C⟩
  obtain ⟨fd_Runtime_table, F_Runtime_table⟩ := c.def_ (d := d_Runtime_table) (by simp [fn])
  have M_table : ∀ base, MtOk P w K mg base CX0 1 CR "table" ["self", "world"] (spTable K CK CR) := fun base => ⟨by rw [← eCR]; exact cl "Runtime" (by decide +kernel), _, fd_Runtime_table, by rw [← eCR]; exact mth "Runtime" "table" (by decide +kernel), FunD.bindsN F_Runtime_table (fun _ _ _ _ _ _ us hl => match us, hl with | [_, _], _ => rfl), ok_table F_Runtime_table T C⟩
  obtain ⟨fd_Runtime_add_world, F_Runtime_add_world⟩ := c.def_ (d := d_Runtime_add_world) (by simp [fn])
  have M_add_world : ∀ base, MtOk P w K mg base CX0 2 CR "add_world" ["self", "table"] (spAddWorld K CK CR) := fun base => ⟨by rw [← eCR]; exact cl "Runtime" (by decide +kernel), _, fd_Runtime_add_world, by rw [← eCR]; exact mth "Runtime" "add_world" (by decide +kernel), FunD.bindsN F_Runtime_add_world (fun _ _ _ _ _ _ us hl => match us, hl with | [_, _], _ => rfl), ok_add_world F_Runtime_add_world T C (M_newest base)⟩
  obtain ⟨fd_own_fields, F_own_fields⟩ := c.def_ (d := d_own_fields) (by simp [fn])
  have D_own_fields : ∀ base, DfOk P w K mg base (L2.CX P w) 3 "own_fields" ["runtime", "parent", "fields"] (spOwn K CK CR (He.ga K "NoField")) := fun base => ⟨_, fd_own_fields, glo "own_fields" (by decide +kernel), F_own_fields.kp, FunD.bindsN F_own_fields (fun _ _ _ _ _ _ us hl => match us, hl with | [_, _, _], _ => rfl), ok_own_fields F_own_fields T C (E_NoField base) (D_is_name base) (D_is_class base)⟩
  obtain ⟨fdA, F_add_class⟩ := c.def_ (d := d_add_class) (by simp [fn])
  have FA : ∀ base, FnOk P w K mg base (L2.CX P w) 4 (He.fAd K ("add_class", none)) fdA ["runtime", "name", "parent", "fields"] (spAdd K CK CR (He.ga K "NoClass") (He.ga K "Taken") (He.ga K "NoField")) := fun base => ok_add_class F_add_class T C (E_NoClass base) (E_Taken base) (D_is_name base) (D_check_class base) (D_own_fields base) (M_newest base) (M_table base) (M_add_world base) (K_Kind base)
  obtain ⟨tF, hF, D_add_class⟩ : ∃ tF, seqB K tF [] = true ∧ ∀ base, DfOkD P w K mg base (L2.CX P w) 4 "add_class" ["runtime", "name", "parent", "fields"] [.ref tF] (spAdd K CK CR (He.ga K "NoClass") (He.ga K "Taken") (He.ga K "NoField")) := by
    obtain ⟨oc, od, dV, kV, doc, pm, an, cdv, ct, osl, e0, lk, hcd, hD0, _⟩ := F_add_class.ex
    obtain rfl : dV = .none := hD0.elim (fun z => z.2) fun z => absurd rfl z.1
    obtain ⟨Dk, t, e1, e2, e3⟩ := kwTB_ok x5 lk
    rw [e0] at e1
    have e1 : kV = .ref Dk := e1
    subst e1
    refine ⟨t, e3, fun base => ⟨_, fdA, [.ref t], glo "add_class" (by decide +kernel), F_add_class.kp, .cons rfl .nil, ?_, FA base⟩⟩
    rw [e0]
    refine fun s us X hlen => ?_
    have l2 : us.length = 3 := by
      rw [List.length_append] at hlen
      simpa using hlen
    have hks : ∀ q ∈ [(("fields" : Str), Value.ref t)], PySem.W.nsIn K Dk q.1 = some (some q.2) := fun q hq => by
      rw [List.mem_singleton.mp hq]
      exact e2
    match us, l2 with
    | [u1, u2, u3], _ => exact BindsTo.of_looks fun M => KwChain.looks X hks ⟨_, _, _, _, _, _, rfl, rfl, rfl⟩
  have KBA : KBn K fdA ["runtime", "name", "parent", "fields"] 3 ["fields"] (fun us ws => us ++ ws) (fun vs zs => vs ++ zs) := by
    obtain ⟨oc, od, dV, kV, doc, pm, an, cdv, ct, osl, rfl, lk, hcd, hD0, _⟩ := F_add_class.ex
    obtain rfl : dV = .none := hD0.elim (fun z => z.2) fun z => absurd rfl z.1
    exact ⟨fun s us ws _ h1 h2 => match us, ws, h1, h2 with | [_, _, _], [_], _, _ => BindsTo.of_eq rfl, fun a b => Vals.append a b⟩
  have gA := glo "add_class" (by decide +kernel)
  obtain ⟨fd_is_integer, F_is_integer⟩ := c.def_ (d := d_is_integer) (by simp [fn])
  have D_is_integer : ∀ base, DfOk P w K mg base CX0 1 "is_integer" ["thing"] (spIsI K) := fun base => ⟨_, fd_is_integer, glo "is_integer" (by decide +kernel), F_is_integer.kp, FunD.bindsN F_is_integer (fun _ _ _ _ _ _ us hl => match us, hl with | [_], _ => rfl), ok_isI F_is_integer T⟩
  obtain ⟨fd_is_value, F_is_value⟩ := c.def_ (d := d_is_value) (by simp [fn])
  have D_is_value : ∀ base, DfOk P w K mg base CX0 2 "is_value" ["thing"] (spIsV K CT) := fun base => ⟨_, fd_is_value, glo "is_value" (by decide +kernel), F_is_value.kp, FunD.bindsN F_is_value (fun _ _ _ _ _ _ us hl => match us, hl with | [_], _ => rfl), ok_is_value F_is_value T gT (D_is_integer base)⟩
  obtain ⟨fd_class_of, F_class_of⟩ := c.def_ (d := d_class_of) (by simp [fn])
  have D_class_of : ∀ base, DfOk P w K mg base CX0 1 "class_of" ["value"] (spClsOf CT) := fun base => ⟨_, fd_class_of, glo "class_of" (by decide +kernel), F_class_of.kp, FunD.bindsN F_class_of (fun _ _ _ _ _ _ us hl => match us, hl with | [_], _ => rfl), ok_class_of F_class_of T Ct gT⟩
  obtain ⟨fd_seen, F_seen⟩ := c.def_ (d := d_seen) (by simp [fn])
  have D_seen : ∀ base, DfOk P w K mg base CX0 2 "seen" ["runtime", "name", "world"] (spSeen K CK CR) := fun base => ⟨_, fd_seen, glo "seen" (by decide +kernel), F_seen.kp, FunD.bindsN F_seen (fun _ _ _ _ _ _ us hl => match us, hl with | [_, _, _], _ => rfl), ok_seen F_seen T C (D_line_of base)⟩
  obtain ⟨fd_seen_of, F_seen_of⟩ := c.def_ (d := d_seen_of) (by simp [fn])
  have D_seen_of : ∀ base, DfOk P w K mg base CX0 3 "seen_of" ["runtime", "value", "world"] (spSeenOf K CK CR CT) := fun base => ⟨_, fd_seen_of, glo "seen_of" (by decide +kernel), F_seen_of.kp, FunD.bindsN F_seen_of (fun _ _ _ _ _ _ us hl => match us, hl with | [_, _, _], _ => rfl), ok_seen_of F_seen_of T (D_class_of base) (D_seen base)⟩
  obtain ⟨fd_made, F_made⟩ := c.def_ (d := d_made) (by simp [fn])
  have D_made : ∀ base, DfOk P w K mg base (L2.CX P w) 4 "made" ["runtime", "name", "parts", "world"] (spMade P w K CK CR CT (He.ga K "NoFit") (He.ga K "TooDeep")) := fun base => ⟨_, fd_made, glo "made" (by decide +kernel), F_made.kp, FunD.bindsN F_made (fun _ _ _ _ _ _ us hl => match us, hl with | [_, _, _, _], _ => rfl), ok_made F_made T C Ct C2 gT gz gm gMD (E_NoFit base) R_TooDeep (D_below base) (D_seen_of base) (K_Thing base)⟩
  obtain ⟨fd_make, F_make⟩ := c.def_ (d := d_make) (by simp [fn])
  have D_make : ∀ base, DfOk P w K mg base (L2.CX P w) 5 "make" ["runtime", "name", "parts"] (spMake P w K CK CR CT (He.ga K "NoClass") (He.ga K "NoFit") (He.ga K "NoParts") (He.ga K "TooDeep")) := fun base => ⟨_, fd_make, glo "make" (by decide +kernel), F_make.kp, FunD.bindsN F_make (fun _ _ _ _ _ _ us hl => match us, hl with | [_, _, _], _ => rfl), ok_make F_make T C Ct (E_NoClass base) (E_NoParts base) (D_check_class base) (D_is_value base) (M_newest base) (D_made base)⟩
  obtain ⟨fd_l_well, F_l_well⟩ := c.def_ (d := d_l_well) (by simp [fn])
  have D_l_well : ∀ base, DfOk P w K mg base CX0 1 "_law_well" ["_law_cell"] spWell := fun base => ⟨_, fd_l_well, glo "_law_well" (by decide +kernel), F_l_well.kp, FunD.bindsN F_l_well (fun _ _ _ _ _ _ us hl => match us, hl with | [_], _ => rfl), ok_well F_l_well T⟩
  obtain ⟨fd_l_draw, F_l_draw⟩ := c.def_ (d := d_l_draw) (by simp [fn])
  have D_l_draw : ∀ base, DfOk P w K mg base CX0 1 "_law_draw" ["_law_well_here", "_law_many"] spDraw := fun base => ⟨_, fd_l_draw, glo "_law_draw" (by decide +kernel), F_l_draw.kp, FunD.bindsN F_l_draw (fun _ _ _ _ _ _ us hl => match us, hl with | [_, _], _ => rfl), ok_draw F_l_draw T⟩
  obtain ⟨fd_l_one, F_l_one⟩ := c.def_ (d := d_l_one) (by simp [fn])
  have D_l_one : ∀ base, DfOk P w K mg base CX0 2 "_law_one" ["_law_well_here", "_law_some"] (spOne K) := fun base => ⟨_, fd_l_one, glo "_law_one" (by decide +kernel), F_l_one.kp, FunD.bindsN F_l_one (fun _ _ _ _ _ _ us hl => match us, hl with | [_, _], _ => rfl), ok_one F_l_one T (D_l_draw base)⟩
  obtain ⟨fd_fields, F_fields⟩ := c.def_ (d := d_fields) (by simp [fn])
  have D_fields : ∀ base, DfOk P w K mg base CX0 4 "fields" ["runtime", "name"] (spFields K CK CR) := fun base => ⟨_, fd_fields, glo "fields" (by decide +kernel), F_fields.kp, FunD.bindsN F_fields (fun _ _ _ _ _ _ us hl => match us, hl with | [_, _], _ => rfl), ok_fields F_fields T C (D_check_class base)⟩
  obtain ⟨fd_is_below, F_is_below⟩ := c.def_ (d := d_is_below) (by simp [fn])
  have D_is_below : ∀ base, DfOk P w K mg base CX0 4 "is_below" ["runtime", "one", "other"] (spIsBelow K CK CR) := fun base => ⟨_, fd_is_below, glo "is_below" (by decide +kernel), F_is_below.kp, FunD.bindsN F_is_below (fun _ _ _ _ _ _ us hl => match us, hl with | [_, _, _], _ => rfl), ok_is_below F_is_below (D_check_class base) (D_below base)⟩
  obtain ⟨fd_l_tree, F_l_tree⟩ := c.def_ (d := d_l_tree) (by simp [fn])
  have D_l_tree : ∀ base, DfOk P w K mg base CX0 5 "_law_tree" ["_law_well_here", "_law_runtime"] (spLTree K CK CR) := fun base => ⟨_, fd_l_tree, glo "_law_tree" (by decide +kernel), F_l_tree.kp, FunD.bindsN F_l_tree (fun _ _ _ _ _ _ us hl => match us, hl with | [_, _], _ => rfl), ok_ltree F_l_tree T (D_l_draw base) (D_l_one base) gA F_add_class.kp KBA (FA base)⟩
  obtain ⟨fd_l_coded, F_l_coded⟩ := c.def_ (d := d_l_coded) (by simp [fn])
  have D_l_coded : ∀ base, DfOk P w K mg base CX0 1 "_law_coded" ["_law_codes", "_law_code"] spCoded := fun base => ⟨_, fd_l_coded, glo "_law_coded" (by decide +kernel), F_l_coded.kp, FunD.bindsN F_l_coded (fun _ _ _ _ _ _ us hl => match us, hl with | [_, _], _ => rfl), ok_coded F_l_coded T⟩
  obtain ⟨fdS, F_l_said⟩ := c.def_ (d := d_l_said) (by simp [fn])
  have SC : SaidC K mg (He.fAd K ("_law_said", none)) (He.ga K "NoClass") (He.ga K "NoParts") (He.ga K "NoFit") (He.ga K "TooDeep") (He.ga K "WorldError") := by
    obtain ⟨oc2, od2, dV2, kV2, doc2, pm2, an2, cdv2, ct2, osl2, eS, lkS, hcS, _, _⟩ := F_l_said.ex
    have bS := FunD.bindsN (ps := ["_law_ask"]) F_l_said (fun _ _ _ _ _ _ us hl => match us, hl with | [_], _ => rfl)
    rw [eS] at bS lkS
    exact ⟨glo "_law_said" (by decide +kernel), F_l_said.kp, ⟨oc2, dV2, kV2, doc2, pm2, cdv2, ct2, od2, an2, osl2, lkS, hcS, bS⟩, ⟨kit "NoClass" "NoClass" true (by decide +kernel) (by decide +kernel) rfl, kit "NoParts" "NoClass" false (by decide +kernel) (by decide +kernel) (by decide +kernel), kit "NoParts" "NoParts" true (by decide +kernel) (by decide +kernel) rfl, kit "NoFit" "NoClass" false (by decide +kernel) (by decide +kernel) (by decide +kernel), kit "NoFit" "NoParts" false (by decide +kernel) (by decide +kernel) (by decide +kernel), kit "NoFit" "NoFit" true (by decide +kernel) (by decide +kernel) rfl, kit "TooDeep" "NoClass" false (by decide +kernel) (by decide +kernel) (by decide +kernel), kit "TooDeep" "NoParts" false (by decide +kernel) (by decide +kernel) (by decide +kernel), kit "TooDeep" "NoFit" false (by decide +kernel) (by decide +kernel) (by decide +kernel), kit "TooDeep" "TooDeep" true (by decide +kernel) (by decide +kernel) rfl, xf "NoClass" (by decide +kernel), xf "NoParts" (by decide +kernel), xf "NoFit" (by decide +kernel), (own_ ("NoClass", "name") (by decide +kernel)).2.2, (own_ ("NoParts", "parts") (by decide +kernel)).2.2, (own_ ("NoFit", "field") (by decide +kernel)).2.2⟩,
      glo "NoClass" (by decide +kernel), glo "NoParts" (by decide +kernel), glo "NoFit" (by decide +kernel), glo "TooDeep" (by decide +kernel), gW⟩
  obtain ⟨fd0, F0⟩ := c.def_ (d := d_l_made_right) (by simp [fn])
  obtain ⟨oc0x, od0x, dV0x, kV0x, doc0x, pm0x, an0x, cdv0x, ct0x, osl0x, e0x, lk0x, hc0x, _, _⟩ := F0.ex
  have b0x := FunD.bindsN (ps := ["_law_well_here", "_law_runtime", "_law_names", "_law_values", "_law_codes"]) F0 (fun _ _ _ _ _ _ us hl => match us, hl with | [_, _, _, _, _], _ => rfl)
  rw [e0x] at b0x lk0x
  obtain ⟨cc0, rfl⟩ := He.codeIn_ref hc0x
  have ecc0 : (He.cT K ("_law_made_right", none)).1 = cc0 := He.codeOf_eq lk0x rfl
  obtain ⟨fd1, F1⟩ := c.def_ (d := d_l_chain_right) (by simp [fn])
  obtain ⟨oc1x, od1x, dV1x, kV1x, doc1x, pm1x, an1x, cdv1x, ct1x, osl1x, e1x, lk1x, hc1x, _, _⟩ := F1.ex
  have b1x := FunD.bindsN (ps := ["_law_many"]) F1 (fun _ _ _ _ _ _ us hl => match us, hl with | [_], _ => rfl)
  rw [e1x] at b1x lk1x
  obtain ⟨cc1, rfl⟩ := He.codeIn_ref hc1x
  have ecc1 : (He.cT K ("_law_chain_right", none)).1 = cc1 := He.codeOf_eq lk1x rfl
  obtain ⟨fd, F⟩ := c.def_ (d := d_law) (by simp [fn])
  have e := hfa.symm.trans (glo "law" (by decide +kernel))
  cases e
  have b := FunD.bindsA (ps := ["_law_script"]) F fun _ _ _ _ _ _ us hl => match us, hl with | [_], _ => rfl
  refine ⟨fd, fun s v => b s [v] rfl, fun base _ _ TB0 TB1 => ?_⟩
  rw [ecc0] at TB0
  rw [ecc1] at TB1
  have D0 : DfOk P w K mg base CX0 11 "_law_made_right" ["_law_well_here", "_law_runtime", "_law_names", "_law_values", "_law_codes"] (spMadeR P w K CK CR CT (He.cT K ("_law_made_right", none)).2 (He.cT K ("_law_chain_right", none)).2) := ⟨_, _, glo "_law_made_right" (by decide +kernel), F0.kp, b0x,
    ok_made_right SC hne lk0x hc0x TB0 T gz Ct (M_teq base) (D_l_draw base) (D_l_one base) (D_l_coded base) (D_fields base) (D_is_below base) (D_make base)⟩
  have D1 : DfOk P w K mg base CX0 11 "_law_chain_right" ["_law_many"] (spChain (He.cT K ("_law_made_right", none)).2 (He.cT K ("_law_chain_right", none)).2) := ⟨_, _, glo "_law_chain_right" (by decide +kernel), F1.kp, b1x,
    ok_chain SC hne lk1x hc1x TB1 T Ct (M_teq base) (K_Runtime base) gA F_add_class.kp KBA (FA base) (D_make base)⟩
  exact ok_law F T Ct (D_l_well base) (K_Runtime base) (D_l_tree base) (D_l_coded base) (D_make base) (D_l_draw base) D0 D1
end K03
open PySem PySem.W PySem.Calls PyProof.Rows
theorem PySem.Challenge.cw_worldcalls_k03_things_made_holds : PySem.Challenge.rw_worldcalls_k03_things_made.Holds := by
  w_on; o_law
  refine HandSHeadRun.head_any (r := OpenLaw.row PySem.Challenge.rw_worldcalls_k03_things_made) (q := view (OpenLaw.row PySem.Challenge.rw_worldcalls_k03_things_made).prog [45]) (H := K03.hk) (ob := K03.ob) (M := 20000) (loose := K03.loose) (d := HandSHeadRun.topDef (OpenLaw.row PySem.Challenge.rw_worldcalls_k03_things_made).prog 45) (kwd := []) K03.ob_eq
    (by kernel_rfl) (fun s => by kernel_rfl) K03.run (by kernel_rfl) (by kernel_rfl) (by kernel_rfl) (by rfl) (by first | assumption | decide +kernel) (by decide +kernel) ⟨rfl, rfl, rfl, rfl, rfl, by decide +kernel⟩ ?hw ?hc
  case hw => w_witness2
  case hc =>
    refine LamX.walk_ofTsE (l := PySem.Challenge.rw_worldcalls_k03_things_made) (n := 63) (k := 12) (x := "_law_script") (CX := fun _ => L2.CX0) rfl (by decide) (by kernel_rfl) ⟨rfl, by decide, by decide⟩ ?F (fun _ _ _ _ _ z => z)
    intro w mg fa h Y G hmg0
    obtain ⟨K, KX, c⟩ := Y
    have hmg : mg ("law" : PySem.Str) = some (.ref fa) := by
      have e : (HandSHeadRun.topDef (OpenLaw.row PySem.Challenge.rw_worldcalls_k03_things_made).prog 45).name = ("law" : PySem.Str) := by kernel_rfl
      rw [← e]
      exact hmg0
    obtain ⟨fd, hb, hF⟩ := K03.facts (P := (PySem.Challenge.rw_worldcalls_k03_things_made).prog) (w := w) KX G hmg c
    refine ⟨K, KX, fd, K03.tf.map (He.cT K), K03.spLaw K (He.cT K ("_law_made_right", none)).2 (He.cT K ("_law_chain_right", none)).2, fun p hp => ?_, fun p hp => ?_, fun p hp => ?_, hb, fun H a ns hl _ hT hS => ⟨a, ns, rfl, hS, hl, fun p hp => ?_, fun _ => rfl⟩, fun base hK hN hT => hF base hK hN (hT _ (List.mem_map_of_mem List.mem_cons_self)) (hT _ (List.mem_map_of_mem (List.mem_cons_of_mem _ List.mem_cons_self)))⟩
    · obtain ⟨q, hq, rfl⟩ := List.mem_map.mp hp
      exact c.empty q hq
    · obtain ⟨q, hq, rfl⟩ := List.mem_map.mp hp
      exact c.out q hq
    · obtain ⟨q, hq, rfl⟩ := List.mem_map.mp hp
      exact PySem.W.codeHd_of_K KX (c.hd q hq)
    · rcases List.mem_cons.mp hp with e | hp
      · rw [e]
        exact LamX.TabS.nil (hT _ (List.mem_map_of_mem List.mem_cons_self))
      · rw [List.mem_singleton.mp hp]
        exact LamX.TabS.nil (hT _ (List.mem_map_of_mem (List.mem_cons_of_mem _ List.mem_cons_self)))
#print axioms PySem.Challenge.cw_worldcalls_k03_things_made_holds

