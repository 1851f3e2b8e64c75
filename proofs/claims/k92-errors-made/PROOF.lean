import PyProof.Rows.All
import Wide.All
import OpenK.AllK
import Wide.FinOn
import PyProof.EqAt
import PyProof.EqKinds
import PyProof.TupleCall
import KE.KFromBytes
import KE.KIsAll
import KE.KTryMore
import KE.KExcIs
import HandS.Base
import HandS.Call
import HandS.List
import HandS.Comp
import HandS.Ends
import HandS.Words
import HandS.WordsList
import HandS.Defaults
import HandS.More
import HandS.Exc
import HandS.ExcInit
import HandS.ExcIs
import HandS.ExcField
import HandS.ExcOwn
import HandS.ClsMeth
import HandS.HeadHook1
import HandS.HeadHook2
import KE.KStateDown
import HandS.WordsExc
import HandS.Head0
import HandS.Head1
import HandS.Head2
import HandS.HeadEnd
import HandS.IsInst
import HandS.Evl
import HandS.TryOnly
import PySem.Challenge.RW_cutscribe_k92_errors_made
set_option Elab.async false
set_option linter.all false
set_option maxRecDepth 100000
set_option maxHeartbeats 4000000
/-! Own exception classes whose __init__ calls the base class's __init__ by the base's name: made as values, raised, asked, read. -/
namespace L2
open PySem PySem.Spec PyProof.Rows
/-! ### what the written part says of such a class -/
/-- an own exception class: made, stored to, asked, read -/
structure XC (K : PySem.W.Frag) (C : Addr) : Prop where
  o : OexC K C
  x : ExcC K C
theorem XC.f {K : PySem.W.Frag} {C : Addr} (T : XC K C) : XfC K C := ⟨T.x.hg, T.x.hk, T.x.hs, T.x.hd⟩
def oexB (K : PySem.W.Frag) (C : Addr) : Bool := (match K.lookup C with
  | some ⟨.type "type", _, .cls cd, sl⟩ => (match cd.mro, sl.toList with
    | .ref C' :: bm, [_, _, _, _, some (.builtin n), _] => decide (C' = C) && (decide (n = "ValueError.__new__") && (!cd.hasDel && (cd.hasDict && PySem.HandSPX.refsVE bm)))
    | _, _ => false)
  | _ => false)
def xcB (K : PySem.W.Frag) (C : Addr) : Bool := oexB K C && (decide (PySem.W.findIn K (.ref C) "__setattr__" = some (some (.builtin "object.__setattr__"))) && (decide (PySem.W.subIn K (.ref C) (.type "BaseException") = some true) &&
  (decide (PySem.W.typeIn K (.ref C) = some (.type "type")) && (PySem.W.keepIn K (.ref C) && (decide (PySem.W.findIn K (.ref C) "__getattribute__" = some (some (.builtin "BaseException.__getattribute__"))) &&
  (decide (PySem.W.findIn K (.ref C) "__getattr__" = some none) && (PySem.W.hasDictIn K C && (decide (PySem.W.findIn K (.ref C) "__class__" = some (some (.builtin "object.__class__"))) &&
  (decide (PySem.W.specialIn K (.builtin "object.__class__") "__get__" = some (some (.builtin "getset_descriptor.__get__"))) && (decide (PySem.W.takesIn K (.builtin "object.__class__") = some true) &&
  decide (PySem.W.mroIn K C (.type "object") = some true)))))))))))
theorem oexB_ok {K : PySem.W.Frag} {C : Addr} (h : oexB K C = true) : ∃ nm q N bs bm sn sub ab col dd k0 k1 k2 k3 k5, K.lookup C = some (excClassObj nm q C N bs bm true sn sub ab col dd k0 k1 k2 k3 k5 "ValueError.__new__") ∧ PySem.HandSPX.refsVE bm = true := by
  unfold oexB at h
  split at h
  · rename_i dd cd sl ho
    split at h
    · rename_i C' bm k0 k1 k2 k3 n k5 hm hs
      obtain ⟨h1, h⟩ := Bool.and_eq_true_iff.mp h
      obtain ⟨h2, h⟩ := Bool.and_eq_true_iff.mp h
      obtain ⟨h3, h⟩ := Bool.and_eq_true_iff.mp h
      obtain ⟨h4, h5⟩ := Bool.and_eq_true_iff.mp h
      have e1 : C' = C := of_decide_eq_true h1
      have e2 : n = "ValueError.__new__" := of_decide_eq_true h2
      subst e1 e2
      obtain ⟨nm, bs, mro, ns, qn, hd, sn, sub, ab, col, del⟩ := cd
      dsimp only at hm h3 h4
      subst hm h4
      have hdel : del = false := by simpa using h3
      subst hdel
      have hsl : sl = #[k0, k1, k2, k3, some (.builtin "ValueError.__new__"), k5] := by
        obtain ⟨l⟩ := sl
        simp only at hs
        rw [hs]
      subst hsl
      exact ⟨nm, qn, ns, bs, bm, sn, sub, ab, col, dd, k0, k1, k2, k3, k5, ho, h5⟩
    · cases h
  · cases h
theorem xcB_ok {K : PySem.W.Frag} {C : Addr} (h : xcB K C = true) : XC K C := by
  obtain ⟨h1, h⟩ := Bool.and_eq_true_iff.mp h
  obtain ⟨h2, h⟩ := Bool.and_eq_true_iff.mp h
  obtain ⟨h3, h⟩ := Bool.and_eq_true_iff.mp h
  obtain ⟨h4, h⟩ := Bool.and_eq_true_iff.mp h
  obtain ⟨h5, h⟩ := Bool.and_eq_true_iff.mp h
  obtain ⟨h6, h⟩ := Bool.and_eq_true_iff.mp h
  obtain ⟨h7, h⟩ := Bool.and_eq_true_iff.mp h
  obtain ⟨h8, h⟩ := Bool.and_eq_true_iff.mp h
  obtain ⟨h9, h⟩ := Bool.and_eq_true_iff.mp h
  obtain ⟨h10, h⟩ := Bool.and_eq_true_iff.mp h
  obtain ⟨h11, h12⟩ := Bool.and_eq_true_iff.mp h
  exact ⟨⟨oexB_ok h1, of_decide_eq_true h2, of_decide_eq_true h3, of_decide_eq_true h4, h5⟩, ⟨of_decide_eq_true h6, of_decide_eq_true h7, of_decide_eq_true h3, h8, of_decide_eq_true h9, of_decide_eq_true h10, of_decide_eq_true h11, of_decide_eq_true h12⟩⟩
/-- the base class B whose __init__ is called by its name -/
structure XB (K : PySem.W.Frag) (B : Addr) : Prop where
  r : ClX.CRead K B (.type "type")
  at_ : PySem.W.findCls K (.ref B) (.type "type") "__init__" = some (.val (.builtin "ValueError.__init__"))
def xbB (K : PySem.W.Frag) (B : Addr) : Bool := PySem.W.readsIn K B (.type "type") && (decide (PySem.W.specialIn K (.ref B) "__getattribute__" = some (some (.builtin "type.__getattribute__"))) && (match PySem.W.findCls K (.ref B) (.type "type") "__init__" with
  | some (.val (.builtin n)) => decide (n = "ValueError.__init__")
  | _ => false))
theorem xbB_ok {K : PySem.W.Frag} {B : Addr} (h : xbB K B = true) : XB K B := by
  obtain ⟨h1, h⟩ := Bool.and_eq_true_iff.mp h
  obtain ⟨h2, h⟩ := Bool.and_eq_true_iff.mp h
  refine ⟨⟨h1, of_decide_eq_true h2⟩, ?_⟩
  split at h
  · rename_i n e
    rw [e, of_decide_eq_true h]
  · cases h

section
variable {X : Cx} {CX : CXT} {k : Nat} {fI C B : Addr} {fd : FuncData} {ps : List Str} {sp : Sp} {ds : List Value} {dvs : List V} {x f : Str} {o e : Expr} {es : List Expr} {to te : TE} {ta : TA} {p p1 p2 p' pos : Pos}
/-- B.__init__(self, ..) -/
theorem pe_binit {pl : Sem Bool} (T : XB X.K B) (hg : Gl X x) (hm : X.mg x = some (.ref B)) (ha : PA X (e :: es) ta) (hdb : (x == ("__debug__" : Str)) = false := by decide)
    (hc : eval (.Call (.Attribute (.Name x p1) "__init__" p2) (e :: es) [] pos) X.env = (do
      let ov ← eval (.Name x p1) X.env
      standAt p2.atName
      let (f, first) ← holding [ov] (getMethod ov "__init__" pl)
      callWith pos f first (backTo pos (starEach (e :: es) X.env)) (backToKw pos (keywordEach [] X.env))) := by rfl)
    (he : starEach (e :: es) X.env = (false, eval e X.env) :: starEach es X.env := by rfl) (hpl : (backTo pos (starEach es X.env)).any (·.1) = false := by rfl) :
    PE X (.Call (.Attribute (.Name x p1) "__init__" p2) (e :: es) [] pos) (tVeI X.K ta) := by
  refine ⟨fun pins s σ H Q I h => ?_⟩
  refine PySem.W.methodCall_KW (ld_glob I hg hm ?_ hdb) hc
  refine PySem.W.method_cls I.kIn T.r.ga (PySem.W.cls_value I.kIn T.r.rd T.at_ (by decide +kernel) ?_)
  show wpAny _ _ (callWith pos (Value.builtin "ValueError.__init__") [] (backTo pos (starEach (e :: es) X.env)) []) _ _ _
  refine PyProof.Rows.callWith_method1 (thn (ha.run pos pins _ σ H _ (I.tok _) h) fun us s1 ⟨vs, H1, I1, r1, a, C, ws, ev, hl, T, ea, q⟩ => ?_) he hpl
  subst ev
  cases r1 with
  | @cons _ u0 _ ur ra rw' =>
    obtain rfl : u0 = Value.ref a := ra
    have hlen : ur.length ≤ sizeLine := by
      rw [← Paired.length rw', sizeLine_eq]
      omega
    exact oinit_ok T I1 ea hlen fun s' J => ⟨.non, H1, J, rfl, q⟩
/-- C(e, ..) as a value: the exception object stays tracked -/
def tMkX (C : Addr) (sp : Sp) (dvs : List V) (ta : TA) : TE := fun σ H Q => ta σ H fun vs H1 => vs.length ≤ 1000 ∧ ∀ a, H1 a = none → sp (.ref a :: (vs ++ dvs)) (upd H1 a (exo a C none)) (fun v H2 => v = .non ∧ Q (.ref a) H2) (fun _ _ _ => False)
theorem run_mkx {pins : List (Addr × Obj)} {σ : St} {H1 : Hp} {s : Shared} {Q : VK} {us : List Value} {vs : List V} (T : OexC X.K C) (iC : PySem.W.findIn X.K (.ref C) "__init__" = some (some (.ref fI))) (tI : PySem.W.typeIn X.K (.ref fI) = some (.type "function"))
    (F1 : FnOk X.prog X.w X.K X.mg X.base CX k fI fd ps sp) (hr : Room (k + 1) X.A) (hb : Binds X.K fd ps ds) (hd : Vals dvs ds) (hx : Passes CX X (fun _ _ _ => False)) (I1 : Inv X pins σ H1 s) (r1 : Vals vs us) (hz : vs.length ≤ 1000)
    (q1 : ∀ a, H1 a = none → sp (.ref a :: (vs ++ dvs)) (upd H1 a (exo a C none)) (fun v H2 => v = .non ∧ Q (.ref a) H2) (fun _ _ _ => False)) : wpAny (model X.prog X.w) X.A (call (.ref C) us) (EP X pins σ Q) X.xe s := by
  obtain ⟨nm, q, N, bs, bm, sn, sub, ab, col, dd, k0, k1, k2, k3, k5, hC, hbm⟩ := T.cls
  obtain ⟨hp, g, dr, tk, os⟩ := s
  have hsz : hp.objs.size ≤ hp.objs.size + 1 := Nat.le_succ _
  have hn : H1 (hp.objs.size + 1) = none := I1.hok.fresh hsz
  have hq := q1 (hp.objs.size + 1) hn
  have kk : ∀ b o, hp.get? b = some o → ((hp.push (PySem.W.kdv_tup us)).push (PySem.HandSPX.excO C hp.objs.size)).get? b = some o := fun b o e => Heap.get?_push_of_some _ (Heap.get?_push_of_some _ e)
  have hget : ((hp.push (PySem.W.kdv_tup us)).push (PySem.HandSPX.excO C hp.objs.size)).get? (hp.objs.size + 1) = some (PySem.HandSPX.excO C hp.objs.size) := by heap_get
  have I2 : Inv X pins σ (upd H1 (hp.objs.size + 1) (exo (hp.objs.size + 1) C none)) ⟨(hp.push (PySem.W.kdv_tup us)).push (PySem.HandSPX.excO C hp.objs.size), g, dr, tk, os⟩ :=
    I1.laid (t' := tk) (a := hp.objs.size + 1) (o := exo (hp.objs.size + 1) C none) (h' := (hp.push (PySem.W.kdv_tup us)).push (PySem.HandSPX.excO C hp.objs.size)) kk hsz (exo_ok hget)
  have r2 : Vals (V.ref (hp.objs.size + 1) :: (vs ++ dvs)) (Value.ref (hp.objs.size + 1) :: (us ++ ds)) := .cons rfl (r1.append hd)
  have hl : (Value.ref (hp.objs.size + 1) :: us ++ ds).length = ps.length := by
    have e := r2.length
    rw [F1.len _ _ _ _ hq] at e
    exact e.symm
  have hus : us.length ≤ sizeLine := by
    rw [← Paired.length r1, sizeLine_eq]
    omega
  refine wpAny_call (PySem.HandSPX.call_own F.excBase_ValueError (fun Y => PySem.HandSPX.refsVE_contains Y bm hbm) (I1.kIn _ _ hC) (PySem.W.looks_findIn I1.kIn iC) (fun self => PySem.W.bind_fn I1.kIn self tI) hus
    (codeAny_mono (F1.run _ X.stack _ _ ⟨Value.ref (hp.objs.size + 1) :: us, []⟩ (Value.ref (hp.objs.size + 1) :: (us ++ ds)) _ _ (fun _ _ _ => False) (hr.make C us []) (I2.env0.make C us []) (hb _ (Value.ref (hp.objs.size + 1) :: us) I2.kIn hl) r2 hq) fun r s' hq' => ?_))
  cases r with
  | error er => exact hx pins σ _ _ er s' I2 hq'
  | ok fl =>
    cases fl with
    | ret u =>
      obtain ⟨v, H2, os2, bare2, un2, hok2, rv, ev, q2⟩ := hq'
      subst ev
      exact ⟨rv, .ref (hp.objs.size + 1), H2, I2.call' (ch := []) os2 un2 hok2 bare2 (fun b z => absurd z (by simp)), rfl, q2⟩
    | next => exact False.elim hq'
    | brk => exact False.elim hq'
    | cont => exact False.elim hq'
theorem pe_mkx (T : XC X.K C) (iC : PySem.W.findIn X.K (.ref C) "__init__" = some (some (.ref fI))) (tI : PySem.W.typeIn X.K (.ref fI) = some (.type "function"))
    (F1 : FnOk X.prog X.w X.K X.mg X.base CX k fI fd ps sp) (hr : Room (k + 1) X.A) (hb : Binds X.K fd ps ds) (hd : Vals dvs ds) (hx : Passes CX X (fun _ _ _ => False)) (hg : Gl X x) (hm : X.mg x = some (.ref C)) (ha : PA X (e :: es) ta)
    (hdb : (x == ("__debug__" : Str)) = false := by decide) (he : starEach (e :: es) X.env = (false, eval e X.env) :: starEach es X.env := by rfl) (hpl : (backTo pos (starEach es X.env)).any (·.1) = false := by rfl) :
    PE X (.Call (.Name x p) (e :: es) [] pos) (tMkX C sp dvs ta) := by
  refine ⟨fun pins s σ H Q I h => ?_⟩
  refine wpAny_Call_Name_kw (ld_glob I hg hm ?_ hdb)
  refine PySem.W.callWith_K (h₀ := X.base) I.ok.mod.kin T.o.kC (thn (ha.run pos pins s σ H _ I h) fun us s1 ⟨vs, H1, I1, r1, hz, q1⟩ => ⟨I1.kIn, ?_⟩) he hpl
  exact run_mkx T.o iC tI F1 hr hb hd hx I1 r1 hz q1
theorem pe_mkx0 (T : XC X.K C) (iC : PySem.W.findIn X.K (.ref C) "__init__" = some (some (.ref fI))) (tI : PySem.W.typeIn X.K (.ref fI) = some (.type "function"))
    (F1 : FnOk X.prog X.w X.K X.mg X.base CX k fI fd ps sp) (hr : Room (k + 1) X.A) (hb : Binds X.K fd ps ds) (hd : Vals dvs ds) (hx : Passes CX X (fun _ _ _ => False)) (hg : Gl X x) (hm : X.mg x = some (.ref C))
    (hdb : (x == ("__debug__" : Str)) = false := by decide) : PE X (.Call (.Name x p) [] [] pos) (tMkX C sp dvs tNil) := by
  refine ⟨fun pins s σ H Q I h => ?_⟩
  refine wpAny_Call_Name_kw (ld_glob I hg hm ?_ hdb)
  exact PySem.W.callWith_K0 I.kIn T.o.kC (run_mkx (us := []) T.o iC tI F1 hr hb hd hx I .nil h.1 h.2)
/-- isinstance(e, c), e a tracked exception -/
def rIsX (K : PySem.W.Frag) : List V → Hp → VK → Prop := fun xs H Q => ∃ (a C : Addr) (d : Option Addr) (c : V) (cv : Value) (b : Bool), xs = [.ref a, c] ∧ H a = some (exo a C d) ∧ (∀ dx, d = some dx → ∃ fs, H dx = some (exd dx fs)) ∧ XC K C ∧ (∀ u, RelV c u → u = cv) ∧ PySem.W.kitOne K (.ref C) cv = some b ∧ Q (.bl b) H
theorem exo_inst {P : Program} {w : World} {H : Hp} {h : Heap} {a C : Addr} {d : Option Addr} (hok : HOk P w H h) (e : H a = some (exo a C d)) (ed : ∀ dx, d = some dx → ∃ fs, H dx = some (exd dx fs)) : ∃ ox od, PySem.W.InstAt h a ox C od := by
  obtain ⟨t1, ho⟩ := exo_at hok e
  cases d with
  | none => exact ⟨_, none, ho, rfl, rfl, trivial⟩
  | some dx =>
    obtain ⟨fs, q⟩ := ed dx rfl
    obtain ⟨mA, hns, _⟩ := exd_at hok q
    obtain ⟨oD, _, _, hoD, _⟩ := hns
    exact ⟨_, some oD, ho, rfl, rfl, hoD⟩
theorem call_isX : CallR X (.builtin "isinstance") (rIsX X.K) := by
  intro pins s σ H xs us Q I r h
  obtain ⟨a, C, d, c, cv, b, rfl, ea, ed, T, hcv, e, q⟩ := h
  cases r with
  | cons rx rr =>
    cases rr with
    | cons rt rr =>
      cases rr
      cases rx
      have ec := hcv _ rt
      subst ec
      obtain ⟨ox, od, J⟩ := exo_inst I.hok ea ed
      exact PySem.W.kia_one (PySem.W.kitx_exc (by obtain ⟨cd, hc, _⟩ := PySem.W.any_some T.x.hd; rw [hc]; rfl) T.x.hg T.x.hk T.x.hs T.x.ha T.x.hn T.x.ht T.x.hm) I.kIn J e (fun z => nomatch z) fun tk => ⟨.bl b, H, I.kept (t' := tk) fun _ _ z => z, rfl, q⟩
/-- e.f, e a tracked exception -/
def tXv (K : PySem.W.Frag) (f : Str) (te : TE) : TE := fun σ H Q => te σ H fun x H1 => ∃ (a C d : Addr) (fs : List (Str × V)) (v : V), x = .ref a ∧ H1 a = some (exo a C (some d)) ∧ H1 d = some (exd d fs) ∧ XC K C ∧ PySem.W.findIn K (.ref C) f = some none ∧ fs.lookup f = some v ∧ Q v H1
theorem pe_xv (he : PE X e te) (hb : attributeBase e f X.env (eval e X.env) = eval e X.env := by rfl) : PE X (.Attribute e f pos) (tXv X.K f te) := by
  refine ⟨fun pins s σ H Q I h => ?_⟩
  refine attr_of hb (thn (he.run pins s σ H _ I h) fun u s1 ⟨x, H1, I1, rx, a, C, d, fs, v, ex, ea, ed, T, hno, l, q⟩ => ?_)
  subst ex
  obtain rfl : u = Value.ref a := rx
  obtain ⟨t1, ho⟩ := exo_at I1.hok ea
  obtain ⟨mA, hns, hr⟩ := exd_at I1.hok ed
  obtain ⟨od, hod, hl⟩ := lookIn_ns hns
  obtain ⟨u, hu, ru⟩ := RelO.some_of (v := v) (o := mA f) (by rw [← l]; exact hr f)
  have J : PySem.W.InstAt s1.heap a _ C (some od) := ⟨ho, rfl, rfl, hod⟩
  exact HandSPX.exc_get I1.kIn J T.x.hg T.x.hk T.x.hs (PySem.W.findObj_own T.x.hd hno rfl (by rw [hl, hu])) (handed_of ru) ⟨v, H1, I1.tok _, ru, q⟩
end
/-! ### promises of such an __init__ -/
/-- fields fs stored in their order -/
def spX (C : Addr) (fs : List Str) : Sp := fun vs H Q _ => ∃ (a : Addr) (ws : List V), vs = .ref a :: ws ∧ ws.length = fs.length ∧ H a = some (exo a C none) ∧
  ∀ (d : Addr) (H' : Hp), H d = none → d ≠ a → H' a = some (exo a C (some d)) → H' d = some (exd d (fs.zip ws).reverse) → (∀ b, b ≠ a → b ≠ d → H' b = H b) → Q .non H'
def spX0 (C : Addr) : Sp := fun vs H Q _ => ∃ a : Addr, vs = [.ref a] ∧ H a = some (exo a C none) ∧ Q .non H
end L2
set_option Elab.async false
set_option linter.all false
set_option maxRecDepth 100000
set_option maxHeartbeats 4000000
/-! The facts of the top, by names, in one place: a Hook with one Bool more; what it says (Zs), each fact a lemma. -/
namespace LY
open PySem PySem.Spec PyProof.Rows L2 He
/-- the spine of a list, ahead of what follows -/
def spine {α β : Type} : List α → (List α → β) → β
  | [], k => k []
  | x :: xs, k => spine xs fun ys => k (x :: ys)
theorem spine_eq {α β : Type} : ∀ (l : List α) (k : List α → β), spine l k = k l
  | [], k => rfl
  | x :: xs, k => spine_eq xs fun ys => k (x :: ys)
abbrev AlM : Type := AlD × Bool
def obsM (n : Nat) (fa : List Fa) (fn : List DefD) (ex : PySem.W.Frag → Bool) (g : Addr → Option Obj) : AlM := spine (cStatics :: asD g n) fun as => spine (frG g as) fun K => (obsD fa fn K, ex K)
theorem obsM_is (n : Nat) (fa : List Fa) (fn : List DefD) (ex : PySem.W.Frag → Bool) (g : Addr → Option Obj) : obsM n fa fn ex g = (obsD fa fn (frG g (cStatics :: asD g n)), ex (frG g (cStatics :: asD g n))) := by
  unfold obsM
  rw [spine_eq, spine_eq]
/-- what is said of K and the module's names -/
structure Zs (fa : List Fa) (fn : List DefD) (ex : PySem.W.Frag → Bool) (K : PySem.W.Frag) (mg : Str → Option Value) : Prop where
  at_ : ∃ h : Heap, K.In h ∧ h.Ns mainGlobals mg
  says : SaysD fa fn K
  more : ex K = true
def hookM (n : Nat) (fa : List Fa) (fn : List DefD) (ex : PySem.W.Frag → Bool) : PySem.W.Hook where
  α := AlM
  obs := fun s => obsM n fa fn ex s.heap.get?
  val := fun _ => (valD fn, true)
  says := fun _ h => ∃ K : PySem.W.Frag, K.In h ∧ SaysD fa fn K ∧ ex K = true
  of := fun _ _ e => by
    rw [obsM_is] at e
    exact ⟨_, frG_in, congrArg (fun z : AlM => z.1) e, congrArg (fun z : AlM => z.2) e⟩
  keeps := fun _ _ _ ⟨K, hK, c⟩ k => ⟨K, PySem.W.Frag.In.keeps hK k, c⟩
theorem obsM_eq {n : Nat} {fa : List Fa} {fn : List DefD} {ex : PySem.W.Frag → Bool} {g : Addr → Option Obj} {s : Shared} (h : ∀ a, g a = s.heap.get? a) : obsM n fa fn ex g = (hookM n fa fn ex).obs s := by
  have e : g = s.heap.get? := funext h
  rw [e] <;> rfl
def fdOf (K : PySem.W.Frag) (p : Str × Option Str) : FuncData := match K.lookup (fAd K p) with
  | some ⟨_, _, .func fd, _⟩ => fd
  | _ => PySem.W.fnOf "" "" ⟨[], [], none, [], [], none, []⟩ [] ⟨.function, [], false, false, []⟩ .none .none .none .none none .none .none
section
variable {fa : List Fa} {fn : List DefD} {ex : PySem.W.Frag → Bool} {K : PySem.W.Frag} {mg : Str → Option Value}
theorem Zs.glo (z : Zs fa fn ex K mg) (i : Nat) {x : Str} (h : fa[i]? = some (.glo x)) : mg x = some (.ref (ga K x)) :=
  let ⟨_, X, G⟩ := z.at_
  glo_ok X G (z.says.fact i h)
theorem Zs.free (z : Zs fa fn ex K mg) (i : Nat) {x : Str} (h : fa[i]? = some (.free x)) : mg x = none :=
  let ⟨_, X, G⟩ := z.at_
  free_ok X G (z.says.fact i h)
theorem Zs.int (z : Zs fa fn ex K mg) (i : Nat) {x : Str} {n : Int} (h : fa[i]? = some (.int x n)) : ∃ t, mg x = some (.int n t) :=
  let ⟨_, X, G⟩ := z.at_
  int_ok X G (z.says.fact i h)
theorem Zs.str (z : Zs fa fn ex K mg) (i : Nat) {x n : Str} (h : fa[i]? = some (.str x n)) : ∃ t, mg x = some (.str n t) :=
  let ⟨_, X, G⟩ := z.at_
  str_ok X G (z.says.fact i h)
theorem Zs.cls (z : Zs fa fn ex K mg) (i : Nat) {x : Str} (h : fa[i]? = some (.cls x)) : Cls K (ga K x) := cls_ok (z.says.fact i h)
theorem Zs.noat (z : Zs fa fn ex K mg) (i : Nat) {x f : Str} (h : fa[i]? = some (.noat x f)) : NoAttr K (ga K x) f := noat_ok (z.says.fact i h)
theorem Zs.meth (z : Zs fa fn ex K mg) (i : Nat) {x m : Str} (h : fa[i]? = some (.meth x m)) : Meth K (ga K x) m (ma K (ga K x) m) := meth_ok (z.says.fact i h)
theorem Zs.mkr (z : Zs fa fn ex K mg) (i : Nat) {x : Str} (h : fa[i]? = some (.mkr x)) : Mk K (ga K x) (ma K (ga K x) "__init__") := mkr_ok (z.says.fact i h)
theorem Zs.def_ (z : Zs fa fn ex K mg) (i : Nat) {d : DefD} (h : fn[i]? = some d) : FunD K d.name d.qual d.params d.body d.scope (d.dvs K) (d.kws K) (fAd K d.at_) (fdOf K d.at_) := by
  obtain ⟨fd, F⟩ := z.says.def_ i h
  have e : fdOf K d.at_ = fd := by
    obtain ⟨oc, od, dV, kV, doc, pm, an, cdv, ct, osl, _, lk, _⟩ := F.ex
    unfold fdOf
    rw [lk]
  rw [e]
  exact F
end
end LY
set_option Elab.async false
set_option linter.all false
set_option maxRecDepth 100000
set_option maxHeartbeats 0
namespace K92
open PySem PySem.Spec PyProof.Rows L2 LY
def top (i : Nat) : Stmt := PySem.Challenge.pw_cutscribe_k92_errors_made.main.body.getD i (.Pass ⟨0, 0, 0, 0⟩)
abbrev s_InvalidText__init__ : Stmt := (inClass (top 2) 0)
def d_InvalidText__init__ : He.DefD := ⟨("InvalidText", some "__init__"), "__init__", "InvalidText.__init__", defArgs s_InvalidText__init__, defBody s_InvalidText__init__, defScope s_InvalidText__init__, [], []⟩
abbrev s_InvalidLexer__init__ : Stmt := (inClass (top 3) 0)
def d_InvalidLexer__init__ : He.DefD := ⟨("InvalidLexer", some "__init__"), "__init__", "InvalidLexer.__init__", defArgs s_InvalidLexer__init__, defBody s_InvalidLexer__init__, defScope s_InvalidLexer__init__, [], []⟩
abbrev s_TooLarge__init__ : Stmt := (inClass (top 4) 0)
def d_TooLarge__init__ : He.DefD := ⟨("TooLarge", some "__init__"), "__init__", "TooLarge.__init__", defArgs s_TooLarge__init__, defBody s_TooLarge__init__, defScope s_TooLarge__init__, [], []⟩
abbrev s_UnknownMode__init__ : Stmt := (inClass (top 5) 0)
def d_UnknownMode__init__ : He.DefD := ⟨("UnknownMode", some "__init__"), "__init__", "UnknownMode.__init__", defArgs s_UnknownMode__init__, defBody s_UnknownMode__init__, defScope s_UnknownMode__init__, [], []⟩
abbrev s_UnknownRule__init__ : Stmt := (inClass (top 6) 0)
def d_UnknownRule__init__ : He.DefD := ⟨("UnknownRule", some "__init__"), "__init__", "UnknownRule.__init__", defArgs s_UnknownRule__init__, defBody s_UnknownRule__init__, defScope s_UnknownRule__init__, [], []⟩
abbrev s_Finished__init__ : Stmt := (inClass (top 7) 0)
def d_Finished__init__ : He.DefD := ⟨("Finished", some "__init__"), "__init__", "Finished.__init__", defArgs s_Finished__init__, defBody s_Finished__init__, defScope s_Finished__init__, [], []⟩
abbrev s_InvalidRange__init__ : Stmt := (inClass (top 8) 0)
def d_InvalidRange__init__ : He.DefD := ⟨("InvalidRange", some "__init__"), "__init__", "InvalidRange.__init__", defArgs s_InvalidRange__init__, defBody s_InvalidRange__init__, defScope s_InvalidRange__init__, [], []⟩
abbrev s_TooLong__init__ : Stmt := (inClass (top 9) 0)
def d_TooLong__init__ : He.DefD := ⟨("TooLong", some "__init__"), "__init__", "TooLong.__init__", defArgs s_TooLong__init__, defBody s_TooLong__init__, defScope s_TooLong__init__, [], []⟩
abbrev s_NotFlat__init__ : Stmt := (inClass (top 10) 0)
def d_NotFlat__init__ : He.DefD := ⟨("NotFlat", some "__init__"), "__init__", "NotFlat.__init__", defArgs s_NotFlat__init__, defBody s_NotFlat__init__, defScope s_NotFlat__init__, [], []⟩
abbrev s_AlphabetMismatch__init__ : Stmt := (inClass (top 11) 0)
def d_AlphabetMismatch__init__ : He.DefD := ⟨("AlphabetMismatch", some "__init__"), "__init__", "AlphabetMismatch.__init__", defArgs s_AlphabetMismatch__init__, defBody s_AlphabetMismatch__init__, defScope s_AlphabetMismatch__init__, [], []⟩
abbrev s_InvalidWord__init__ : Stmt := (inClass (top 12) 0)
def d_InvalidWord__init__ : He.DefD := ⟨("InvalidWord", some "__init__"), "__init__", "InvalidWord.__init__", defArgs s_InvalidWord__init__, defBody s_InvalidWord__init__, defScope s_InvalidWord__init__, [], []⟩
abbrev s_InvalidNotation__init__ : Stmt := (inClass (top 13) 0)
def d_InvalidNotation__init__ : He.DefD := ⟨("InvalidNotation", some "__init__"), "__init__", "InvalidNotation.__init__", defArgs s_InvalidNotation__init__, defBody s_InvalidNotation__init__, defScope s_InvalidNotation__init__, [], []⟩
abbrev s_InvalidName__init__ : Stmt := (inClass (top 14) 0)
def d_InvalidName__init__ : He.DefD := ⟨("InvalidName", some "__init__"), "__init__", "InvalidName.__init__", defArgs s_InvalidName__init__, defBody s_InvalidName__init__, defScope s_InvalidName__init__, [], []⟩
abbrev s_Incompatible__init__ : Stmt := (inClass (top 15) 0)
def d_Incompatible__init__ : He.DefD := ⟨("Incompatible", some "__init__"), "__init__", "Incompatible.__init__", defArgs s_Incompatible__init__, defBody s_Incompatible__init__, defScope s_Incompatible__init__, [], []⟩
abbrev s_UnknownName__init__ : Stmt := (inClass (top 16) 0)
def d_UnknownName__init__ : He.DefD := ⟨("UnknownName", some "__init__"), "__init__", "UnknownName.__init__", defArgs s_UnknownName__init__, defBody s_UnknownName__init__, defScope s_UnknownName__init__, [], []⟩
abbrev s_InUse__init__ : Stmt := (inClass (top 17) 0)
def d_InUse__init__ : He.DefD := ⟨("InUse", some "__init__"), "__init__", "InUse.__init__", defArgs s_InUse__init__, defBody s_InUse__init__, defScope s_InUse__init__, [], []⟩
abbrev s_NameInUse__init__ : Stmt := (inClass (top 18) 0)
def d_NameInUse__init__ : He.DefD := ⟨("NameInUse", some "__init__"), "__init__", "NameInUse.__init__", defArgs s_NameInUse__init__, defBody s_NameInUse__init__, defScope s_NameInUse__init__, [], []⟩
abbrev s_NothingToUndo__init__ : Stmt := (inClass (top 19) 0)
def d_NothingToUndo__init__ : He.DefD := ⟨("NothingToUndo", some "__init__"), "__init__", "NothingToUndo.__init__", defArgs s_NothingToUndo__init__, defBody s_NothingToUndo__init__, defScope s_NothingToUndo__init__, [], []⟩
abbrev s_NothingToRedo__init__ : Stmt := (inClass (top 20) 0)
def d_NothingToRedo__init__ : He.DefD := ⟨("NothingToRedo", some "__init__"), "__init__", "NothingToRedo.__init__", defArgs s_NothingToRedo__init__, defBody s_NothingToRedo__init__, defScope s_NothingToRedo__init__, [], []⟩
abbrev s__law_source : Stmt := (top 22)
def d__law_source : He.DefD := ⟨("_law_source", none), "_law_source", "_law_source", defArgs s__law_source, defBody s__law_source, defScope s__law_source, [], []⟩
abbrev s__law_draw : Stmt := (top 23)
def d__law_draw : He.DefD := ⟨("_law_draw", none), "_law_draw", "_law_draw", defArgs s__law_draw, defBody s__law_draw, defScope s__law_draw, [], []⟩
abbrev s__law_value : Stmt := (top 24)
def d__law_value : He.DefD := ⟨("_law_value", none), "_law_value", "_law_value", defArgs s__law_value, defBody s__law_value, defScope s__law_value, [], []⟩
abbrev s__law_classes : Stmt := (top 25)
def d__law_classes : He.DefD := ⟨("_law_classes", none), "_law_classes", "_law_classes", defArgs s__law_classes, defBody s__law_classes, defScope s__law_classes, [], []⟩
abbrev s__law_made : Stmt := (top 26)
def d__law_made : He.DefD := ⟨("_law_made", none), "_law_made", "_law_made", defArgs s__law_made, defBody s__law_made, defScope s__law_made, [], []⟩
abbrev s_law : Stmt := (top 27)
def d_law : He.DefD := ⟨("law", none), "law", "law", defArgs s_law, defBody s_law, defScope s_law, [], []⟩
def fn : List He.DefD := [d_InvalidText__init__, d_InvalidLexer__init__, d_TooLarge__init__, d_UnknownMode__init__, d_UnknownRule__init__, d_Finished__init__, d_InvalidRange__init__, d_TooLong__init__, d_NotFlat__init__, d_AlphabetMismatch__init__, d_InvalidWord__init__, d_InvalidNotation__init__, d_InvalidName__init__, d_Incompatible__init__, d_UnknownName__init__, d_InUse__init__, d_NameInUse__init__, d_NothingToUndo__init__, d_NothingToRedo__init__, d__law_source, d__law_draw, d__law_value, d__law_classes, d__law_made, d_law]
def fa : List He.Fa := [.glo "CutError", .glo "InvalidText", .glo "InvalidLexer", .glo "TooLarge", .glo "UnknownMode", .glo "UnknownRule", .glo "Finished", .glo "InvalidRange", .glo "TooLong", .glo "NotFlat", .glo "AlphabetMismatch", .glo "InvalidWord", .glo "InvalidNotation", .glo "InvalidName", .glo "Incompatible", .glo "UnknownName", .glo "InUse", .glo "NameInUse", .glo "NothingToUndo", .glo "NothingToRedo", .glo "_law_source", .glo "_law_draw", .glo "_law_value", .glo "_law_classes", .glo "_law_made", .glo "law", .free "len", .free "isinstance", .free "range", .free "ValueError", .free "bool", .free "tuple", .meth "InvalidText" "__init__", .noat "InvalidText" "position", .meth "InvalidLexer" "__init__", .noat "InvalidLexer" "reason", .noat "InvalidLexer" "mode", .noat "InvalidLexer" "rule", .meth "TooLarge" "__init__", .noat "TooLarge" "what", .meth "UnknownMode" "__init__", .noat "UnknownMode" "name", .meth "UnknownRule" "__init__", .noat "UnknownRule" "name", .meth "Finished" "__init__", .meth "InvalidRange" "__init__", .noat "InvalidRange" "position", .meth "TooLong" "__init__", .noat "TooLong" "length", .meth "NotFlat" "__init__", .meth "AlphabetMismatch" "__init__", .meth "InvalidWord" "__init__", .noat "InvalidWord" "index", .meth "InvalidNotation" "__init__", .noat "InvalidNotation" "index", .meth "InvalidName" "__init__", .noat "InvalidName" "name", .meth "Incompatible" "__init__", .noat "Incompatible" "document", .meth "UnknownName" "__init__", .noat "UnknownName" "name", .meth "InUse" "__init__", .noat "InUse" "document", .meth "NameInUse" "__init__", .noat "NameInUse" "document", .meth "NothingToUndo" "__init__", .meth "NothingToRedo" "__init__"]
def cls19 : List Str := [("InvalidText" : Str), ("InvalidLexer" : Str), ("TooLarge" : Str), ("UnknownMode" : Str), ("UnknownRule" : Str), ("Finished" : Str), ("InvalidRange" : Str), ("TooLong" : Str), ("NotFlat" : Str), ("AlphabetMismatch" : Str), ("InvalidWord" : Str), ("InvalidNotation" : Str), ("InvalidName" : Str), ("Incompatible" : Str), ("UnknownName" : Str), ("InUse" : Str), ("NameInUse" : Str), ("NothingToUndo" : Str), ("NothingToRedo" : Str)]
def cn (i : Nat) : Str := cls19.getD i ("" : Str)
def kitB (K : PySem.W.Frag) : Bool := (List.range 19).all fun i => decide (PySem.W.kitOne K (.ref (He.ga K (cn i))) (.ref (He.ga K "CutError")) = some true) && (decide (PySem.W.kitOne K (.ref (He.ga K (cn i))) (.type "ValueError") = some true) && (List.range 19).all fun j => decide (PySem.W.kitOne K (.ref (He.ga K (cn i))) (.ref (He.ga K (cn j))) = some (decide (i = j))))
def ex (K : PySem.W.Frag) : Bool := xbB K (He.ga K "CutError") && (cls19.all (fun c => xcB K (He.ga K c)) && kitB K)
abbrev Z := Zs fa fn ex
section
variable {K : PySem.W.Frag} {mg : Str → Option Value}
theorem g_CutError (z : Z K mg) : mg ("CutError" : Str) = some (.ref (He.ga K ("CutError" : Str))) := z.glo 0 rfl
theorem g_InvalidText (z : Z K mg) : mg ("InvalidText" : Str) = some (.ref (He.ga K ("InvalidText" : Str))) := z.glo 1 rfl
theorem g_InvalidLexer (z : Z K mg) : mg ("InvalidLexer" : Str) = some (.ref (He.ga K ("InvalidLexer" : Str))) := z.glo 2 rfl
theorem g_TooLarge (z : Z K mg) : mg ("TooLarge" : Str) = some (.ref (He.ga K ("TooLarge" : Str))) := z.glo 3 rfl
theorem g_UnknownMode (z : Z K mg) : mg ("UnknownMode" : Str) = some (.ref (He.ga K ("UnknownMode" : Str))) := z.glo 4 rfl
theorem g_UnknownRule (z : Z K mg) : mg ("UnknownRule" : Str) = some (.ref (He.ga K ("UnknownRule" : Str))) := z.glo 5 rfl
theorem g_Finished (z : Z K mg) : mg ("Finished" : Str) = some (.ref (He.ga K ("Finished" : Str))) := z.glo 6 rfl
theorem g_InvalidRange (z : Z K mg) : mg ("InvalidRange" : Str) = some (.ref (He.ga K ("InvalidRange" : Str))) := z.glo 7 rfl
theorem g_TooLong (z : Z K mg) : mg ("TooLong" : Str) = some (.ref (He.ga K ("TooLong" : Str))) := z.glo 8 rfl
theorem g_NotFlat (z : Z K mg) : mg ("NotFlat" : Str) = some (.ref (He.ga K ("NotFlat" : Str))) := z.glo 9 rfl
theorem g_AlphabetMismatch (z : Z K mg) : mg ("AlphabetMismatch" : Str) = some (.ref (He.ga K ("AlphabetMismatch" : Str))) := z.glo 10 rfl
theorem g_InvalidWord (z : Z K mg) : mg ("InvalidWord" : Str) = some (.ref (He.ga K ("InvalidWord" : Str))) := z.glo 11 rfl
theorem g_InvalidNotation (z : Z K mg) : mg ("InvalidNotation" : Str) = some (.ref (He.ga K ("InvalidNotation" : Str))) := z.glo 12 rfl
theorem g_InvalidName (z : Z K mg) : mg ("InvalidName" : Str) = some (.ref (He.ga K ("InvalidName" : Str))) := z.glo 13 rfl
theorem g_Incompatible (z : Z K mg) : mg ("Incompatible" : Str) = some (.ref (He.ga K ("Incompatible" : Str))) := z.glo 14 rfl
theorem g_UnknownName (z : Z K mg) : mg ("UnknownName" : Str) = some (.ref (He.ga K ("UnknownName" : Str))) := z.glo 15 rfl
theorem g_InUse (z : Z K mg) : mg ("InUse" : Str) = some (.ref (He.ga K ("InUse" : Str))) := z.glo 16 rfl
theorem g_NameInUse (z : Z K mg) : mg ("NameInUse" : Str) = some (.ref (He.ga K ("NameInUse" : Str))) := z.glo 17 rfl
theorem g_NothingToUndo (z : Z K mg) : mg ("NothingToUndo" : Str) = some (.ref (He.ga K ("NothingToUndo" : Str))) := z.glo 18 rfl
theorem g_NothingToRedo (z : Z K mg) : mg ("NothingToRedo" : Str) = some (.ref (He.ga K ("NothingToRedo" : Str))) := z.glo 19 rfl
theorem g__law_source (z : Z K mg) : mg ("_law_source" : Str) = some (.ref (He.ga K ("_law_source" : Str))) := z.glo 20 rfl
theorem g__law_draw (z : Z K mg) : mg ("_law_draw" : Str) = some (.ref (He.ga K ("_law_draw" : Str))) := z.glo 21 rfl
theorem g__law_value (z : Z K mg) : mg ("_law_value" : Str) = some (.ref (He.ga K ("_law_value" : Str))) := z.glo 22 rfl
theorem g__law_classes (z : Z K mg) : mg ("_law_classes" : Str) = some (.ref (He.ga K ("_law_classes" : Str))) := z.glo 23 rfl
theorem g__law_made (z : Z K mg) : mg ("_law_made" : Str) = some (.ref (He.ga K ("_law_made" : Str))) := z.glo 24 rfl
theorem g_law (z : Z K mg) : mg ("law" : Str) = some (.ref (He.ga K ("law" : Str))) := z.glo 25 rfl
theorem n_len (z : Z K mg) : mg ("len" : Str) = none := z.free 26 rfl
theorem n_isinstance (z : Z K mg) : mg ("isinstance" : Str) = none := z.free 27 rfl
theorem n_range (z : Z K mg) : mg ("range" : Str) = none := z.free 28 rfl
theorem n_ValueError (z : Z K mg) : mg ("ValueError" : Str) = none := z.free 29 rfl
theorem n_bool (z : Z K mg) : mg ("bool" : Str) = none := z.free 30 rfl
theorem n_tuple (z : Z K mg) : mg ("tuple" : Str) = none := z.free 31 rfl
theorem m_InvalidText (z : Z K mg) : Meth K (He.ga K ("InvalidText" : Str)) ("__init__" : Str) (He.ma K (He.ga K ("InvalidText" : Str)) ("__init__" : Str)) := z.meth 32 rfl
theorem a_InvalidText_position (z : Z K mg) : NoAttr K (He.ga K ("InvalidText" : Str)) ("position" : Str) := z.noat 33 rfl
theorem m_InvalidLexer (z : Z K mg) : Meth K (He.ga K ("InvalidLexer" : Str)) ("__init__" : Str) (He.ma K (He.ga K ("InvalidLexer" : Str)) ("__init__" : Str)) := z.meth 34 rfl
theorem a_InvalidLexer_reason (z : Z K mg) : NoAttr K (He.ga K ("InvalidLexer" : Str)) ("reason" : Str) := z.noat 35 rfl
theorem a_InvalidLexer_mode (z : Z K mg) : NoAttr K (He.ga K ("InvalidLexer" : Str)) ("mode" : Str) := z.noat 36 rfl
theorem a_InvalidLexer_rule (z : Z K mg) : NoAttr K (He.ga K ("InvalidLexer" : Str)) ("rule" : Str) := z.noat 37 rfl
theorem m_TooLarge (z : Z K mg) : Meth K (He.ga K ("TooLarge" : Str)) ("__init__" : Str) (He.ma K (He.ga K ("TooLarge" : Str)) ("__init__" : Str)) := z.meth 38 rfl
theorem a_TooLarge_what (z : Z K mg) : NoAttr K (He.ga K ("TooLarge" : Str)) ("what" : Str) := z.noat 39 rfl
theorem m_UnknownMode (z : Z K mg) : Meth K (He.ga K ("UnknownMode" : Str)) ("__init__" : Str) (He.ma K (He.ga K ("UnknownMode" : Str)) ("__init__" : Str)) := z.meth 40 rfl
theorem a_UnknownMode_name (z : Z K mg) : NoAttr K (He.ga K ("UnknownMode" : Str)) ("name" : Str) := z.noat 41 rfl
theorem m_UnknownRule (z : Z K mg) : Meth K (He.ga K ("UnknownRule" : Str)) ("__init__" : Str) (He.ma K (He.ga K ("UnknownRule" : Str)) ("__init__" : Str)) := z.meth 42 rfl
theorem a_UnknownRule_name (z : Z K mg) : NoAttr K (He.ga K ("UnknownRule" : Str)) ("name" : Str) := z.noat 43 rfl
theorem m_Finished (z : Z K mg) : Meth K (He.ga K ("Finished" : Str)) ("__init__" : Str) (He.ma K (He.ga K ("Finished" : Str)) ("__init__" : Str)) := z.meth 44 rfl
theorem m_InvalidRange (z : Z K mg) : Meth K (He.ga K ("InvalidRange" : Str)) ("__init__" : Str) (He.ma K (He.ga K ("InvalidRange" : Str)) ("__init__" : Str)) := z.meth 45 rfl
theorem a_InvalidRange_position (z : Z K mg) : NoAttr K (He.ga K ("InvalidRange" : Str)) ("position" : Str) := z.noat 46 rfl
theorem m_TooLong (z : Z K mg) : Meth K (He.ga K ("TooLong" : Str)) ("__init__" : Str) (He.ma K (He.ga K ("TooLong" : Str)) ("__init__" : Str)) := z.meth 47 rfl
theorem a_TooLong_length (z : Z K mg) : NoAttr K (He.ga K ("TooLong" : Str)) ("length" : Str) := z.noat 48 rfl
theorem m_NotFlat (z : Z K mg) : Meth K (He.ga K ("NotFlat" : Str)) ("__init__" : Str) (He.ma K (He.ga K ("NotFlat" : Str)) ("__init__" : Str)) := z.meth 49 rfl
theorem m_AlphabetMismatch (z : Z K mg) : Meth K (He.ga K ("AlphabetMismatch" : Str)) ("__init__" : Str) (He.ma K (He.ga K ("AlphabetMismatch" : Str)) ("__init__" : Str)) := z.meth 50 rfl
theorem m_InvalidWord (z : Z K mg) : Meth K (He.ga K ("InvalidWord" : Str)) ("__init__" : Str) (He.ma K (He.ga K ("InvalidWord" : Str)) ("__init__" : Str)) := z.meth 51 rfl
theorem a_InvalidWord_index (z : Z K mg) : NoAttr K (He.ga K ("InvalidWord" : Str)) ("index" : Str) := z.noat 52 rfl
theorem m_InvalidNotation (z : Z K mg) : Meth K (He.ga K ("InvalidNotation" : Str)) ("__init__" : Str) (He.ma K (He.ga K ("InvalidNotation" : Str)) ("__init__" : Str)) := z.meth 53 rfl
theorem a_InvalidNotation_index (z : Z K mg) : NoAttr K (He.ga K ("InvalidNotation" : Str)) ("index" : Str) := z.noat 54 rfl
theorem m_InvalidName (z : Z K mg) : Meth K (He.ga K ("InvalidName" : Str)) ("__init__" : Str) (He.ma K (He.ga K ("InvalidName" : Str)) ("__init__" : Str)) := z.meth 55 rfl
theorem a_InvalidName_name (z : Z K mg) : NoAttr K (He.ga K ("InvalidName" : Str)) ("name" : Str) := z.noat 56 rfl
theorem m_Incompatible (z : Z K mg) : Meth K (He.ga K ("Incompatible" : Str)) ("__init__" : Str) (He.ma K (He.ga K ("Incompatible" : Str)) ("__init__" : Str)) := z.meth 57 rfl
theorem a_Incompatible_document (z : Z K mg) : NoAttr K (He.ga K ("Incompatible" : Str)) ("document" : Str) := z.noat 58 rfl
theorem m_UnknownName (z : Z K mg) : Meth K (He.ga K ("UnknownName" : Str)) ("__init__" : Str) (He.ma K (He.ga K ("UnknownName" : Str)) ("__init__" : Str)) := z.meth 59 rfl
theorem a_UnknownName_name (z : Z K mg) : NoAttr K (He.ga K ("UnknownName" : Str)) ("name" : Str) := z.noat 60 rfl
theorem m_InUse (z : Z K mg) : Meth K (He.ga K ("InUse" : Str)) ("__init__" : Str) (He.ma K (He.ga K ("InUse" : Str)) ("__init__" : Str)) := z.meth 61 rfl
theorem a_InUse_document (z : Z K mg) : NoAttr K (He.ga K ("InUse" : Str)) ("document" : Str) := z.noat 62 rfl
theorem m_NameInUse (z : Z K mg) : Meth K (He.ga K ("NameInUse" : Str)) ("__init__" : Str) (He.ma K (He.ga K ("NameInUse" : Str)) ("__init__" : Str)) := z.meth 63 rfl
theorem a_NameInUse_document (z : Z K mg) : NoAttr K (He.ga K ("NameInUse" : Str)) ("document" : Str) := z.noat 64 rfl
theorem m_NothingToUndo (z : Z K mg) : Meth K (He.ga K ("NothingToUndo" : Str)) ("__init__" : Str) (He.ma K (He.ga K ("NothingToUndo" : Str)) ("__init__" : Str)) := z.meth 65 rfl
theorem m_NothingToRedo (z : Z K mg) : Meth K (He.ga K ("NothingToRedo" : Str)) ("__init__" : Str) (He.ma K (He.ga K ("NothingToRedo" : Str)) ("__init__" : Str)) := z.meth 66 rfl
theorem f_InvalidText__init__ (z : Z K mg) : FunD K "__init__" "InvalidText.__init__" (defArgs s_InvalidText__init__) (defBody s_InvalidText__init__) (defScope s_InvalidText__init__) [] [] (He.fAd K ("InvalidText", some "__init__")) (fdOf K ("InvalidText", some "__init__")) := z.def_ 0 rfl
theorem f_InvalidLexer__init__ (z : Z K mg) : FunD K "__init__" "InvalidLexer.__init__" (defArgs s_InvalidLexer__init__) (defBody s_InvalidLexer__init__) (defScope s_InvalidLexer__init__) [] [] (He.fAd K ("InvalidLexer", some "__init__")) (fdOf K ("InvalidLexer", some "__init__")) := z.def_ 1 rfl
theorem f_TooLarge__init__ (z : Z K mg) : FunD K "__init__" "TooLarge.__init__" (defArgs s_TooLarge__init__) (defBody s_TooLarge__init__) (defScope s_TooLarge__init__) [] [] (He.fAd K ("TooLarge", some "__init__")) (fdOf K ("TooLarge", some "__init__")) := z.def_ 2 rfl
theorem f_UnknownMode__init__ (z : Z K mg) : FunD K "__init__" "UnknownMode.__init__" (defArgs s_UnknownMode__init__) (defBody s_UnknownMode__init__) (defScope s_UnknownMode__init__) [] [] (He.fAd K ("UnknownMode", some "__init__")) (fdOf K ("UnknownMode", some "__init__")) := z.def_ 3 rfl
theorem f_UnknownRule__init__ (z : Z K mg) : FunD K "__init__" "UnknownRule.__init__" (defArgs s_UnknownRule__init__) (defBody s_UnknownRule__init__) (defScope s_UnknownRule__init__) [] [] (He.fAd K ("UnknownRule", some "__init__")) (fdOf K ("UnknownRule", some "__init__")) := z.def_ 4 rfl
theorem f_Finished__init__ (z : Z K mg) : FunD K "__init__" "Finished.__init__" (defArgs s_Finished__init__) (defBody s_Finished__init__) (defScope s_Finished__init__) [] [] (He.fAd K ("Finished", some "__init__")) (fdOf K ("Finished", some "__init__")) := z.def_ 5 rfl
theorem f_InvalidRange__init__ (z : Z K mg) : FunD K "__init__" "InvalidRange.__init__" (defArgs s_InvalidRange__init__) (defBody s_InvalidRange__init__) (defScope s_InvalidRange__init__) [] [] (He.fAd K ("InvalidRange", some "__init__")) (fdOf K ("InvalidRange", some "__init__")) := z.def_ 6 rfl
theorem f_TooLong__init__ (z : Z K mg) : FunD K "__init__" "TooLong.__init__" (defArgs s_TooLong__init__) (defBody s_TooLong__init__) (defScope s_TooLong__init__) [] [] (He.fAd K ("TooLong", some "__init__")) (fdOf K ("TooLong", some "__init__")) := z.def_ 7 rfl
theorem f_NotFlat__init__ (z : Z K mg) : FunD K "__init__" "NotFlat.__init__" (defArgs s_NotFlat__init__) (defBody s_NotFlat__init__) (defScope s_NotFlat__init__) [] [] (He.fAd K ("NotFlat", some "__init__")) (fdOf K ("NotFlat", some "__init__")) := z.def_ 8 rfl
theorem f_AlphabetMismatch__init__ (z : Z K mg) : FunD K "__init__" "AlphabetMismatch.__init__" (defArgs s_AlphabetMismatch__init__) (defBody s_AlphabetMismatch__init__) (defScope s_AlphabetMismatch__init__) [] [] (He.fAd K ("AlphabetMismatch", some "__init__")) (fdOf K ("AlphabetMismatch", some "__init__")) := z.def_ 9 rfl
theorem f_InvalidWord__init__ (z : Z K mg) : FunD K "__init__" "InvalidWord.__init__" (defArgs s_InvalidWord__init__) (defBody s_InvalidWord__init__) (defScope s_InvalidWord__init__) [] [] (He.fAd K ("InvalidWord", some "__init__")) (fdOf K ("InvalidWord", some "__init__")) := z.def_ 10 rfl
theorem f_InvalidNotation__init__ (z : Z K mg) : FunD K "__init__" "InvalidNotation.__init__" (defArgs s_InvalidNotation__init__) (defBody s_InvalidNotation__init__) (defScope s_InvalidNotation__init__) [] [] (He.fAd K ("InvalidNotation", some "__init__")) (fdOf K ("InvalidNotation", some "__init__")) := z.def_ 11 rfl
theorem f_InvalidName__init__ (z : Z K mg) : FunD K "__init__" "InvalidName.__init__" (defArgs s_InvalidName__init__) (defBody s_InvalidName__init__) (defScope s_InvalidName__init__) [] [] (He.fAd K ("InvalidName", some "__init__")) (fdOf K ("InvalidName", some "__init__")) := z.def_ 12 rfl
theorem f_Incompatible__init__ (z : Z K mg) : FunD K "__init__" "Incompatible.__init__" (defArgs s_Incompatible__init__) (defBody s_Incompatible__init__) (defScope s_Incompatible__init__) [] [] (He.fAd K ("Incompatible", some "__init__")) (fdOf K ("Incompatible", some "__init__")) := z.def_ 13 rfl
theorem f_UnknownName__init__ (z : Z K mg) : FunD K "__init__" "UnknownName.__init__" (defArgs s_UnknownName__init__) (defBody s_UnknownName__init__) (defScope s_UnknownName__init__) [] [] (He.fAd K ("UnknownName", some "__init__")) (fdOf K ("UnknownName", some "__init__")) := z.def_ 14 rfl
theorem f_InUse__init__ (z : Z K mg) : FunD K "__init__" "InUse.__init__" (defArgs s_InUse__init__) (defBody s_InUse__init__) (defScope s_InUse__init__) [] [] (He.fAd K ("InUse", some "__init__")) (fdOf K ("InUse", some "__init__")) := z.def_ 15 rfl
theorem f_NameInUse__init__ (z : Z K mg) : FunD K "__init__" "NameInUse.__init__" (defArgs s_NameInUse__init__) (defBody s_NameInUse__init__) (defScope s_NameInUse__init__) [] [] (He.fAd K ("NameInUse", some "__init__")) (fdOf K ("NameInUse", some "__init__")) := z.def_ 16 rfl
theorem f_NothingToUndo__init__ (z : Z K mg) : FunD K "__init__" "NothingToUndo.__init__" (defArgs s_NothingToUndo__init__) (defBody s_NothingToUndo__init__) (defScope s_NothingToUndo__init__) [] [] (He.fAd K ("NothingToUndo", some "__init__")) (fdOf K ("NothingToUndo", some "__init__")) := z.def_ 17 rfl
theorem f_NothingToRedo__init__ (z : Z K mg) : FunD K "__init__" "NothingToRedo.__init__" (defArgs s_NothingToRedo__init__) (defBody s_NothingToRedo__init__) (defScope s_NothingToRedo__init__) [] [] (He.fAd K ("NothingToRedo", some "__init__")) (fdOf K ("NothingToRedo", some "__init__")) := z.def_ 18 rfl
theorem f__law_source (z : Z K mg) : FunD K "_law_source" "_law_source" (defArgs s__law_source) (defBody s__law_source) (defScope s__law_source) [] [] (He.fAd K ("_law_source", none)) (fdOf K ("_law_source", none)) := z.def_ 19 rfl
theorem f__law_draw (z : Z K mg) : FunD K "_law_draw" "_law_draw" (defArgs s__law_draw) (defBody s__law_draw) (defScope s__law_draw) [] [] (He.fAd K ("_law_draw", none)) (fdOf K ("_law_draw", none)) := z.def_ 20 rfl
theorem f__law_value (z : Z K mg) : FunD K "_law_value" "_law_value" (defArgs s__law_value) (defBody s__law_value) (defScope s__law_value) [] [] (He.fAd K ("_law_value", none)) (fdOf K ("_law_value", none)) := z.def_ 21 rfl
theorem f__law_classes (z : Z K mg) : FunD K "_law_classes" "_law_classes" (defArgs s__law_classes) (defBody s__law_classes) (defScope s__law_classes) [] [] (He.fAd K ("_law_classes", none)) (fdOf K ("_law_classes", none)) := z.def_ 22 rfl
theorem f__law_made (z : Z K mg) : FunD K "_law_made" "_law_made" (defArgs s__law_made) (defBody s__law_made) (defScope s__law_made) [] [] (He.fAd K ("_law_made", none)) (fdOf K ("_law_made", none)) := z.def_ 23 rfl
theorem f_law (z : Z K mg) : FunD K "law" "law" (defArgs s_law) (defBody s_law) (defScope s_law) [] [] (He.fAd K ("law", none)) (fdOf K ("law", none)) := z.def_ 24 rfl
end
end K92
set_option Elab.async false
set_option linter.all false
set_option maxRecDepth 100000
set_option maxHeartbeats 0
namespace K92
open PySem PySem.W PySem.Calls PyProof.Rows
abbrev R : OpenRow := OpenLaw.row PySem.Challenge.rw_cutscribe_k92_errors_made
abbrev qv : Program := view R.prog [27]
def names0 : List PySem.Str := [("CutError" : PySem.Str), ("InvalidText" : PySem.Str), ("InvalidLexer" : PySem.Str), ("TooLarge" : PySem.Str), ("UnknownMode" : PySem.Str), ("UnknownRule" : PySem.Str), ("Finished" : PySem.Str), ("InvalidRange" : PySem.Str), ("TooLong" : PySem.Str), ("NotFlat" : PySem.Str), ("AlphabetMismatch" : PySem.Str), ("InvalidWord" : PySem.Str)]
def names1 : List PySem.Str := [("InvalidNotation" : PySem.Str), ("InvalidName" : PySem.Str), ("Incompatible" : PySem.Str), ("UnknownName" : PySem.Str), ("InUse" : PySem.Str), ("NameInUse" : PySem.Str), ("NothingToUndo" : PySem.Str), ("NothingToRedo" : PySem.Str), ("_law_source" : PySem.Str), ("_law_draw" : PySem.Str), ("_law_value" : PySem.Str), ("_law_classes" : PySem.Str)]
def names2 : List PySem.Str := [("_law_made" : PySem.Str)]
def names : List PySem.Str := names0 ++ names1 ++ names2
abbrev hk : Hook := LY.hookM 5 fa fn ex
noncomputable def ob (s : SharedT) : LY.AlM := LY.obsM 5 fa fn ex (HandSHeadRun.getT s)
theorem ob_eq (s : SharedT) : ob s = hk.obs s.abs := LY.obsM_eq (HandSHeadRun.getT_eq s)
theorem run (w : World) : HandSHeadRun.RunEq R qv hk ob 100000 names w := by
  intro os
  kernel_rfl
end K92
set_option Elab.async false
set_option linter.all false
set_option maxRecDepth 100000
set_option maxHeartbeats 4000000
namespace K92
open PySem PySem.Spec PyProof.Rows L2 LY
theorem cn_ok {K : PySem.W.Frag} {mg : Str → Option Value} (z : Z K mg) {i : Nat} (h : i < 19) : XC K (He.ga K (cn i)) := by
  have h1 := (He.ba (He.ba z.more).2).1
  refine xcB_ok (List.all_eq_true.mp h1 (cn i) ?_)
  unfold cn
  rw [List.getD_eq_getElem?_getD, List.getElem?_eq_getElem (show i < cls19.length from h)]
  exact List.getElem_mem _
theorem xb_ok {K : PySem.W.Frag} {mg : Str → Option Value} (z : Z K mg) : XB K (He.ga K "CutError") := xbB_ok (He.ba z.more).1
section
variable {P : Program} {w : World} {K : PySem.W.Frag} {mg : Str → Option Value} {base : Heap}
theorem x_InvalidText (z : Z K mg) : XC K (He.ga K "InvalidText") := cn_ok z (i := 0) (by decide)
theorem sc_InvalidText__init__ : FnScope ["self", "position"] ["self", "position"] (defScope s_InvalidText__init__) := ⟨rfl, rfl, rfl, by decide +kernel, rfl, by decide +kernel, by decide +kernel⟩
theorem b_InvalidText__init__ (z : Z K mg) : Binds K (fdOf K ("InvalidText", some "__init__")) ["self", "position"] [] := (f_InvalidText__init__ z).bindsN fun _ _ _ _ _ _ us hl => match us, hl with | [_, _], _ => rfl
theorem ok_InvalidText__init__ (z : Z K mg) : FnOk P w K mg base CX0 1 (He.fAd K ("InvalidText", some "__init__")) (fdOf K ("InvalidText", some "__init__")) ["self", "position"] (spX (He.ga K "InvalidText") ["position"]) := by
  refine (f_InvalidText__init__ z).ok sc_InvalidText__init__ (fun vs H Q E h => ?_) (fun cdv A outer s H vs Q E hr h => ?_)
  · obtain ⟨a, ws, rfl, hl, _⟩ := h
    exact congrArg (· + 1) hl
  · obtain ⟨a, ws, rfl, hl, ha, k⟩ := h
    obtain ⟨w1, rfl⟩ : ∃ w1, ws = [w1] := by
      match ws, hl with
      | [w1], _ => exact ⟨w1, rfl⟩
    refine ⟨_, PSs.nox (pss_cons (ps_expr (pe_binit (xb_ok z) rfl (g_CutError z) (pa_cons (pv 0) (pa_cons pe_str pa_nil)))) (pss_one (ps_ost (pv 0) (pv 1)))), ?_⟩
    refine ⟨_, rfl, a, _, [_], rfl, by decide, (x_InvalidText z).o, ha, _, rfl, _, rfl, a, _, rfl, (x_InvalidText z).o, a_InvalidText_position z, .inl ⟨ha, fun d hd ne => ?_⟩⟩
    exact k d _ hd ne upd_same (by rw [upd_ne ne, upd_same] <;> rfl) fun b h1 h2 => by rw [upd_ne h1, upd_ne h2]
theorem x_InvalidLexer (z : Z K mg) : XC K (He.ga K "InvalidLexer") := cn_ok z (i := 1) (by decide)
theorem sc_InvalidLexer__init__ : FnScope ["self", "reason", "mode", "rule"] ["self", "reason", "mode", "rule"] (defScope s_InvalidLexer__init__) := ⟨rfl, rfl, rfl, by decide +kernel, rfl, by decide +kernel, by decide +kernel⟩
theorem b_InvalidLexer__init__ (z : Z K mg) : Binds K (fdOf K ("InvalidLexer", some "__init__")) ["self", "reason", "mode", "rule"] [] := (f_InvalidLexer__init__ z).bindsN fun _ _ _ _ _ _ us hl => match us, hl with | [_, _, _, _], _ => rfl
theorem ok_InvalidLexer__init__ (z : Z K mg) : FnOk P w K mg base CX0 1 (He.fAd K ("InvalidLexer", some "__init__")) (fdOf K ("InvalidLexer", some "__init__")) ["self", "reason", "mode", "rule"] (spX (He.ga K "InvalidLexer") ["reason", "mode", "rule"]) := by
  refine (f_InvalidLexer__init__ z).ok sc_InvalidLexer__init__ (fun vs H Q E h => ?_) (fun cdv A outer s H vs Q E hr h => ?_)
  · obtain ⟨a, ws, rfl, hl, _⟩ := h
    exact congrArg (· + 1) hl
  · obtain ⟨a, ws, rfl, hl, ha, k⟩ := h
    obtain ⟨w1, w2, w3, rfl⟩ : ∃ w1 w2 w3, ws = [w1, w2, w3] := by
      match ws, hl with
      | [w1, w2, w3], _ => exact ⟨w1, w2, w3, rfl⟩
    refine ⟨_, PSs.nox (pss_cons (ps_expr (pe_binit (xb_ok z) rfl (g_CutError z) (pa_cons (pv 0) (pa_cons pe_str pa_nil)))) (pss_cons (ps_ost (pv 0) (pv 1)) (pss_cons (ps_ost (pv 0) (pv 2)) (pss_one (ps_ost (pv 0) (pv 3)))))), ?_⟩
    refine ⟨_, rfl, a, _, [_], rfl, by decide, (x_InvalidLexer z).o, ha, _, rfl, _, rfl, a, _, rfl, (x_InvalidLexer z).o, a_InvalidLexer_reason z, .inl ⟨ha, fun d hd ne => ?_⟩⟩
    refine ⟨_, rfl, _, rfl, a, _, rfl, (x_InvalidLexer z).o, a_InvalidLexer_mode z, .inr ⟨d, _, upd_same, (by rw [upd_ne ne, upd_same]), (Nat.le_of_ble_eq_true rfl), ?_⟩⟩
    refine ⟨_, rfl, _, rfl, a, _, rfl, (x_InvalidLexer z).o, a_InvalidLexer_rule z, .inr ⟨d, _, (by rw [upd_ne ne.symm, upd_same]), upd_same, (Nat.le_of_ble_eq_true rfl), ?_⟩⟩
    exact k d _ hd ne (by rw [upd_ne ne.symm, upd_ne ne.symm, upd_same]) (by rw [upd_same] <;> rfl) fun b h1 h2 => by rw [upd_ne h2, upd_ne h2, upd_ne h1, upd_ne h2]
theorem x_TooLarge (z : Z K mg) : XC K (He.ga K "TooLarge") := cn_ok z (i := 2) (by decide)
theorem sc_TooLarge__init__ : FnScope ["self", "what"] ["self", "what"] (defScope s_TooLarge__init__) := ⟨rfl, rfl, rfl, by decide +kernel, rfl, by decide +kernel, by decide +kernel⟩
theorem b_TooLarge__init__ (z : Z K mg) : Binds K (fdOf K ("TooLarge", some "__init__")) ["self", "what"] [] := (f_TooLarge__init__ z).bindsN fun _ _ _ _ _ _ us hl => match us, hl with | [_, _], _ => rfl
theorem ok_TooLarge__init__ (z : Z K mg) : FnOk P w K mg base CX0 1 (He.fAd K ("TooLarge", some "__init__")) (fdOf K ("TooLarge", some "__init__")) ["self", "what"] (spX (He.ga K "TooLarge") ["what"]) := by
  refine (f_TooLarge__init__ z).ok sc_TooLarge__init__ (fun vs H Q E h => ?_) (fun cdv A outer s H vs Q E hr h => ?_)
  · obtain ⟨a, ws, rfl, hl, _⟩ := h
    exact congrArg (· + 1) hl
  · obtain ⟨a, ws, rfl, hl, ha, k⟩ := h
    obtain ⟨w1, rfl⟩ : ∃ w1, ws = [w1] := by
      match ws, hl with
      | [w1], _ => exact ⟨w1, rfl⟩
    refine ⟨_, PSs.nox (pss_cons (ps_expr (pe_binit (xb_ok z) rfl (g_CutError z) (pa_cons (pv 0) (pa_cons pe_str pa_nil)))) (pss_one (ps_ost (pv 0) (pv 1)))), ?_⟩
    refine ⟨_, rfl, a, _, [_], rfl, by decide, (x_TooLarge z).o, ha, _, rfl, _, rfl, a, _, rfl, (x_TooLarge z).o, a_TooLarge_what z, .inl ⟨ha, fun d hd ne => ?_⟩⟩
    exact k d _ hd ne upd_same (by rw [upd_ne ne, upd_same] <;> rfl) fun b h1 h2 => by rw [upd_ne h1, upd_ne h2]
theorem x_UnknownMode (z : Z K mg) : XC K (He.ga K "UnknownMode") := cn_ok z (i := 3) (by decide)
theorem sc_UnknownMode__init__ : FnScope ["self", "name"] ["self", "name"] (defScope s_UnknownMode__init__) := ⟨rfl, rfl, rfl, by decide +kernel, rfl, by decide +kernel, by decide +kernel⟩
theorem b_UnknownMode__init__ (z : Z K mg) : Binds K (fdOf K ("UnknownMode", some "__init__")) ["self", "name"] [] := (f_UnknownMode__init__ z).bindsN fun _ _ _ _ _ _ us hl => match us, hl with | [_, _], _ => rfl
theorem ok_UnknownMode__init__ (z : Z K mg) : FnOk P w K mg base CX0 1 (He.fAd K ("UnknownMode", some "__init__")) (fdOf K ("UnknownMode", some "__init__")) ["self", "name"] (spX (He.ga K "UnknownMode") ["name"]) := by
  refine (f_UnknownMode__init__ z).ok sc_UnknownMode__init__ (fun vs H Q E h => ?_) (fun cdv A outer s H vs Q E hr h => ?_)
  · obtain ⟨a, ws, rfl, hl, _⟩ := h
    exact congrArg (· + 1) hl
  · obtain ⟨a, ws, rfl, hl, ha, k⟩ := h
    obtain ⟨w1, rfl⟩ : ∃ w1, ws = [w1] := by
      match ws, hl with
      | [w1], _ => exact ⟨w1, rfl⟩
    refine ⟨_, PSs.nox (pss_cons (ps_expr (pe_binit (xb_ok z) rfl (g_CutError z) (pa_cons (pv 0) (pa_cons pe_str pa_nil)))) (pss_one (ps_ost (pv 0) (pv 1)))), ?_⟩
    refine ⟨_, rfl, a, _, [_], rfl, by decide, (x_UnknownMode z).o, ha, _, rfl, _, rfl, a, _, rfl, (x_UnknownMode z).o, a_UnknownMode_name z, .inl ⟨ha, fun d hd ne => ?_⟩⟩
    exact k d _ hd ne upd_same (by rw [upd_ne ne, upd_same] <;> rfl) fun b h1 h2 => by rw [upd_ne h1, upd_ne h2]
theorem x_UnknownRule (z : Z K mg) : XC K (He.ga K "UnknownRule") := cn_ok z (i := 4) (by decide)
theorem sc_UnknownRule__init__ : FnScope ["self", "name"] ["self", "name"] (defScope s_UnknownRule__init__) := ⟨rfl, rfl, rfl, by decide +kernel, rfl, by decide +kernel, by decide +kernel⟩
theorem b_UnknownRule__init__ (z : Z K mg) : Binds K (fdOf K ("UnknownRule", some "__init__")) ["self", "name"] [] := (f_UnknownRule__init__ z).bindsN fun _ _ _ _ _ _ us hl => match us, hl with | [_, _], _ => rfl
theorem ok_UnknownRule__init__ (z : Z K mg) : FnOk P w K mg base CX0 1 (He.fAd K ("UnknownRule", some "__init__")) (fdOf K ("UnknownRule", some "__init__")) ["self", "name"] (spX (He.ga K "UnknownRule") ["name"]) := by
  refine (f_UnknownRule__init__ z).ok sc_UnknownRule__init__ (fun vs H Q E h => ?_) (fun cdv A outer s H vs Q E hr h => ?_)
  · obtain ⟨a, ws, rfl, hl, _⟩ := h
    exact congrArg (· + 1) hl
  · obtain ⟨a, ws, rfl, hl, ha, k⟩ := h
    obtain ⟨w1, rfl⟩ : ∃ w1, ws = [w1] := by
      match ws, hl with
      | [w1], _ => exact ⟨w1, rfl⟩
    refine ⟨_, PSs.nox (pss_cons (ps_expr (pe_binit (xb_ok z) rfl (g_CutError z) (pa_cons (pv 0) (pa_cons pe_str pa_nil)))) (pss_one (ps_ost (pv 0) (pv 1)))), ?_⟩
    refine ⟨_, rfl, a, _, [_], rfl, by decide, (x_UnknownRule z).o, ha, _, rfl, _, rfl, a, _, rfl, (x_UnknownRule z).o, a_UnknownRule_name z, .inl ⟨ha, fun d hd ne => ?_⟩⟩
    exact k d _ hd ne upd_same (by rw [upd_ne ne, upd_same] <;> rfl) fun b h1 h2 => by rw [upd_ne h1, upd_ne h2]
theorem x_Finished (z : Z K mg) : XC K (He.ga K "Finished") := cn_ok z (i := 5) (by decide)
theorem sc_Finished__init__ : FnScope ["self"] ["self"] (defScope s_Finished__init__) := ⟨rfl, rfl, rfl, by decide +kernel, rfl, by decide +kernel, by decide +kernel⟩
theorem b_Finished__init__ (z : Z K mg) : Binds K (fdOf K ("Finished", some "__init__")) ["self"] [] := (f_Finished__init__ z).bindsN fun _ _ _ _ _ _ us hl => match us, hl with | [_], _ => rfl
theorem ok_Finished__init__ (z : Z K mg) : FnOk P w K mg base CX0 1 (He.fAd K ("Finished", some "__init__")) (fdOf K ("Finished", some "__init__")) ["self"] (spX0 (He.ga K "Finished")) := by
  refine (f_Finished__init__ z).ok sc_Finished__init__ (fun vs H Q E h => ?_) (fun cdv A outer s H vs Q E hr h => ?_)
  · obtain ⟨a, rfl, _⟩ := h
    rfl
  · obtain ⟨a, rfl, ha, k⟩ := h
    refine ⟨_, PSs.nox (pss_one (ps_expr (pe_binit (xb_ok z) rfl (g_CutError z) (pa_cons (pv 0) (pa_cons pe_str pa_nil))))), ?_⟩
    exact ⟨_, rfl, a, _, [_], rfl, by decide, (x_Finished z).o, ha, k⟩
theorem x_InvalidRange (z : Z K mg) : XC K (He.ga K "InvalidRange") := cn_ok z (i := 6) (by decide)
theorem sc_InvalidRange__init__ : FnScope ["self", "position"] ["self", "position"] (defScope s_InvalidRange__init__) := ⟨rfl, rfl, rfl, by decide +kernel, rfl, by decide +kernel, by decide +kernel⟩
theorem b_InvalidRange__init__ (z : Z K mg) : Binds K (fdOf K ("InvalidRange", some "__init__")) ["self", "position"] [] := (f_InvalidRange__init__ z).bindsN fun _ _ _ _ _ _ us hl => match us, hl with | [_, _], _ => rfl
theorem ok_InvalidRange__init__ (z : Z K mg) : FnOk P w K mg base CX0 1 (He.fAd K ("InvalidRange", some "__init__")) (fdOf K ("InvalidRange", some "__init__")) ["self", "position"] (spX (He.ga K "InvalidRange") ["position"]) := by
  refine (f_InvalidRange__init__ z).ok sc_InvalidRange__init__ (fun vs H Q E h => ?_) (fun cdv A outer s H vs Q E hr h => ?_)
  · obtain ⟨a, ws, rfl, hl, _⟩ := h
    exact congrArg (· + 1) hl
  · obtain ⟨a, ws, rfl, hl, ha, k⟩ := h
    obtain ⟨w1, rfl⟩ : ∃ w1, ws = [w1] := by
      match ws, hl with
      | [w1], _ => exact ⟨w1, rfl⟩
    refine ⟨_, PSs.nox (pss_cons (ps_expr (pe_binit (xb_ok z) rfl (g_CutError z) (pa_cons (pv 0) (pa_cons pe_str pa_nil)))) (pss_one (ps_ost (pv 0) (pv 1)))), ?_⟩
    refine ⟨_, rfl, a, _, [_], rfl, by decide, (x_InvalidRange z).o, ha, _, rfl, _, rfl, a, _, rfl, (x_InvalidRange z).o, a_InvalidRange_position z, .inl ⟨ha, fun d hd ne => ?_⟩⟩
    exact k d _ hd ne upd_same (by rw [upd_ne ne, upd_same] <;> rfl) fun b h1 h2 => by rw [upd_ne h1, upd_ne h2]
theorem x_TooLong (z : Z K mg) : XC K (He.ga K "TooLong") := cn_ok z (i := 7) (by decide)
theorem sc_TooLong__init__ : FnScope ["self", "length"] ["self", "length"] (defScope s_TooLong__init__) := ⟨rfl, rfl, rfl, by decide +kernel, rfl, by decide +kernel, by decide +kernel⟩
theorem b_TooLong__init__ (z : Z K mg) : Binds K (fdOf K ("TooLong", some "__init__")) ["self", "length"] [] := (f_TooLong__init__ z).bindsN fun _ _ _ _ _ _ us hl => match us, hl with | [_, _], _ => rfl
theorem ok_TooLong__init__ (z : Z K mg) : FnOk P w K mg base CX0 1 (He.fAd K ("TooLong", some "__init__")) (fdOf K ("TooLong", some "__init__")) ["self", "length"] (spX (He.ga K "TooLong") ["length"]) := by
  refine (f_TooLong__init__ z).ok sc_TooLong__init__ (fun vs H Q E h => ?_) (fun cdv A outer s H vs Q E hr h => ?_)
  · obtain ⟨a, ws, rfl, hl, _⟩ := h
    exact congrArg (· + 1) hl
  · obtain ⟨a, ws, rfl, hl, ha, k⟩ := h
    obtain ⟨w1, rfl⟩ : ∃ w1, ws = [w1] := by
      match ws, hl with
      | [w1], _ => exact ⟨w1, rfl⟩
    refine ⟨_, PSs.nox (pss_cons (ps_expr (pe_binit (xb_ok z) rfl (g_CutError z) (pa_cons (pv 0) (pa_cons pe_str pa_nil)))) (pss_one (ps_ost (pv 0) (pv 1)))), ?_⟩
    refine ⟨_, rfl, a, _, [_], rfl, by decide, (x_TooLong z).o, ha, _, rfl, _, rfl, a, _, rfl, (x_TooLong z).o, a_TooLong_length z, .inl ⟨ha, fun d hd ne => ?_⟩⟩
    exact k d _ hd ne upd_same (by rw [upd_ne ne, upd_same] <;> rfl) fun b h1 h2 => by rw [upd_ne h1, upd_ne h2]
theorem x_NotFlat (z : Z K mg) : XC K (He.ga K "NotFlat") := cn_ok z (i := 8) (by decide)
theorem sc_NotFlat__init__ : FnScope ["self"] ["self"] (defScope s_NotFlat__init__) := ⟨rfl, rfl, rfl, by decide +kernel, rfl, by decide +kernel, by decide +kernel⟩
theorem b_NotFlat__init__ (z : Z K mg) : Binds K (fdOf K ("NotFlat", some "__init__")) ["self"] [] := (f_NotFlat__init__ z).bindsN fun _ _ _ _ _ _ us hl => match us, hl with | [_], _ => rfl
theorem ok_NotFlat__init__ (z : Z K mg) : FnOk P w K mg base CX0 1 (He.fAd K ("NotFlat", some "__init__")) (fdOf K ("NotFlat", some "__init__")) ["self"] (spX0 (He.ga K "NotFlat")) := by
  refine (f_NotFlat__init__ z).ok sc_NotFlat__init__ (fun vs H Q E h => ?_) (fun cdv A outer s H vs Q E hr h => ?_)
  · obtain ⟨a, rfl, _⟩ := h
    rfl
  · obtain ⟨a, rfl, ha, k⟩ := h
    refine ⟨_, PSs.nox (pss_one (ps_expr (pe_binit (xb_ok z) rfl (g_CutError z) (pa_cons (pv 0) (pa_cons pe_str pa_nil))))), ?_⟩
    exact ⟨_, rfl, a, _, [_], rfl, by decide, (x_NotFlat z).o, ha, k⟩
theorem x_AlphabetMismatch (z : Z K mg) : XC K (He.ga K "AlphabetMismatch") := cn_ok z (i := 9) (by decide)
theorem sc_AlphabetMismatch__init__ : FnScope ["self"] ["self"] (defScope s_AlphabetMismatch__init__) := ⟨rfl, rfl, rfl, by decide +kernel, rfl, by decide +kernel, by decide +kernel⟩
theorem b_AlphabetMismatch__init__ (z : Z K mg) : Binds K (fdOf K ("AlphabetMismatch", some "__init__")) ["self"] [] := (f_AlphabetMismatch__init__ z).bindsN fun _ _ _ _ _ _ us hl => match us, hl with | [_], _ => rfl
theorem ok_AlphabetMismatch__init__ (z : Z K mg) : FnOk P w K mg base CX0 1 (He.fAd K ("AlphabetMismatch", some "__init__")) (fdOf K ("AlphabetMismatch", some "__init__")) ["self"] (spX0 (He.ga K "AlphabetMismatch")) := by
  refine (f_AlphabetMismatch__init__ z).ok sc_AlphabetMismatch__init__ (fun vs H Q E h => ?_) (fun cdv A outer s H vs Q E hr h => ?_)
  · obtain ⟨a, rfl, _⟩ := h
    rfl
  · obtain ⟨a, rfl, ha, k⟩ := h
    refine ⟨_, PSs.nox (pss_one (ps_expr (pe_binit (xb_ok z) rfl (g_CutError z) (pa_cons (pv 0) (pa_cons pe_str pa_nil))))), ?_⟩
    exact ⟨_, rfl, a, _, [_], rfl, by decide, (x_AlphabetMismatch z).o, ha, k⟩
theorem x_InvalidWord (z : Z K mg) : XC K (He.ga K "InvalidWord") := cn_ok z (i := 10) (by decide)
theorem sc_InvalidWord__init__ : FnScope ["self", "index"] ["self", "index"] (defScope s_InvalidWord__init__) := ⟨rfl, rfl, rfl, by decide +kernel, rfl, by decide +kernel, by decide +kernel⟩
theorem b_InvalidWord__init__ (z : Z K mg) : Binds K (fdOf K ("InvalidWord", some "__init__")) ["self", "index"] [] := (f_InvalidWord__init__ z).bindsN fun _ _ _ _ _ _ us hl => match us, hl with | [_, _], _ => rfl
theorem ok_InvalidWord__init__ (z : Z K mg) : FnOk P w K mg base CX0 1 (He.fAd K ("InvalidWord", some "__init__")) (fdOf K ("InvalidWord", some "__init__")) ["self", "index"] (spX (He.ga K "InvalidWord") ["index"]) := by
  refine (f_InvalidWord__init__ z).ok sc_InvalidWord__init__ (fun vs H Q E h => ?_) (fun cdv A outer s H vs Q E hr h => ?_)
  · obtain ⟨a, ws, rfl, hl, _⟩ := h
    exact congrArg (· + 1) hl
  · obtain ⟨a, ws, rfl, hl, ha, k⟩ := h
    obtain ⟨w1, rfl⟩ : ∃ w1, ws = [w1] := by
      match ws, hl with
      | [w1], _ => exact ⟨w1, rfl⟩
    refine ⟨_, PSs.nox (pss_cons (ps_expr (pe_binit (xb_ok z) rfl (g_CutError z) (pa_cons (pv 0) (pa_cons pe_str pa_nil)))) (pss_one (ps_ost (pv 0) (pv 1)))), ?_⟩
    refine ⟨_, rfl, a, _, [_], rfl, by decide, (x_InvalidWord z).o, ha, _, rfl, _, rfl, a, _, rfl, (x_InvalidWord z).o, a_InvalidWord_index z, .inl ⟨ha, fun d hd ne => ?_⟩⟩
    exact k d _ hd ne upd_same (by rw [upd_ne ne, upd_same] <;> rfl) fun b h1 h2 => by rw [upd_ne h1, upd_ne h2]
theorem x_InvalidNotation (z : Z K mg) : XC K (He.ga K "InvalidNotation") := cn_ok z (i := 11) (by decide)
theorem sc_InvalidNotation__init__ : FnScope ["self", "index"] ["self", "index"] (defScope s_InvalidNotation__init__) := ⟨rfl, rfl, rfl, by decide +kernel, rfl, by decide +kernel, by decide +kernel⟩
theorem b_InvalidNotation__init__ (z : Z K mg) : Binds K (fdOf K ("InvalidNotation", some "__init__")) ["self", "index"] [] := (f_InvalidNotation__init__ z).bindsN fun _ _ _ _ _ _ us hl => match us, hl with | [_, _], _ => rfl
theorem ok_InvalidNotation__init__ (z : Z K mg) : FnOk P w K mg base CX0 1 (He.fAd K ("InvalidNotation", some "__init__")) (fdOf K ("InvalidNotation", some "__init__")) ["self", "index"] (spX (He.ga K "InvalidNotation") ["index"]) := by
  refine (f_InvalidNotation__init__ z).ok sc_InvalidNotation__init__ (fun vs H Q E h => ?_) (fun cdv A outer s H vs Q E hr h => ?_)
  · obtain ⟨a, ws, rfl, hl, _⟩ := h
    exact congrArg (· + 1) hl
  · obtain ⟨a, ws, rfl, hl, ha, k⟩ := h
    obtain ⟨w1, rfl⟩ : ∃ w1, ws = [w1] := by
      match ws, hl with
      | [w1], _ => exact ⟨w1, rfl⟩
    refine ⟨_, PSs.nox (pss_cons (ps_expr (pe_binit (xb_ok z) rfl (g_CutError z) (pa_cons (pv 0) (pa_cons pe_str pa_nil)))) (pss_one (ps_ost (pv 0) (pv 1)))), ?_⟩
    refine ⟨_, rfl, a, _, [_], rfl, by decide, (x_InvalidNotation z).o, ha, _, rfl, _, rfl, a, _, rfl, (x_InvalidNotation z).o, a_InvalidNotation_index z, .inl ⟨ha, fun d hd ne => ?_⟩⟩
    exact k d _ hd ne upd_same (by rw [upd_ne ne, upd_same] <;> rfl) fun b h1 h2 => by rw [upd_ne h1, upd_ne h2]
theorem x_InvalidName (z : Z K mg) : XC K (He.ga K "InvalidName") := cn_ok z (i := 12) (by decide)
theorem sc_InvalidName__init__ : FnScope ["self", "name"] ["self", "name"] (defScope s_InvalidName__init__) := ⟨rfl, rfl, rfl, by decide +kernel, rfl, by decide +kernel, by decide +kernel⟩
theorem b_InvalidName__init__ (z : Z K mg) : Binds K (fdOf K ("InvalidName", some "__init__")) ["self", "name"] [] := (f_InvalidName__init__ z).bindsN fun _ _ _ _ _ _ us hl => match us, hl with | [_, _], _ => rfl
theorem ok_InvalidName__init__ (z : Z K mg) : FnOk P w K mg base CX0 1 (He.fAd K ("InvalidName", some "__init__")) (fdOf K ("InvalidName", some "__init__")) ["self", "name"] (spX (He.ga K "InvalidName") ["name"]) := by
  refine (f_InvalidName__init__ z).ok sc_InvalidName__init__ (fun vs H Q E h => ?_) (fun cdv A outer s H vs Q E hr h => ?_)
  · obtain ⟨a, ws, rfl, hl, _⟩ := h
    exact congrArg (· + 1) hl
  · obtain ⟨a, ws, rfl, hl, ha, k⟩ := h
    obtain ⟨w1, rfl⟩ : ∃ w1, ws = [w1] := by
      match ws, hl with
      | [w1], _ => exact ⟨w1, rfl⟩
    refine ⟨_, PSs.nox (pss_cons (ps_expr (pe_binit (xb_ok z) rfl (g_CutError z) (pa_cons (pv 0) (pa_cons pe_str pa_nil)))) (pss_one (ps_ost (pv 0) (pv 1)))), ?_⟩
    refine ⟨_, rfl, a, _, [_], rfl, by decide, (x_InvalidName z).o, ha, _, rfl, _, rfl, a, _, rfl, (x_InvalidName z).o, a_InvalidName_name z, .inl ⟨ha, fun d hd ne => ?_⟩⟩
    exact k d _ hd ne upd_same (by rw [upd_ne ne, upd_same] <;> rfl) fun b h1 h2 => by rw [upd_ne h1, upd_ne h2]
theorem x_Incompatible (z : Z K mg) : XC K (He.ga K "Incompatible") := cn_ok z (i := 13) (by decide)
theorem sc_Incompatible__init__ : FnScope ["self", "document"] ["self", "document"] (defScope s_Incompatible__init__) := ⟨rfl, rfl, rfl, by decide +kernel, rfl, by decide +kernel, by decide +kernel⟩
theorem b_Incompatible__init__ (z : Z K mg) : Binds K (fdOf K ("Incompatible", some "__init__")) ["self", "document"] [] := (f_Incompatible__init__ z).bindsN fun _ _ _ _ _ _ us hl => match us, hl with | [_, _], _ => rfl
theorem ok_Incompatible__init__ (z : Z K mg) : FnOk P w K mg base CX0 1 (He.fAd K ("Incompatible", some "__init__")) (fdOf K ("Incompatible", some "__init__")) ["self", "document"] (spX (He.ga K "Incompatible") ["document"]) := by
  refine (f_Incompatible__init__ z).ok sc_Incompatible__init__ (fun vs H Q E h => ?_) (fun cdv A outer s H vs Q E hr h => ?_)
  · obtain ⟨a, ws, rfl, hl, _⟩ := h
    exact congrArg (· + 1) hl
  · obtain ⟨a, ws, rfl, hl, ha, k⟩ := h
    obtain ⟨w1, rfl⟩ : ∃ w1, ws = [w1] := by
      match ws, hl with
      | [w1], _ => exact ⟨w1, rfl⟩
    refine ⟨_, PSs.nox (pss_cons (ps_expr (pe_binit (xb_ok z) rfl (g_CutError z) (pa_cons (pv 0) (pa_cons pe_str pa_nil)))) (pss_one (ps_ost (pv 0) (pv 1)))), ?_⟩
    refine ⟨_, rfl, a, _, [_], rfl, by decide, (x_Incompatible z).o, ha, _, rfl, _, rfl, a, _, rfl, (x_Incompatible z).o, a_Incompatible_document z, .inl ⟨ha, fun d hd ne => ?_⟩⟩
    exact k d _ hd ne upd_same (by rw [upd_ne ne, upd_same] <;> rfl) fun b h1 h2 => by rw [upd_ne h1, upd_ne h2]
theorem x_UnknownName (z : Z K mg) : XC K (He.ga K "UnknownName") := cn_ok z (i := 14) (by decide)
theorem sc_UnknownName__init__ : FnScope ["self", "name"] ["self", "name"] (defScope s_UnknownName__init__) := ⟨rfl, rfl, rfl, by decide +kernel, rfl, by decide +kernel, by decide +kernel⟩
theorem b_UnknownName__init__ (z : Z K mg) : Binds K (fdOf K ("UnknownName", some "__init__")) ["self", "name"] [] := (f_UnknownName__init__ z).bindsN fun _ _ _ _ _ _ us hl => match us, hl with | [_, _], _ => rfl
theorem ok_UnknownName__init__ (z : Z K mg) : FnOk P w K mg base CX0 1 (He.fAd K ("UnknownName", some "__init__")) (fdOf K ("UnknownName", some "__init__")) ["self", "name"] (spX (He.ga K "UnknownName") ["name"]) := by
  refine (f_UnknownName__init__ z).ok sc_UnknownName__init__ (fun vs H Q E h => ?_) (fun cdv A outer s H vs Q E hr h => ?_)
  · obtain ⟨a, ws, rfl, hl, _⟩ := h
    exact congrArg (· + 1) hl
  · obtain ⟨a, ws, rfl, hl, ha, k⟩ := h
    obtain ⟨w1, rfl⟩ : ∃ w1, ws = [w1] := by
      match ws, hl with
      | [w1], _ => exact ⟨w1, rfl⟩
    refine ⟨_, PSs.nox (pss_cons (ps_expr (pe_binit (xb_ok z) rfl (g_CutError z) (pa_cons (pv 0) (pa_cons pe_str pa_nil)))) (pss_one (ps_ost (pv 0) (pv 1)))), ?_⟩
    refine ⟨_, rfl, a, _, [_], rfl, by decide, (x_UnknownName z).o, ha, _, rfl, _, rfl, a, _, rfl, (x_UnknownName z).o, a_UnknownName_name z, .inl ⟨ha, fun d hd ne => ?_⟩⟩
    exact k d _ hd ne upd_same (by rw [upd_ne ne, upd_same] <;> rfl) fun b h1 h2 => by rw [upd_ne h1, upd_ne h2]
theorem x_InUse (z : Z K mg) : XC K (He.ga K "InUse") := cn_ok z (i := 15) (by decide)
theorem sc_InUse__init__ : FnScope ["self", "document"] ["self", "document"] (defScope s_InUse__init__) := ⟨rfl, rfl, rfl, by decide +kernel, rfl, by decide +kernel, by decide +kernel⟩
theorem b_InUse__init__ (z : Z K mg) : Binds K (fdOf K ("InUse", some "__init__")) ["self", "document"] [] := (f_InUse__init__ z).bindsN fun _ _ _ _ _ _ us hl => match us, hl with | [_, _], _ => rfl
theorem ok_InUse__init__ (z : Z K mg) : FnOk P w K mg base CX0 1 (He.fAd K ("InUse", some "__init__")) (fdOf K ("InUse", some "__init__")) ["self", "document"] (spX (He.ga K "InUse") ["document"]) := by
  refine (f_InUse__init__ z).ok sc_InUse__init__ (fun vs H Q E h => ?_) (fun cdv A outer s H vs Q E hr h => ?_)
  · obtain ⟨a, ws, rfl, hl, _⟩ := h
    exact congrArg (· + 1) hl
  · obtain ⟨a, ws, rfl, hl, ha, k⟩ := h
    obtain ⟨w1, rfl⟩ : ∃ w1, ws = [w1] := by
      match ws, hl with
      | [w1], _ => exact ⟨w1, rfl⟩
    refine ⟨_, PSs.nox (pss_cons (ps_expr (pe_binit (xb_ok z) rfl (g_CutError z) (pa_cons (pv 0) (pa_cons pe_str pa_nil)))) (pss_one (ps_ost (pv 0) (pv 1)))), ?_⟩
    refine ⟨_, rfl, a, _, [_], rfl, by decide, (x_InUse z).o, ha, _, rfl, _, rfl, a, _, rfl, (x_InUse z).o, a_InUse_document z, .inl ⟨ha, fun d hd ne => ?_⟩⟩
    exact k d _ hd ne upd_same (by rw [upd_ne ne, upd_same] <;> rfl) fun b h1 h2 => by rw [upd_ne h1, upd_ne h2]
theorem x_NameInUse (z : Z K mg) : XC K (He.ga K "NameInUse") := cn_ok z (i := 16) (by decide)
theorem sc_NameInUse__init__ : FnScope ["self", "document"] ["self", "document"] (defScope s_NameInUse__init__) := ⟨rfl, rfl, rfl, by decide +kernel, rfl, by decide +kernel, by decide +kernel⟩
theorem b_NameInUse__init__ (z : Z K mg) : Binds K (fdOf K ("NameInUse", some "__init__")) ["self", "document"] [] := (f_NameInUse__init__ z).bindsN fun _ _ _ _ _ _ us hl => match us, hl with | [_, _], _ => rfl
theorem ok_NameInUse__init__ (z : Z K mg) : FnOk P w K mg base CX0 1 (He.fAd K ("NameInUse", some "__init__")) (fdOf K ("NameInUse", some "__init__")) ["self", "document"] (spX (He.ga K "NameInUse") ["document"]) := by
  refine (f_NameInUse__init__ z).ok sc_NameInUse__init__ (fun vs H Q E h => ?_) (fun cdv A outer s H vs Q E hr h => ?_)
  · obtain ⟨a, ws, rfl, hl, _⟩ := h
    exact congrArg (· + 1) hl
  · obtain ⟨a, ws, rfl, hl, ha, k⟩ := h
    obtain ⟨w1, rfl⟩ : ∃ w1, ws = [w1] := by
      match ws, hl with
      | [w1], _ => exact ⟨w1, rfl⟩
    refine ⟨_, PSs.nox (pss_cons (ps_expr (pe_binit (xb_ok z) rfl (g_CutError z) (pa_cons (pv 0) (pa_cons pe_str pa_nil)))) (pss_one (ps_ost (pv 0) (pv 1)))), ?_⟩
    refine ⟨_, rfl, a, _, [_], rfl, by decide, (x_NameInUse z).o, ha, _, rfl, _, rfl, a, _, rfl, (x_NameInUse z).o, a_NameInUse_document z, .inl ⟨ha, fun d hd ne => ?_⟩⟩
    exact k d _ hd ne upd_same (by rw [upd_ne ne, upd_same] <;> rfl) fun b h1 h2 => by rw [upd_ne h1, upd_ne h2]
theorem x_NothingToUndo (z : Z K mg) : XC K (He.ga K "NothingToUndo") := cn_ok z (i := 17) (by decide)
theorem sc_NothingToUndo__init__ : FnScope ["self"] ["self"] (defScope s_NothingToUndo__init__) := ⟨rfl, rfl, rfl, by decide +kernel, rfl, by decide +kernel, by decide +kernel⟩
theorem b_NothingToUndo__init__ (z : Z K mg) : Binds K (fdOf K ("NothingToUndo", some "__init__")) ["self"] [] := (f_NothingToUndo__init__ z).bindsN fun _ _ _ _ _ _ us hl => match us, hl with | [_], _ => rfl
theorem ok_NothingToUndo__init__ (z : Z K mg) : FnOk P w K mg base CX0 1 (He.fAd K ("NothingToUndo", some "__init__")) (fdOf K ("NothingToUndo", some "__init__")) ["self"] (spX0 (He.ga K "NothingToUndo")) := by
  refine (f_NothingToUndo__init__ z).ok sc_NothingToUndo__init__ (fun vs H Q E h => ?_) (fun cdv A outer s H vs Q E hr h => ?_)
  · obtain ⟨a, rfl, _⟩ := h
    rfl
  · obtain ⟨a, rfl, ha, k⟩ := h
    refine ⟨_, PSs.nox (pss_one (ps_expr (pe_binit (xb_ok z) rfl (g_CutError z) (pa_cons (pv 0) (pa_cons pe_str pa_nil))))), ?_⟩
    exact ⟨_, rfl, a, _, [_], rfl, by decide, (x_NothingToUndo z).o, ha, k⟩
theorem x_NothingToRedo (z : Z K mg) : XC K (He.ga K "NothingToRedo") := cn_ok z (i := 18) (by decide)
theorem sc_NothingToRedo__init__ : FnScope ["self"] ["self"] (defScope s_NothingToRedo__init__) := ⟨rfl, rfl, rfl, by decide +kernel, rfl, by decide +kernel, by decide +kernel⟩
theorem b_NothingToRedo__init__ (z : Z K mg) : Binds K (fdOf K ("NothingToRedo", some "__init__")) ["self"] [] := (f_NothingToRedo__init__ z).bindsN fun _ _ _ _ _ _ us hl => match us, hl with | [_], _ => rfl
theorem ok_NothingToRedo__init__ (z : Z K mg) : FnOk P w K mg base CX0 1 (He.fAd K ("NothingToRedo", some "__init__")) (fdOf K ("NothingToRedo", some "__init__")) ["self"] (spX0 (He.ga K "NothingToRedo")) := by
  refine (f_NothingToRedo__init__ z).ok sc_NothingToRedo__init__ (fun vs H Q E h => ?_) (fun cdv A outer s H vs Q E hr h => ?_)
  · obtain ⟨a, rfl, _⟩ := h
    rfl
  · obtain ⟨a, rfl, ha, k⟩ := h
    refine ⟨_, PSs.nox (pss_one (ps_expr (pe_binit (xb_ok z) rfl (g_CutError z) (pa_cons (pv 0) (pa_cons pe_str pa_nil))))), ?_⟩
    exact ⟨_, rfl, a, _, [_], rfl, by decide, (x_NothingToRedo z).o, ha, k⟩
end
end K92
set_option Elab.async false
set_option linter.all false
set_option maxRecDepth 100000
set_option maxHeartbeats 4000000
namespace K92
open PySem PySem.Spec PyProof.Rows L2 LY
/-! ### the sources of draws -/
/-- a source of draws stands at a: n draws so far -/
def SrcAt (H : Hp) (a : Addr) (n : Int) : Prop := ∃ deep seed : Int, 0 ≤ deep ∧ 0 ≤ seed ∧ seed ≤ 100000000000 ∧ H a = some (.lst [.int deep, .int seed, .int n])
def Fx (a : Addr) (H H' : Hp) : Prop := ∀ b o, b ≠ a → H b = some o → H' b = some o
def spSource (K : PySem.W.Frag) : Sp := fun vs H Q _ => ∃ (a : Addr) (k : Int) (ns : List Int), vs = [.ref a, .int k] ∧ SqL K H a (ns.map V.int) ∧ ns.length ≤ 63 ∧ 0 ≤ k ∧ k ≤ 1000 ∧
  ∀ (p : Addr) (H' : Hp), H p = none → SrcAt H' p 0 → (∀ b, b ≠ p → H' b = H b) → Q (.ref p) H'
def spDraw : Sp := fun vs H Q _ => ∃ (a : Addr) (n m : Int), vs = [.ref a, .int m] ∧ 0 < m ∧ m ≤ 1000000 ∧ SrcAt H a n ∧ 0 ≤ n ∧ n ≤ 1000000 ∧
  ∀ (r : Int) (H' : Hp), 0 ≤ r → r < m → SrcAt H' a (n + 1) → (∀ b, b ≠ a → H' b = H b) → Q (.int r) H'
section
variable {P : Program} {w : World} {K : PySem.W.Frag} {mg : Str → Option Value} {base : Heap}
theorem sc_source : FnScope ["_law_script", "_law_k", "_law_cell", "_law_deep"] ["_law_script", "_law_k"] (defScope s__law_source) := ⟨rfl, rfl, rfl, by decide +kernel, rfl, by decide +kernel, by decide +kernel⟩
theorem b_source (z : Z K mg) : Binds K (fdOf K ("_law_source", none)) ["_law_script", "_law_k"] [] := (f__law_source z).bindsN fun _ _ _ _ _ _ us hl => match us, hl with | [_, _], _ => rfl
theorem ok_source (z : Z K mg) : FnOk P w K mg base CX0 1 (He.fAd K ("_law_source", none)) (fdOf K ("_law_source", none)) ["_law_script", "_law_k"] (spSource K) := by
  refine (f__law_source z).ok sc_source (fun vs H Q E h => ?_) (fun cdv A outer s H vs Q E hr h => ?_)
  · obtain ⟨a, k, ns, rfl, _⟩ := h
    rfl
  · obtain ⟨a, k, ns, rfl, hS, hl, hk0, hk1, q⟩ := h
    have el : ns.length = (ns.map V.int).length := (List.length_map ..).symm
    refine ⟨_, PSs.nox (pss_cons (ps_set (i := 2) sc_source.nd rfl (Or.inl rfl) pe_int)
      (pss_cons (ps_set (i := 3) sc_source.nd rfl (Or.inl rfl) pe_int)
      (Evl.pss_cut (ps_if (pt_cmpR op_gt (pe_callB call_len rfl (n_len z) boot_len (pa_cons (pv 0) pa_nil)) pe_int (nomark _))
        (pss_one (ps_set (i := 2) sc_source.nd rfl (Or.inl rfl) (pe_ix ix_list (pv 0) (pe_op op_mod (pv 1) (pe_callB call_len rfl (n_len z) boot_len (pa_cons (pv 0) pa_nil))) (fun _ _ => rfl)))) pss_nil)
      (Evl.pss_cut (ps_if (PW.pt (pw_and (pt_cmpR op_lt (pv 1) (pe_callB call_len rfl (n_len z) boot_len (pa_cons (pv 0) pa_nil)) (nomark _)) (pw_and1 (pt_cmpR op_ge (pv 2) (pe_op op_pow pe_int pe_int) (nomark _)))))
        (pss_one (ps_set (i := 3) sc_source.nd rfl (Or.inl rfl) (pv 2))) pss_nil)
      (pss_one (ps_ret (pe_lst (pa_cons (pv 3) (pa_cons (pe_op op_add (pe_op op_add (pe_op op_mod (pv 2) pe_int) (pe_op op_mul pe_int (pv 1))) pe_int) (pa_cons pe_int pa_nil)))))))))), ?_⟩
    refine ⟨fun σ H' => ∃ c : Int, σ = [some (.ref a), some (.int k), some (.int c), some (.int 0)] ∧ H' = H, ?_, ?_⟩
    · refine ⟨_, rfl, _, ns.length, rfl, .inl ⟨_, hS, el⟩, _, _, rfl, rfl, _, rfl, ?_⟩
      refine ite2 (fun hc => ?_) (fun _ => ⟨0, rfl, rfl⟩)
      have hpos : (0 : Int) < (ns.length : Int) := of_decide_eq_true hc
      refine ⟨_, rfl, _, rfl, _, rfl, _, ns.length, rfl, .inl ⟨_, hS, el⟩, _, _, rfl, rfl, hpos, ?_⟩
      have h1 : 0 ≤ k % (ns.length : Int) := Int.emod_nonneg _ (by omega)
      have h2 : k % (ns.length : Int) < (ns.length : Int) := Int.emod_lt_of_pos _ hpos
      obtain ⟨j, hj⟩ : ∃ j : Nat, k % (ns.length : Int) = (j : Int) := ⟨(k % (ns.length : Int)).toNat, by omega⟩
      have hj2 : j < ns.length := by omega
      refine ⟨a, _, _, V.int ns[j], rfl, rfl, hS, at_of hj (by rw [List.getElem?_map, List.getElem?_eq_getElem hj2]; rfl), ⟨_, rfl, rfl⟩⟩
    · rintro σ H' ⟨c, rfl, rfl⟩
      refine ⟨fun σ H2 => ∃ e : Int, 0 ≤ e ∧ σ = [some (.ref a), some (.int k), some (.int c), some (.int e)] ∧ H2 = H', ?_, ?_⟩
      · refine ⟨_, rfl, _, rfl, _, ns.length, rfl, .inl ⟨_, hS, el⟩, _, _, rfl, rfl, _, rfl, ?_⟩
        refine ite2 (fun _ => ?_) (fun _ => ?_)
        · refine ⟨_, rfl, _, _, rfl, rfl, ⟨by decide, by decide, by decide⟩, _, _, rfl, rfl, _, rfl, ?_⟩
          refine ite2 (fun hc => ?_) (fun _ => ?_)
          · have hge : (10 : Int) ^ (18 : Int).toNat ≤ c := of_decide_eq_true hc
            have hp : (0 : Int) ≤ 10 ^ (18 : Int).toNat := by decide
            exact ⟨_, rfl, c, by omega, rfl, rfl⟩
          · exact ⟨0, by decide, rfl, rfl⟩
        · exact ⟨0, by decide, rfl, rfl⟩
      · rintro σ H2 ⟨e, he, rfl, rfl⟩
        refine ⟨_, rfl, _, rfl, _, _, rfl, rfl, (show (0 : Int) < 2147483647 by decide), _, rfl, _, _, rfl, rfl, .inl ⟨by decide, by decide⟩, _, _, rfl, rfl, _, _, rfl, rfl, (by show 3 ≤ sizeLine; decide), fun p hp => ?_⟩
        have h1 : 0 ≤ c % 2147483647 := Int.emod_nonneg _ (by decide)
        have h2 : c % 2147483647 < 2147483647 := Int.emod_lt_of_pos _ (by decide)
        exact q p _ hp ⟨_, _, he, by omega, by omega, upd_same⟩ fun b hb => upd_ne hb
theorem sc_draw : FnScope ["_law_source_here", "_law_many", "_law_digit", "_law_seed"] ["_law_source_here", "_law_many"] (defScope s__law_draw) := ⟨rfl, rfl, rfl, by decide +kernel, rfl, by decide +kernel, by decide +kernel⟩
theorem b_draw (z : Z K mg) : Binds K (fdOf K ("_law_draw", none)) ["_law_source_here", "_law_many"] [] := (f__law_draw z).bindsN fun _ _ _ _ _ _ us hl => match us, hl with | [_, _], _ => rfl
theorem ok_draw (z : Z K mg) : FnOk P w K mg base CX0 1 (He.fAd K ("_law_draw", none)) (fdOf K ("_law_draw", none)) ["_law_source_here", "_law_many"] spDraw := by
  refine (f__law_draw z).ok sc_draw (fun vs H Q E h => ?_) (fun cdv A outer s H vs Q E hr h => ?_)
  · obtain ⟨a, n, m, rfl, _⟩ := h
    rfl
  · obtain ⟨a, n, m, rfl, hm0, hm1, ⟨deep, seed, hd, hs0, hs1, ha⟩, hn0, hn1, q⟩ := h
    refine ⟨_, PSs.nox (pss_cons (ps_asg (pe_op op_add (pe_ix ix_list (pv 0) pe_int (fun _ _ => rfl)) pe_int) (pg_sub (pv 0) pe_int set_list))
      (pss_cons (ps_if (pt_cmpR op_gt (pe_ix ix_list (pv 0) pe_int (fun _ _ => rfl)) pe_int (nomark _))
        (pss_cons (ps_set (i := 2) sc_draw.nd rfl (Or.inl rfl) (pe_op op_mod (pe_ix ix_list (pv 0) pe_int (fun _ _ => rfl)) (pv 1)))
        (pss_cons (ps_asg (pe_op op_fdiv (pe_ix ix_list (pv 0) pe_int (fun _ _ => rfl)) (pv 1)) (pg_sub (pv 0) pe_int set_list))
        (pss_one (ps_ret (pv 2))))) pss_nil)
      (pss_cons (ps_set (i := 3) sc_draw.nd rfl (Or.inl rfl) (pe_op op_mod (pe_op op_pow (pe_op op_add (pe_ix ix_list (pv 0) pe_int (fun _ _ => rfl)) (pe_op op_mul pe_int (pe_ix ix_list (pv 0) pe_int (fun _ _ => rfl)))) pe_int) pe_int))
      (pss_one (ps_ret (pe_op op_mod (pe_op op_fdiv (pe_op op_mod (pe_op op_mul (pe_op op_add (pv 3) (pe_ix ix_list (pv 0) pe_int (fun _ _ => rfl))) pe_int) pe_int) pe_int) (pv 1))))))), ?_⟩
    -- source[2] = source[2] + 1
    refine ⟨_, rfl, a, _, _, _, rfl, rfl, SqL.of ha, at_of (j := 2) rfl rfl, _, _, rfl, rfl, _, rfl, a, _, _, 2, rfl, rfl, ha, rfl, ?_⟩
    have h1 : (upd H a (.lst [.int deep, .int seed, .int (n + 1)])) a = some (.lst [.int deep, .int seed, .int (n + 1)]) := upd_same
    -- if source[0] > 0
    refine ⟨_, rfl, a, _, _, _, rfl, rfl, SqL.of h1, at_of (j := 0) rfl rfl, _, _, rfl, rfl, _, rfl, ?_⟩
    refine ite2 (fun hc => ?_) (fun _ => ?_)
    · have hpos : (0 : Int) < deep := of_decide_eq_true hc
      refine ⟨_, rfl, a, _, _, _, rfl, rfl, SqL.of h1, at_of (j := 0) rfl rfl, _, rfl, _, _, rfl, rfl, hm0, ?_⟩
      refine ⟨_, rfl, a, _, _, _, rfl, rfl, SqL.of h1, at_of (j := 0) rfl rfl, _, rfl, _, _, rfl, rfl, ⟨hm0, by omega⟩, _, rfl, a, _, _, 0, rfl, rfl, h1, rfl, _, rfl, ?_⟩
      exact q _ _ (Int.emod_nonneg _ (by omega)) (Int.emod_lt_of_pos _ hm0) ⟨_, _, Int.ediv_nonneg hd (by omega), hs0, hs1, upd_same⟩ fun b hb => by rw [upd_ne hb, upd_ne hb]
    · refine ⟨_, rfl, a, _, _, _, rfl, rfl, SqL.of h1, at_of (j := 1) rfl rfl, _, rfl, a, _, _, _, rfl, rfl, SqL.of h1, at_of (j := 2) rfl rfl, _, _, rfl, rfl, .inl ⟨by decide, by decide⟩, _, _, rfl, rfl, _, _, rfl, rfl, ⟨by decide, by decide, ?_⟩, _, _, rfl, rfl, (show (0 : Int) < 2147483647 by decide), ?_⟩
      · omega
      · generalize hx : (seed + 7919 * (n + 1)) ^ (5 : Int).toNat % 2147483647 = x
        have x0 : 0 ≤ x := by rw [← hx]; exact Int.emod_nonneg _ (by decide)
        have x1 : x < 2147483647 := by rw [← hx]; exact Int.emod_lt_of_pos _ (by decide)
        refine ⟨_, rfl, _, rfl, a, _, _, _, rfl, rfl, SqL.of h1, at_of (j := 2) rfl rfl, _, _, rfl, rfl, _, _, rfl, rfl, .inr ⟨by decide, by decide⟩, _, _, rfl, rfl, (show (0 : Int) < 2147483629 by decide), _, _, rfl, rfl, ⟨by decide, by decide⟩, _, rfl, _, _, rfl, rfl, hm0, ?_⟩
        exact q _ _ (Int.emod_nonneg _ (by omega)) (Int.emod_lt_of_pos _ hm0) ⟨_, _, hd, hs0, hs1, h1⟩ fun b hb => upd_ne hb
end
end K92
set_option Elab.async false
set_option linter.all false
set_option maxRecDepth 100000
set_option maxHeartbeats 8000000
namespace K92
open PySem PySem.Spec PyProof.Rows L2 LY
open Evl (Ex)
theorem iteY {c : Bool} {A B : Prop} (h : c = true) (a : A) : if c = true then A else B := by
  rw [if_pos h]
  exact a
theorem iteN {c : Bool} {A B : Prop} (h : c = false) (b : B) : if c = true then A else B := by
  rw [if_neg (by rw [h]; exact Bool.false_ne_true)]
  exact b
/-- the drawn values -/
inductive V92 (H : Hp) : V → Prop where
  | str (x : Str) (h : SeqAt.shaped (.str x) = true) : V92 H (.str x)
  | int (i : Int) : V92 H (.int i)
  | non : V92 H .non
  | bl (b : Bool) : V92 H (.bl b)
  | l0 {p : Addr} (h : H p = some (.lst [])) : V92 H (.ref p)
  | l1 {p : Addr} (h : H p = some (.lst [.int 1])) : V92 H (.ref p)
  | tA {p : Addr} (h : H p = some (.tup [.str "a"])) : V92 H (.ref p)
  | tB {p : Addr} (h : H p = some (.tup [.int 0, .int 1])) : V92 H (.ref p)
theorem V92.ex {H H' : Hp} {x : V} (v : V92 H x) (e : Ex H H') : V92 H' x := by
  cases v with
  | str x h => exact .str x h
  | int i => exact .int i
  | non => exact .non
  | bl b => exact .bl b
  | l0 h => exact .l0 (e _ _ h)
  | l1 h => exact .l1 (e _ _ h)
  | tA h => exact .tA (e _ _ h)
  | tB h => exact .tB (e _ _ h)
theorem V92.fx {H H' : Hp} {x : V} {a : Addr} {i j k : V} (v : V92 H x) (ha : H a = some (.lst [i, j, k])) (e : Fx a H H') : V92 H' x := by
  have ne : ∀ {p : Addr} {o : HO}, H p = some o → o ≠ .lst [i, j, k] → p ≠ a := fun h n z => by
    subst z
    rw [ha] at h
    exact n (Option.some.inj h).symm
  cases v with
  | str x h => exact .str x h
  | int i => exact .int i
  | non => exact .non
  | bl b => exact .bl b
  | l0 h => exact .l0 (e _ _ (ne h (by intro z; injection z with z; cases z)) h)
  | l1 h => exact .l1 (e _ _ (ne h (by intro z; injection z with z; injection z with _ z; cases z)) h)
  | tA h => exact .tA (e _ _ (ne h (by intro z; cases z)) h)
  | tB h => exact .tB (e _ _ (ne h (by intro z; cases z)) h)
def spValue : Sp := fun vs H Q _ => ∃ (a : Addr) (n : Int), vs = [.ref a] ∧ SrcAt H a n ∧ 0 ≤ n ∧ n ≤ 1000 ∧ ∀ (x : V) (H' : Hp), V92 H' x → SrcAt H' a (n + 1) → Fx a H H' → Q x H'
/-- an exception of the class with the number i at e -/
def XAt (K : PySem.W.Frag) (H : Hp) (e : Addr) (i : Nat) : Prop := ∃ d : Option Addr, H e = some (exo e (He.ga K (cn i)) d) ∧ ∀ dx, d = some dx → ∃ fs, H dx = some (exd dx fs)
theorem XAt.ex {K : PySem.W.Frag} {H H' : Hp} {e : Addr} {i : Nat} (x : XAt K H e i) (h : Ex H H') : XAt K H' e i := by
  obtain ⟨d, h1, h2⟩ := x
  exact ⟨d, h _ _ h1, fun dx q => let ⟨fs, q⟩ := h2 dx q; ⟨fs, h _ _ q⟩⟩
def spClasses (K : PySem.W.Frag) : Sp := fun vs H Q _ => ∃ (e : Addr) (i : Nat), vs = [.ref e] ∧ i < 19 ∧ XAt K H e i ∧ ∀ (p : Addr) (H' : Hp), Ex H H' → H' p = some (.lst [.int (i : Int)]) → Q (.ref p) H'
def spMade (K : PySem.W.Frag) : Sp := fun vs H Q _ => ∃ (i : Nat) (a b c : V), vs = [.int (i : Int), a, b, c] ∧ i < 19 ∧ ∀ (t e l : Addr) (ps : List Addr) (H' : Hp), Ex H H' → H' t = some (.tup [.ref e, .ref l]) → XAt K H' e i →
  H' l = some (.lst (ps.map V.ref)) → ps.length ≤ 3 → (∀ p ∈ ps, ∃ x, x ∈ [a, b, c] ∧ H' p = some (.tup [x, x])) → Q (.ref t) H'
/-- an __init__ with fields: what follows -/
theorem mkx {C : Addr} {fs : List Str} {ws : List V} {H : Hp} {Q : Addr → Hp → Prop} {E : XK} (hl : ws.length = fs.length) (hz : fs.length ≤ 1000)
    (k : ∀ (a d : Addr) (H' : Hp), H a = none → H' a = some (exo a C (some d)) → H' d = some (exd d (fs.zip ws).reverse) → Ex H H' → Q a H') :
    ws.length ≤ 1000 ∧ ∀ a, H a = none → spX C fs (.ref a :: (ws ++ [])) (upd H a (exo a C none)) (fun v H2 => v = .non ∧ Q a H2) E := by
  refine ⟨by omega, fun a ha => ⟨a, ws, by rw [List.append_nil], hl, upd_same, fun d H' hd ne h1 h2 h3 => ⟨rfl, ?_⟩⟩⟩
  rw [upd_ne ne] at hd
  refine k a d H' ha h1 h2 fun b o e => ?_
  rw [h3 b (ne_of_none e ha) (ne_of_none e hd), upd_ne (ne_of_none e ha)]
  exact e
theorem mkx0 {C : Addr} {H : Hp} {Q : Addr → Hp → Prop} {E : XK} (k : ∀ (a : Addr) (H' : Hp), H a = none → H' a = some (exo a C none) → Ex H H' → Q a H') :
    ([] : List V).length ≤ 1000 ∧ ∀ a, H a = none → spX0 C (.ref a :: ([] ++ [])) (upd H a (exo a C none)) (fun v H2 => v = .non ∧ Q a H2) E :=
  ⟨by decide, fun a ha => ⟨a, rfl, upd_same, rfl, k a _ ha upd_same (Ex.new ha)⟩⟩
section
variable {P : Program} {w : World} {K : PySem.W.Frag} {mg : Str → Option Value} {base : Heap}
theorem sc_value : FnScope ["_law_source_here", "_law_some"] ["_law_source_here"] (defScope s__law_value) := ⟨rfl, rfl, rfl, by decide +kernel, rfl, by decide +kernel, by decide +kernel⟩
theorem b_value (z : Z K mg) : Binds K (fdOf K ("_law_value", none)) ["_law_source_here"] [] := (f__law_value z).bindsN fun _ _ _ _ _ _ us hl => match us, hl with | [_], _ => rfl
theorem ok_value (z : Z K mg) : FnOk P w K mg base CX0 2 (He.fAd K ("_law_value", none)) (fdOf K ("_law_value", none)) ["_law_source_here"] spValue := by
  refine (f__law_value z).ok sc_value (fun vs H Q E h => ?_) (fun cdv A outer s H vs Q E hr h => ?_)
  · obtain ⟨a, n, rfl, _⟩ := h
    rfl
  · obtain ⟨a, n, rfl, hS, hn0, hn1, q⟩ := h
    refine ⟨_, PSs.nox (pss_cons (ps_set (i := 1) sc_value.nd rfl (Or.inl rfl) (pe_lst (pa_cons pe_str (pa_cons pe_str (pa_cons pe_int (pa_cons (pe_un un_neg pe_int) (pa_cons (pe_op op_pow pe_int pe_int) (pa_cons pe_non (pa_cons pe_bl (pa_cons pe_bl
        (pa_cons (pe_tup (pa_cons pe_str pa_nil)) (pa_cons (pe_lst pa_nil) (pa_cons (pe_lst (pa_cons pe_int pa_nil)) (pa_cons (pe_tup (pa_cons pe_int (pa_cons pe_int pa_nil))) (pa_cons pe_str (pa_cons pe_int pa_nil))))))))))))))))
      (pss_one (ps_ret (pe_ix ix_list (pv 1) (pe_call (ok_draw z) (hr.mono (by decide)) rfl (g__law_draw z) (f__law_draw z).kp (b_draw z) .nil pass0 (pa_cons (pv 0) (pa_cons pe_int pa_nil))) (fun _ _ => rfl))))), ?_⟩
    refine ⟨1, rfl, _, _, rfl, rfl, ⟨by decide, by decide, by decide⟩, (by show 1 ≤ sizeLine; decide), fun p1 f1 => ⟨(by show 0 ≤ sizeLine; decide), fun p2 f2 => ⟨(by show 1 ≤ sizeLine; decide), fun p3 f3 => ⟨(by show 2 ≤ sizeLine; decide), fun p4 f4 => ⟨(by show 14 ≤ sizeLine; decide), fun p5 f5 => ?_⟩⟩⟩⟩⟩
    have e1 : Ex H (upd H p1 (.tup [.str "a"])) := Ex.new f1
    have e2 := Ex.new (o := .lst []) f2
    have e3 := Ex.new (o := .lst [.int 1]) f3
    have e4 := Ex.new (o := .tup [.int 0, .int 1]) f4
    generalize hxs : ([.str "a", .str "", .int 0, .int (-1), .int (10 ^ (20 : Int).toNat), .non, .bl true, .bl false, .ref p1, .ref p2, .ref p3, .ref p4, .str "position", .int 7] : List V) = xs at f5
    have e5 := Ex.new (o := .lst xs) f5
    generalize hH5 : upd (upd (upd (upd (upd H p1 (.tup [.str "a"])) p2 (.lst [])) p3 (.lst [.int 1])) p4 (.tup [.int 0, .int 1])) p5 (.lst xs) = H5 at e5
    have g5 : H5 p5 = some (.lst xs) := by rw [← hH5]; exact upd_same
    have t4 := e5 _ _ (upd_same (H := upd (upd (upd H p1 (.tup [.str "a"])) p2 (.lst [])) p3 (.lst [.int 1])) (a := p4) (o := .tup [.int 0, .int 1]))
    have t3 := e5 _ _ (e4 _ _ (upd_same (H := upd (upd H p1 (.tup [.str "a"])) p2 (.lst [])) (a := p3) (o := .lst [.int 1])))
    have t2 := e5 _ _ (e4 _ _ (e3 _ _ (upd_same (H := upd H p1 (.tup [.str "a"])) (a := p2) (o := .lst []))))
    have t1 := e5 _ _ (e4 _ _ (e3 _ _ (e2 _ _ (upd_same (H := H) (a := p1) (o := .tup [.str "a"])))))
    have e : Ex H H5 := (((e1.trans e2).trans e3).trans e4).trans e5
    have hv : ∀ x ∈ xs, V92 H5 x := by
      rw [← hxs]
      exact List.forall_mem_cons.mpr ⟨.str _ (by decide +kernel), List.forall_mem_cons.mpr ⟨.str _ (by decide +kernel), List.forall_mem_cons.mpr ⟨.int _, List.forall_mem_cons.mpr ⟨.int _, List.forall_mem_cons.mpr ⟨.int _, List.forall_mem_cons.mpr ⟨.non, List.forall_mem_cons.mpr ⟨.bl _, List.forall_mem_cons.mpr ⟨.bl _, List.forall_mem_cons.mpr ⟨.tA t1, List.forall_mem_cons.mpr ⟨.l0 t2, List.forall_mem_cons.mpr ⟨.l1 t3, List.forall_mem_cons.mpr ⟨.tB t4, List.forall_mem_cons.mpr ⟨.str _ (by decide +kernel), List.forall_mem_cons.mpr ⟨.int _, List.forall_mem_nil _⟩⟩⟩⟩⟩⟩⟩⟩⟩⟩⟩⟩⟩⟩
    have hlen : xs.length = 14 := by rw [← hxs] <;> rfl
    obtain ⟨deep, seed, z1, z2, z3, ha⟩ := id hS
    have ha5 := e _ _ ha
    refine ⟨_, rfl, _, rfl, a, n, 14, rfl, by decide, by decide, ⟨deep, seed, z1, z2, z3, ha5⟩, hn0, by omega, fun r H' r0 r1 hS' hF => ?_⟩
    obtain ⟨j, hj⟩ : ∃ j : Nat, r = (j : Int) := ⟨r.toNat, by omega⟩
    have hj2 : j < xs.length := by omega
    have n5 : p5 ≠ a := fun q => by
      subst q
      rw [g5] at ha5
      injection ha5 with ha5
      injection ha5 with ha5
      rw [ha5] at hlen
      cases hlen
    refine ⟨p5, xs, _, xs[j], rfl, rfl, SqL.of ((hF p5 n5).trans g5), at_of hj (List.getElem?_eq_getElem hj2), ?_⟩
    exact q _ H' ((hv _ (List.getElem_mem hj2)).fx ha5 fun b o hb ho => (hF b hb).trans ho) hS' fun b o hb ho => (hF b hb).trans (e _ _ ho)
theorem kit_all (z : Z K mg) {i : Nat} (hi : i < 19) : PySem.W.kitOne K (.ref (He.ga K (cn i))) (.ref (He.ga K "CutError")) = some true ∧ PySem.W.kitOne K (.ref (He.ga K (cn i))) (.type "ValueError") = some true ∧ ∀ j, j < 19 → PySem.W.kitOne K (.ref (He.ga K (cn i))) (.ref (He.ga K (cn j))) = some (decide (i = j)) := by
  have h := List.all_eq_true.mp (He.ba (He.ba z.more).2).2 i (List.mem_range.mpr hi)
  obtain ⟨h1, h⟩ := He.ba h
  obtain ⟨h2, h3⟩ := He.ba h
  exact ⟨of_decide_eq_true h1, of_decide_eq_true h2, fun j hj => of_decide_eq_true (List.all_eq_true.mp h3 j (List.mem_range.mpr hj))⟩
theorem el_cat {ta tb : TE} {σ : L2.St} {H : Hp} {l : Addr} {xs ys : List V} (ha : Evl.Ev ta σ H (.ref l)) (hl : H l = some (.lst xs)) (hb : Evl.EvL tb σ H ys) (hz : xs.length + ys.length ≤ 100000) : Evl.EvL (tOp rCat ta tb) σ H (xs ++ ys) := fun H1 e Q q =>
  ha H1 e _ fun H2 e2 => hb H2 (e.trans e2) _ fun p H3 _ e3 hp => ⟨l, p, xs, ys, rfl, rfl, e3 _ _ (e2 _ _ (e _ _ hl)), hp, Evl.sz_of hz, fun r hr => q r _ (Evl.fresh_back (e2.trans e3) hr) ((e2.trans e3).trans (Ex.new hr)) upd_same⟩
theorem ev_isx (z : Z K mg) {σ : L2.St} {H : Hp} {e : Addr} {i j : Nat} (hσ : σ[0]? = some (some (.ref e))) (hi : i < 19) (hj : j < 19) (x : XAt K H e i) :
    Evl.Ev (tCB (rIsX K) (tCons (tVar 0) (tCons (tC (.ref (He.ga K (cn j)))) tNil))) σ H (.bl (decide (i = j))) := fun H1 e1 Q q => by
  obtain ⟨d, h1, h2⟩ := x.ex e1
  exact ⟨_, hσ, e, _, d, _, _, _, rfl, h1, h2, cn_ok z hi, fun u r => r, (kit_all z hi).2.2 j hj, q H1 (Ex.refl H1)⟩
theorem sc_classes : FnScope ["_law_e", "_law_found", "_law_k"] ["_law_e"] (defScope s__law_classes) := ⟨rfl, rfl, rfl, by decide +kernel, rfl, by decide +kernel, by decide +kernel⟩
theorem b_classes (z : Z K mg) : Binds K (fdOf K ("_law_classes", none)) ["_law_e"] [] := (f__law_classes z).bindsN fun _ _ _ _ _ _ us hl => match us, hl with | [_], _ => rfl
theorem pick {i : Nat} (hi : i < 19) : Evl.given 19 (fun j => decide (i = j)) (fun j => V.int (j : Int)) = [V.int (i : Int)] := by
  have h : ∀ i < 19, Evl.given 19 (fun j => decide (i = j)) (fun j => V.int (j : Int)) = [V.int (i : Int)] := by decide +kernel
  exact h i hi
theorem ok_classes (z : Z K mg) : FnOk P w K mg base CX0 2 (He.fAd K ("_law_classes", none)) (fdOf K ("_law_classes", none)) ["_law_e"] (spClasses K) := by
  refine (f__law_classes z).ok sc_classes (fun vs H Q E h => ?_) (fun cdv A outer s H vs Q E hr h => ?_)
  · obtain ⟨e, i, rfl, _⟩ := h
    rfl
  · obtain ⟨e, i, rfl, hi, hX, q⟩ := h
    refine ⟨_, PSs.nox (pss_cons (ps_set (i := 1) sc_classes.nd rfl (Or.inr rfl) (pe_lst (pa_cons (pe_callB call_isX rfl (n_isinstance z) boot_isinstance (pa_cons (pv 0) (pa_cons (pe_glob (v := .ref (He.ga K "InvalidText")) rfl (g_InvalidText z) rfl) pa_nil))) (pa_cons (pe_callB call_isX rfl (n_isinstance z) boot_isinstance (pa_cons (pv 0) (pa_cons (pe_glob (v := .ref (He.ga K "InvalidLexer")) rfl (g_InvalidLexer z) rfl) pa_nil))) (pa_cons (pe_callB call_isX rfl (n_isinstance z) boot_isinstance (pa_cons (pv 0) (pa_cons (pe_glob (v := .ref (He.ga K "TooLarge")) rfl (g_TooLarge z) rfl) pa_nil))) pa_nil)))))
      (pss_cons (ps_set (i := 1) sc_classes.nd rfl (Or.inr rfl) (pe_op op_cat (pv 1) (pe_lst (pa_cons (pe_callB call_isX rfl (n_isinstance z) boot_isinstance (pa_cons (pv 0) (pa_cons (pe_glob (v := .ref (He.ga K "UnknownMode")) rfl (g_UnknownMode z) rfl) pa_nil))) (pa_cons (pe_callB call_isX rfl (n_isinstance z) boot_isinstance (pa_cons (pv 0) (pa_cons (pe_glob (v := .ref (He.ga K "UnknownRule")) rfl (g_UnknownRule z) rfl) pa_nil))) (pa_cons (pe_callB call_isX rfl (n_isinstance z) boot_isinstance (pa_cons (pv 0) (pa_cons (pe_glob (v := .ref (He.ga K "Finished")) rfl (g_Finished z) rfl) pa_nil))) pa_nil))))))
      (pss_cons (ps_set (i := 1) sc_classes.nd rfl (Or.inr rfl) (pe_op op_cat (pv 1) (pe_lst (pa_cons (pe_callB call_isX rfl (n_isinstance z) boot_isinstance (pa_cons (pv 0) (pa_cons (pe_glob (v := .ref (He.ga K "InvalidRange")) rfl (g_InvalidRange z) rfl) pa_nil))) (pa_cons (pe_callB call_isX rfl (n_isinstance z) boot_isinstance (pa_cons (pv 0) (pa_cons (pe_glob (v := .ref (He.ga K "TooLong")) rfl (g_TooLong z) rfl) pa_nil))) (pa_cons (pe_callB call_isX rfl (n_isinstance z) boot_isinstance (pa_cons (pv 0) (pa_cons (pe_glob (v := .ref (He.ga K "NotFlat")) rfl (g_NotFlat z) rfl) pa_nil))) pa_nil))))))
      (pss_cons (ps_set (i := 1) sc_classes.nd rfl (Or.inr rfl) (pe_op op_cat (pv 1) (pe_lst (pa_cons (pe_callB call_isX rfl (n_isinstance z) boot_isinstance (pa_cons (pv 0) (pa_cons (pe_glob (v := .ref (He.ga K "AlphabetMismatch")) rfl (g_AlphabetMismatch z) rfl) pa_nil))) (pa_cons (pe_callB call_isX rfl (n_isinstance z) boot_isinstance (pa_cons (pv 0) (pa_cons (pe_glob (v := .ref (He.ga K "InvalidWord")) rfl (g_InvalidWord z) rfl) pa_nil))) (pa_cons (pe_callB call_isX rfl (n_isinstance z) boot_isinstance (pa_cons (pv 0) (pa_cons (pe_glob (v := .ref (He.ga K "InvalidNotation")) rfl (g_InvalidNotation z) rfl) pa_nil))) pa_nil))))))
      (pss_cons (ps_set (i := 1) sc_classes.nd rfl (Or.inr rfl) (pe_op op_cat (pv 1) (pe_lst (pa_cons (pe_callB call_isX rfl (n_isinstance z) boot_isinstance (pa_cons (pv 0) (pa_cons (pe_glob (v := .ref (He.ga K "InvalidName")) rfl (g_InvalidName z) rfl) pa_nil))) (pa_cons (pe_callB call_isX rfl (n_isinstance z) boot_isinstance (pa_cons (pv 0) (pa_cons (pe_glob (v := .ref (He.ga K "Incompatible")) rfl (g_Incompatible z) rfl) pa_nil))) (pa_cons (pe_callB call_isX rfl (n_isinstance z) boot_isinstance (pa_cons (pv 0) (pa_cons (pe_glob (v := .ref (He.ga K "UnknownName")) rfl (g_UnknownName z) rfl) pa_nil))) pa_nil))))))
      (pss_cons (ps_set (i := 1) sc_classes.nd rfl (Or.inr rfl) (pe_op op_cat (pv 1) (pe_lst (pa_cons (pe_callB call_isX rfl (n_isinstance z) boot_isinstance (pa_cons (pv 0) (pa_cons (pe_glob (v := .ref (He.ga K "InUse")) rfl (g_InUse z) rfl) pa_nil))) (pa_cons (pe_callB call_isX rfl (n_isinstance z) boot_isinstance (pa_cons (pv 0) (pa_cons (pe_glob (v := .ref (He.ga K "NameInUse")) rfl (g_NameInUse z) rfl) pa_nil))) (pa_cons (pe_callB call_isX rfl (n_isinstance z) boot_isinstance (pa_cons (pv 0) (pa_cons (pe_glob (v := .ref (He.ga K "NothingToUndo")) rfl (g_NothingToUndo z) rfl) pa_nil))) pa_nil))))))
      (pss_cons (ps_set (i := 1) sc_classes.nd rfl (Or.inr rfl) (pe_op op_cat (pv 1) (pe_lst (pa_cons (pe_callB call_isX rfl (n_isinstance z) boot_isinstance (pa_cons (pv 0) (pa_cons (pe_glob (v := .ref (He.ga K "NothingToRedo")) rfl (g_NothingToRedo z) rfl) pa_nil))) pa_nil))))
      (pss_one (ps_ret (pe_lc (own := [("_law_k", 2)]) (g := gName 2) (tt := tB (tOp (rIxL K) (tVar 1) (tVar 2))) (te := tVar 2) rfl sc_classes.nd (pi_range1 rfl (n_range z) (pa_cons pe_int pa_nil)) (blkOk_by (N := ["_law_e", "_law_found", "_law_k"]) (sc := defScope s__law_classes) (by decide +kernel)) (fun _ _ _ _ _ => pg_name (i := 2) sc_classes.nd rfl (Or.inl rfl)) (fun _ _ _ _ _ => pts_one (pt_val (pe_ix ix_list (pv 1) (pv 2) (fun _ _ => rfl)))) (fun _ _ _ _ _ => pv 2))))))))))), ?_⟩
    have EV : ∀ (σ : L2.St) (H1 : Hp) (j : Nat), σ[0]? = some (some (.ref e)) → Ex H H1 → j < 19 → Evl.Ev (tCB (rIsX K) (tCons (tVar 0) (tCons (tC (.ref (He.ga K (cn j)))) tNil))) σ H1 (.bl (decide (i = j))) := fun σ H1 j h0 e1 hj => ev_isx z h0 hi hj (hX.ex e1)
    refine Evl.q_asgL (Evl.el_lst (Evl.ea_cons (EV _ _ 0 rfl (Ex.refl H) (by decide)) (Evl.ea_cons (EV _ _ 1 rfl (Ex.refl H) (by decide)) (Evl.ea_cons (EV _ _ 2 rfl (Ex.refl H) (by decide)) Evl.ea_nil))) (Nat.le_of_ble_eq_true rfl)) fun p0 H0 _ e0 L0 => ?_
    refine Evl.q_asgL (el_cat (Evl.ev_var rfl) L0 (Evl.el_lst (Evl.ea_cons (EV _ _ 3 rfl e0 (by decide)) (Evl.ea_cons (EV _ _ 4 rfl e0 (by decide)) (Evl.ea_cons (EV _ _ 5 rfl e0 (by decide)) Evl.ea_nil))) (Nat.le_of_ble_eq_true rfl)) (Nat.le_of_ble_eq_true rfl)) fun p1 H1 _ e1 L1 => ?_
    refine Evl.q_asgL (el_cat (Evl.ev_var rfl) L1 (Evl.el_lst (Evl.ea_cons (EV _ _ 6 rfl (e0.trans e1) (by decide)) (Evl.ea_cons (EV _ _ 7 rfl (e0.trans e1) (by decide)) (Evl.ea_cons (EV _ _ 8 rfl (e0.trans e1) (by decide)) Evl.ea_nil))) (Nat.le_of_ble_eq_true rfl)) (Nat.le_of_ble_eq_true rfl)) fun p2 H2 _ e2 L2 => ?_
    refine Evl.q_asgL (el_cat (Evl.ev_var rfl) L2 (Evl.el_lst (Evl.ea_cons (EV _ _ 9 rfl ((e0.trans e1).trans e2) (by decide)) (Evl.ea_cons (EV _ _ 10 rfl ((e0.trans e1).trans e2) (by decide)) (Evl.ea_cons (EV _ _ 11 rfl ((e0.trans e1).trans e2) (by decide)) Evl.ea_nil))) (Nat.le_of_ble_eq_true rfl)) (Nat.le_of_ble_eq_true rfl)) fun p3 H3 _ e3 L3 => ?_
    refine Evl.q_asgL (el_cat (Evl.ev_var rfl) L3 (Evl.el_lst (Evl.ea_cons (EV _ _ 12 rfl (((e0.trans e1).trans e2).trans e3) (by decide)) (Evl.ea_cons (EV _ _ 13 rfl (((e0.trans e1).trans e2).trans e3) (by decide)) (Evl.ea_cons (EV _ _ 14 rfl (((e0.trans e1).trans e2).trans e3) (by decide)) Evl.ea_nil))) (Nat.le_of_ble_eq_true rfl)) (Nat.le_of_ble_eq_true rfl)) fun p4 H4 _ e4 L4 => ?_
    refine Evl.q_asgL (el_cat (Evl.ev_var rfl) L4 (Evl.el_lst (Evl.ea_cons (EV _ _ 15 rfl ((((e0.trans e1).trans e2).trans e3).trans e4) (by decide)) (Evl.ea_cons (EV _ _ 16 rfl ((((e0.trans e1).trans e2).trans e3).trans e4) (by decide)) (Evl.ea_cons (EV _ _ 17 rfl ((((e0.trans e1).trans e2).trans e3).trans e4) (by decide)) Evl.ea_nil))) (Nat.le_of_ble_eq_true rfl)) (Nat.le_of_ble_eq_true rfl)) fun p5 H5 _ e5 L5 => ?_
    refine Evl.q_asgL (el_cat (Evl.ev_var rfl) L5 (Evl.el_lst (Evl.ea_cons (EV _ _ 18 rfl (((((e0.trans e1).trans e2).trans e3).trans e4).trans e5) (by decide)) Evl.ea_nil) (Nat.le_of_ble_eq_true rfl)) (Nat.le_of_ble_eq_true rfl)) fun p6 H6 _ e6 L6 => ?_
    have el : ([V.bl (decide (i = 0)), V.bl (decide (i = 1)), V.bl (decide (i = 2))] ++ [V.bl (decide (i = 3)), V.bl (decide (i = 4)), V.bl (decide (i = 5))] ++ [V.bl (decide (i = 6)), V.bl (decide (i = 7)), V.bl (decide (i = 8))] ++ [V.bl (decide (i = 9)), V.bl (decide (i = 10)), V.bl (decide (i = 11))] ++ [V.bl (decide (i = 12)), V.bl (decide (i = 13)), V.bl (decide (i = 14))] ++ [V.bl (decide (i = 15)), V.bl (decide (i = 16)), V.bl (decide (i = 17))] ++ [V.bl (decide (i = 18))]) = (List.range 19).map fun j => V.bl (decide (i = j)) := rfl
    rw [el] at L6
    refine Evl.s_retL (Evl.el_lcR1 (fun j => decide (i = j)) (fun j => V.int (j : Int)) (Evl.ea_cons Evl.ev_c Evl.ea_nil) (by decide) (fun x => rfl) (fun j H7 e7 hj => ?_) (fun j H7 e7 hj _ => Evl.ev_var rfl)) fun p H' _ e' hp => ?_
    · have hj2 : j < 19 := by omega
      exact Evl.et_B (Evl.ev_op (Evl.ev_var rfl) (Evl.ev_var rfl) (Evl.rv_ixL (SqL.of (e7 _ _ L6)) (at_of rfl (by rw [List.getElem?_map, List.getElem?_range hj2] <;> rfl))))
    · exact q p H' (((((((e0.trans e1).trans e2).trans e3).trans e4).trans e5).trans e6).trans e') (hp.trans (congrArg (fun l => some (HO.lst l)) (pick hi)))
/-- the returned pair of an error with one field -/
theorem fin1 {H H1 : Hp} {Q : VK} {i : Nat} {a b c x : V} {e : Addr} (q : ∀ (t e l : Addr) (ps : List Addr) (H' : Hp), Ex H H' → H' t = some (.tup [.ref e, .ref l]) → XAt K H' e i → H' l = some (.lst (ps.map V.ref)) → ps.length ≤ 3 → (∀ p ∈ ps, ∃ x, x ∈ [a, b, c] ∧ H' p = some (.tup [x, x])) → Q (.ref t) H')
    (e1 : Ex H H1) (hX : XAt K H1 e i) (hx : x ∈ [a, b, c]) (p : Addr) (hp : H1 p = none) (l : Addr) (hl : upd H1 p (.tup [x, x]) l = none) (t : Addr) (ht : upd (upd H1 p (.tup [x, x])) l (.lst [.ref p]) t = none) :
    Q (.ref t) (upd (upd (upd H1 p (.tup [x, x])) l (.lst [.ref p])) t (.tup [.ref e, .ref l])) := by
  have x1 := Ex.new (o := .tup [x, x]) hp
  have x2 := Ex.new (o := .lst [.ref p]) hl
  have x3 := Ex.new (o := .tup [.ref e, .ref l]) ht
  refine q t e l [p] _ (((e1.trans x1).trans x2).trans x3) upd_same (hX.ex ((x1.trans x2).trans x3)) (x3 _ _ upd_same) (by show 1 ≤ 3; decide) fun y hy => ?_
  rw [List.mem_singleton.mp hy]
  exact ⟨x, hx, x3 _ _ (x2 _ _ upd_same)⟩
theorem look1 {f : Str} {x : V} : ([(f, x)] : List (Str × V)).lookup f = some x := by
  rw [lookup_put, if_pos rfl]
theorem XAt.mk1 {H : Hp} {e d : Addr} {i : Nat} {fs : List (Str × V)} (h1 : H e = some (exo e (He.ga K (cn i)) (some d))) (h2 : H d = some (exd d fs)) : XAt K H e i := ⟨some d, h1, fun dx q => by
  cases q
  exact ⟨fs, h2⟩⟩
theorem XAt.mk0 {H : Hp} {e : Addr} {i : Nat} (h1 : H e = some (exo e (He.ga K (cn i)) none)) : XAt K H e i := ⟨none, h1, fun dx q => nomatch q⟩
theorem sc_made : FnScope ["_law_way", "_law_a", "_law_b", "_law_c", "_law_e", "_law_one"] ["_law_way", "_law_a", "_law_b", "_law_c"] (defScope s__law_made) := ⟨rfl, rfl, rfl, by decide +kernel, rfl, by decide +kernel, by decide +kernel⟩
theorem b_made (z : Z K mg) : Binds K (fdOf K ("_law_made", none)) ["_law_way", "_law_a", "_law_b", "_law_c"] [] := (f__law_made z).bindsN fun _ _ _ _ _ _ us hl => match us, hl with | [_, _, _, _], _ => rfl
theorem ok_made (z : Z K mg) : FnOk P w K mg base CX0 4 (He.fAd K ("_law_made", none)) (fdOf K ("_law_made", none)) ["_law_way", "_law_a", "_law_b", "_law_c"] (spMade K) := by
  refine (f__law_made z).ok sc_made (fun vs H Q E h => ?_) (fun cdv A outer s H vs Q E hr h => ?_)
  · obtain ⟨i, a, b, c, rfl, _⟩ := h
    rfl
  · obtain ⟨i, a, b, c, rfl, hi, q⟩ := h
    refine ⟨_, PSs.nox (pss_cons (ps_if (pt_cmpR op_eq (pv 0) pe_int (nomark _)) (pss_cons (ps_set (i := 4) sc_made.nd rfl (Or.inl rfl) (pe_mkx (x_InvalidLexer z) (m_InvalidLexer z).at_ (beq_iff_eq.mp (m_InvalidLexer z).fn) (ok_InvalidLexer__init__ z) (hr.mono (by decide)) (b_InvalidLexer__init__ z) .nil pass0 rfl (g_InvalidLexer z) (pa_cons (pv 1) (pa_cons (pv 2) (pa_cons (pv 3) pa_nil))))) (pss_one (ps_ret (pe_tup (pa_cons (pv 4) (pa_cons (pe_lst (pa_cons (pe_tup (pa_cons (pe_xv (pv 4)) (pa_cons (pv 1) pa_nil))) (pa_cons (pe_tup (pa_cons (pe_xv (pv 4)) (pa_cons (pv 2) pa_nil))) (pa_cons (pe_tup (pa_cons (pe_xv (pv 4)) (pa_cons (pv 3) pa_nil))) pa_nil)))) pa_nil)))))) pss_nil)
      (pss_cons (ps_if (pt_cmpR op_in_seq (pv 0) (pe_tup (pa_cons pe_int (pa_cons pe_int (pa_cons pe_int (pa_cons pe_int (pa_cons pe_int pa_nil)))))) rfl) (pss_cons (ps_set (i := 5) sc_made.nd rfl (Or.inl rfl) (pe_lst (pa_cons (pe_mkx0 (x_Finished z) (m_Finished z).at_ (beq_iff_eq.mp (m_Finished z).fn) (ok_Finished__init__ z) (hr.mono (by decide)) (b_Finished__init__ z) .nil pass0 rfl (g_Finished z)) (pa_cons (pe_mkx0 (x_NotFlat z) (m_NotFlat z).at_ (beq_iff_eq.mp (m_NotFlat z).fn) (ok_NotFlat__init__ z) (hr.mono (by decide)) (b_NotFlat__init__ z) .nil pass0 rfl (g_NotFlat z)) (pa_cons (pe_mkx0 (x_AlphabetMismatch z) (m_AlphabetMismatch z).at_ (beq_iff_eq.mp (m_AlphabetMismatch z).fn) (ok_AlphabetMismatch__init__ z) (hr.mono (by decide)) (b_AlphabetMismatch__init__ z) .nil pass0 rfl (g_AlphabetMismatch z)) (pa_cons (pe_mkx0 (x_NothingToUndo z) (m_NothingToUndo z).at_ (beq_iff_eq.mp (m_NothingToUndo z).fn) (ok_NothingToUndo__init__ z) (hr.mono (by decide)) (b_NothingToUndo__init__ z) .nil pass0 rfl (g_NothingToUndo z)) (pa_cons (pe_mkx0 (x_NothingToRedo z) (m_NothingToRedo z).at_ (beq_iff_eq.mp (m_NothingToRedo z).fn) (ok_NothingToRedo__init__ z) (hr.mono (by decide)) (b_NothingToRedo__init__ z) .nil pass0 rfl (g_NothingToRedo z)) pa_nil))))))) (pss_one (ps_ret (pe_tup (pa_cons (pe_ix ix_list (pv 5) (pe_bm PySem.F.plainAttrs_list PySem.F.slot_list_index PySem.F.type_list_index mt_index (pe_lst (pa_cons pe_int (pa_cons pe_int (pa_cons pe_int (pa_cons pe_int (pa_cons pe_int pa_nil)))))) (pa_cons (pv 0) pa_nil)) (fun _ _ => rfl)) (pa_cons (pe_lst pa_nil) pa_nil)))))) pss_nil)
      (pss_cons (ps_if (pt_cmpR op_in_seq (pv 0) (pe_tup (pa_cons pe_int (pa_cons pe_int pa_nil))) rfl) (pss_cons (ps_set (i := 4) sc_made.nd rfl (Or.inl rfl) (pe_ifExp (pt_cmpR op_eq (pv 0) pe_int (nomark _)) (pe_mkx (x_InvalidText z) (m_InvalidText z).at_ (beq_iff_eq.mp (m_InvalidText z).fn) (ok_InvalidText__init__ z) (hr.mono (by decide)) (b_InvalidText__init__ z) .nil pass0 rfl (g_InvalidText z) (pa_cons (pv 1) pa_nil)) (pe_mkx (x_InvalidRange z) (m_InvalidRange z).at_ (beq_iff_eq.mp (m_InvalidRange z).fn) (ok_InvalidRange__init__ z) (hr.mono (by decide)) (b_InvalidRange__init__ z) .nil pass0 rfl (g_InvalidRange z) (pa_cons (pv 1) pa_nil)))) (pss_one (ps_ret (pe_tup (pa_cons (pv 4) (pa_cons (pe_lst (pa_cons (pe_tup (pa_cons (pe_xv (pv 4)) (pa_cons (pv 1) pa_nil))) pa_nil)) pa_nil)))))) pss_nil)
      (pss_cons (ps_if (pt_cmpR op_in_seq (pv 0) (pe_tup (pa_cons pe_int (pa_cons pe_int pa_nil))) rfl) (pss_cons (ps_set (i := 4) sc_made.nd rfl (Or.inl rfl) (pe_ifExp (pt_cmpR op_eq (pv 0) pe_int (nomark _)) (pe_mkx (x_TooLarge z) (m_TooLarge z).at_ (beq_iff_eq.mp (m_TooLarge z).fn) (ok_TooLarge__init__ z) (hr.mono (by decide)) (b_TooLarge__init__ z) .nil pass0 rfl (g_TooLarge z) (pa_cons (pv 1) pa_nil)) (pe_mkx (x_TooLong z) (m_TooLong z).at_ (beq_iff_eq.mp (m_TooLong z).fn) (ok_TooLong__init__ z) (hr.mono (by decide)) (b_TooLong__init__ z) .nil pass0 rfl (g_TooLong z) (pa_cons (pv 1) pa_nil)))) (pss_one (ps_ret (pe_tup (pa_cons (pv 4) (pa_cons (pe_lst (pa_cons (pe_tup (pa_cons (pe_ifExp (pt_cmpR op_eq (pv 0) pe_int (nomark _)) (pe_xv (pv 4)) (pe_xv (pv 4))) (pa_cons (pv 1) pa_nil))) pa_nil)) pa_nil)))))) pss_nil)
      (pss_cons (ps_if (pt_cmpR op_in_seq (pv 0) (pe_tup (pa_cons pe_int (pa_cons pe_int pa_nil))) rfl) (pss_cons (ps_set (i := 4) sc_made.nd rfl (Or.inl rfl) (pe_ifExp (pt_cmpR op_eq (pv 0) pe_int (nomark _)) (pe_mkx (x_InvalidWord z) (m_InvalidWord z).at_ (beq_iff_eq.mp (m_InvalidWord z).fn) (ok_InvalidWord__init__ z) (hr.mono (by decide)) (b_InvalidWord__init__ z) .nil pass0 rfl (g_InvalidWord z) (pa_cons (pv 1) pa_nil)) (pe_mkx (x_InvalidNotation z) (m_InvalidNotation z).at_ (beq_iff_eq.mp (m_InvalidNotation z).fn) (ok_InvalidNotation__init__ z) (hr.mono (by decide)) (b_InvalidNotation__init__ z) .nil pass0 rfl (g_InvalidNotation z) (pa_cons (pv 1) pa_nil)))) (pss_one (ps_ret (pe_tup (pa_cons (pv 4) (pa_cons (pe_lst (pa_cons (pe_tup (pa_cons (pe_xv (pv 4)) (pa_cons (pv 1) pa_nil))) pa_nil)) pa_nil)))))) pss_nil)
      (pss_cons (ps_if (pt_cmpR op_in_seq (pv 0) (pe_tup (pa_cons pe_int (pa_cons pe_int (pa_cons pe_int pa_nil)))) rfl) (pss_cons (ps_set (i := 4) sc_made.nd rfl (Or.inl rfl) (pe_ix ix_list (pe_lst (pa_cons (pe_mkx (x_Incompatible z) (m_Incompatible z).at_ (beq_iff_eq.mp (m_Incompatible z).fn) (ok_Incompatible__init__ z) (hr.mono (by decide)) (b_Incompatible__init__ z) .nil pass0 rfl (g_Incompatible z) (pa_cons (pv 1) pa_nil)) (pa_cons (pe_mkx (x_InUse z) (m_InUse z).at_ (beq_iff_eq.mp (m_InUse z).fn) (ok_InUse__init__ z) (hr.mono (by decide)) (b_InUse__init__ z) .nil pass0 rfl (g_InUse z) (pa_cons (pv 1) pa_nil)) (pa_cons (pe_mkx (x_NameInUse z) (m_NameInUse z).at_ (beq_iff_eq.mp (m_NameInUse z).fn) (ok_NameInUse__init__ z) (hr.mono (by decide)) (b_NameInUse__init__ z) .nil pass0 rfl (g_NameInUse z) (pa_cons (pv 1) pa_nil)) pa_nil)))) (pe_bm PySem.F.plainAttrs_list PySem.F.slot_list_index PySem.F.type_list_index mt_index (pe_lst (pa_cons pe_int (pa_cons pe_int (pa_cons pe_int pa_nil)))) (pa_cons (pv 0) pa_nil)) (fun _ _ => rfl))) (pss_one (ps_ret (pe_tup (pa_cons (pv 4) (pa_cons (pe_lst (pa_cons (pe_tup (pa_cons (pe_xv (pv 4)) (pa_cons (pv 1) pa_nil))) pa_nil)) pa_nil)))))) pss_nil)
      (pss_cons (ps_set (i := 4) sc_made.nd rfl (Or.inl rfl) (pe_ix ix_list (pe_lst (pa_cons (pe_mkx (x_UnknownMode z) (m_UnknownMode z).at_ (beq_iff_eq.mp (m_UnknownMode z).fn) (ok_UnknownMode__init__ z) (hr.mono (by decide)) (b_UnknownMode__init__ z) .nil pass0 rfl (g_UnknownMode z) (pa_cons (pv 1) pa_nil)) (pa_cons (pe_mkx (x_UnknownRule z) (m_UnknownRule z).at_ (beq_iff_eq.mp (m_UnknownRule z).fn) (ok_UnknownRule__init__ z) (hr.mono (by decide)) (b_UnknownRule__init__ z) .nil pass0 rfl (g_UnknownRule z) (pa_cons (pv 1) pa_nil)) (pa_cons (pe_mkx (x_InvalidName z) (m_InvalidName z).at_ (beq_iff_eq.mp (m_InvalidName z).fn) (ok_InvalidName__init__ z) (hr.mono (by decide)) (b_InvalidName__init__ z) .nil pass0 rfl (g_InvalidName z) (pa_cons (pv 1) pa_nil)) (pa_cons (pe_mkx (x_UnknownName z) (m_UnknownName z).at_ (beq_iff_eq.mp (m_UnknownName z).fn) (ok_UnknownName__init__ z) (hr.mono (by decide)) (b_UnknownName__init__ z) .nil pass0 rfl (g_UnknownName z) (pa_cons (pv 1) pa_nil)) pa_nil))))) (pe_bm PySem.F.plainAttrs_list PySem.F.slot_list_index PySem.F.type_list_index mt_index (pe_lst (pa_cons pe_int (pa_cons pe_int (pa_cons pe_int (pa_cons pe_int pa_nil))))) (pa_cons (pv 0) pa_nil)) (fun _ _ => rfl))) (pss_one (ps_ret (pe_tup (pa_cons (pv 4) (pa_cons (pe_lst (pa_cons (pe_tup (pa_cons (pe_xv (pv 4)) (pa_cons (pv 1) pa_nil))) pa_nil)) pa_nil)))))))))))), ?_⟩
    match i, hi with
    | 0, _ =>
      refine ⟨_, rfl, rfl, _, rfl, iteN rfl ?_⟩
      refine ⟨_, rfl, (by show 5 ≤ sizeLine; decide), fun t0 h0 => ⟨t0, _, rfl, .inr (SqT.of upd_same), rfl, rfl, _, rfl, iteN rfl ?_⟩⟩
      have z0 := Ex.trans (Ex.refl H) (Ex.new (o := .tup [.int 5, .int 8, .int 9, .int 17, .int 18]) h0)
      refine ⟨_, rfl, (by show 2 ≤ sizeLine; decide), fun t1 h1 => ⟨t1, _, rfl, .inr (SqT.of upd_same), rfl, rfl, _, rfl, iteY rfl ?_⟩⟩
      have z1 := Ex.trans z0 (Ex.new (o := .tup [.int 0, .int 6]) h1)
      refine ⟨_, rfl, rfl, _, rfl, iteY rfl ?_⟩
      refine ⟨_, rfl, mkx rfl (by decide) fun e d H1 n1 h1 h2 x1 => ?_⟩
      refine ⟨_, rfl, _, rfl, e, _, d, _, a, rfl, h1, h2, x_InvalidText z, a_InvalidText_position z, look1, _, rfl, (by show 2 ≤ sizeLine; decide), fun p1 f1 => ⟨(by show 1 ≤ sizeLine; decide), fun l fl => ⟨(by show 2 ≤ sizeLine; decide), fun t ft => ?_⟩⟩⟩
      exact fin1 (i := 0) q (z1.trans x1) (XAt.mk1 h1 h2) (by simp) p1 f1 l fl t ft
    | 1, _ =>
      refine ⟨_, rfl, rfl, _, rfl, iteY rfl ?_⟩
      refine ⟨_, rfl, _, rfl, _, rfl, mkx rfl (by decide) fun e d H1 n1 h1 h2 x1 => ?_⟩
      have X := x_InvalidLexer z
      have l1 : ((["reason", "mode", "rule"] : List Str).zip [a, b, c]).reverse.lookup ("reason" : Str) = some a := rfl
      have l2 : ((["reason", "mode", "rule"] : List Str).zip [a, b, c]).reverse.lookup ("mode" : Str) = some b := rfl
      have l3 : ((["reason", "mode", "rule"] : List Str).zip [a, b, c]).reverse.lookup ("rule" : Str) = some c := rfl
      refine ⟨_, rfl, _, rfl, e, _, d, _, a, rfl, h1, h2, X, a_InvalidLexer_reason z, l1, _, rfl, (by show 2 ≤ sizeLine; decide), fun p1 f1 => ?_⟩
      have y1 := Ex.new (o := .tup [a, a]) f1
      refine ⟨_, rfl, e, _, d, _, b, rfl, y1 _ _ h1, y1 _ _ h2, X, a_InvalidLexer_mode z, l2, _, rfl, (by show 2 ≤ sizeLine; decide), fun p2 f2 => ?_⟩
      have y2 := Ex.new (o := .tup [b, b]) f2
      refine ⟨_, rfl, e, _, d, _, c, rfl, y2 _ _ (y1 _ _ h1), y2 _ _ (y1 _ _ h2), X, a_InvalidLexer_rule z, l3, _, rfl, (by show 2 ≤ sizeLine; decide), fun p3 f3 => ?_⟩
      have y3 := Ex.new (o := .tup [c, c]) f3
      refine ⟨(by show 3 ≤ sizeLine; decide), fun l fl => ⟨(by show 2 ≤ sizeLine; decide), fun t ft => ?_⟩⟩
      have y4 := Ex.new (o := .lst [.ref p1, .ref p2, .ref p3]) fl
      have y5 := Ex.new (o := .tup [.ref e, .ref l]) ft
      refine q t e l [p1, p2, p3] _ (((((x1.trans y1).trans y2).trans y3).trans y4).trans y5) upd_same ((XAt.mk1 (i := 1) h1 h2).ex ((((y1.trans y2).trans y3).trans y4).trans y5)) (y5 _ _ upd_same) (by show 3 ≤ 3; decide) ?_
      exact List.forall_mem_cons.mpr ⟨⟨a, by simp, y5 _ _ (y4 _ _ (y3 _ _ (y2 _ _ upd_same)))⟩, List.forall_mem_cons.mpr ⟨⟨b, by simp, y5 _ _ (y4 _ _ (y3 _ _ upd_same))⟩, List.forall_mem_cons.mpr ⟨⟨c, by simp, y5 _ _ (y4 _ _ upd_same)⟩, List.forall_mem_nil _⟩⟩⟩
    | 2, _ =>
      refine ⟨_, rfl, rfl, _, rfl, iteN rfl ?_⟩
      refine ⟨_, rfl, (by show 5 ≤ sizeLine; decide), fun t0 h0 => ⟨t0, _, rfl, .inr (SqT.of upd_same), rfl, rfl, _, rfl, iteN rfl ?_⟩⟩
      have z0 := Ex.trans (Ex.refl H) (Ex.new (o := .tup [.int 5, .int 8, .int 9, .int 17, .int 18]) h0)
      refine ⟨_, rfl, (by show 2 ≤ sizeLine; decide), fun t1 h1 => ⟨t1, _, rfl, .inr (SqT.of upd_same), rfl, rfl, _, rfl, iteN rfl ?_⟩⟩
      have z1 := Ex.trans z0 (Ex.new (o := .tup [.int 0, .int 6]) h1)
      refine ⟨_, rfl, (by show 2 ≤ sizeLine; decide), fun t2 h2 => ⟨t2, _, rfl, .inr (SqT.of upd_same), rfl, rfl, _, rfl, iteY rfl ?_⟩⟩
      have z2 := Ex.trans z1 (Ex.new (o := .tup [.int 2, .int 7]) h2)
      refine ⟨_, rfl, rfl, _, rfl, iteY rfl ?_⟩
      refine ⟨_, rfl, mkx rfl (by decide) fun e d H1 n1 h1 h2 x1 => ?_⟩
      refine ⟨_, rfl, _, rfl, rfl, _, rfl, iteY rfl ?_⟩
      refine ⟨_, rfl, e, _, d, _, a, rfl, h1, h2, x_TooLarge z, a_TooLarge_what z, look1, _, rfl, (by show 2 ≤ sizeLine; decide), fun p1 f1 => ⟨(by show 1 ≤ sizeLine; decide), fun l fl => ⟨(by show 2 ≤ sizeLine; decide), fun t ft => ?_⟩⟩⟩
      exact fin1 (i := 2) q (z2.trans x1) (XAt.mk1 h1 h2) (by simp) p1 f1 l fl t ft
    | 3, _ =>
      refine ⟨_, rfl, rfl, _, rfl, iteN rfl ?_⟩
      refine ⟨_, rfl, (by show 5 ≤ sizeLine; decide), fun t0 h0 => ⟨t0, _, rfl, .inr (SqT.of upd_same), rfl, rfl, _, rfl, iteN rfl ?_⟩⟩
      have z0 := Ex.trans (Ex.refl H) (Ex.new (o := .tup [.int 5, .int 8, .int 9, .int 17, .int 18]) h0)
      refine ⟨_, rfl, (by show 2 ≤ sizeLine; decide), fun t1 h1 => ⟨t1, _, rfl, .inr (SqT.of upd_same), rfl, rfl, _, rfl, iteN rfl ?_⟩⟩
      have z1 := Ex.trans z0 (Ex.new (o := .tup [.int 0, .int 6]) h1)
      refine ⟨_, rfl, (by show 2 ≤ sizeLine; decide), fun t2 h2 => ⟨t2, _, rfl, .inr (SqT.of upd_same), rfl, rfl, _, rfl, iteN rfl ?_⟩⟩
      have z2 := Ex.trans z1 (Ex.new (o := .tup [.int 2, .int 7]) h2)
      refine ⟨_, rfl, (by show 2 ≤ sizeLine; decide), fun t3 h3 => ⟨t3, _, rfl, .inr (SqT.of upd_same), rfl, rfl, _, rfl, iteN rfl ?_⟩⟩
      have z3 := Ex.trans z2 (Ex.new (o := .tup [.int 10, .int 11]) h3)
      refine ⟨_, rfl, (by show 3 ≤ sizeLine; decide), fun t4 h4 => ⟨t4, _, rfl, .inr (SqT.of upd_same), rfl, rfl, _, rfl, iteN rfl ?_⟩⟩
      have z4 := Ex.trans z3 (Ex.new (o := .tup [.int 13, .int 15, .int 16]) h4)
      refine ⟨_, rfl, mkx rfl (by decide) fun e0 d0 H0 n0 g0 k0 x0 => ⟨_, rfl, mkx rfl (by decide) fun e1 d1 H1 n1 g1 k1 x1 => ⟨_, rfl, mkx rfl (by decide) fun e2 d2 H2 n2 g2 k2 x2 => ⟨_, rfl, mkx rfl (by decide) fun e3 d3 H3 n3 g3 k3 x3 => ⟨(by show 4 ≤ sizeLine; decide), fun l fl => ?_⟩⟩⟩⟩⟩
      have y1 := Ex.new (o := .lst [.ref e0, .ref e1, .ref e2, .ref e3]) fl
      refine ⟨(by show 4 ≤ sizeLine; decide), fun m fm => ⟨.inl ⟨rfl, _, SqL.of upd_same⟩, _, rfl, m, _, _, 0, _, rfl, rfl, SqL.of upd_same, rfl, rfl, rfl, rfl, ?_, ?_⟩⟩
      · intro mm z' hm hz
        match mm, hm with
        | mm, hm => exact absurd hm (Nat.not_lt_zero _)
      have y2 := Ex.new (o := .lst [.int 3, .int 4, .int 12, .int 14]) fm
      refine ⟨l, _, _, .ref e0, rfl, rfl, SqL.of (y2 _ _ upd_same), at_of (j := 0) rfl rfl, ?_⟩
      have up := (x1.trans (x2.trans (x3.trans y1))).trans y2
      refine ⟨_, rfl, _, rfl, e0, _, d0, _, a, rfl, up _ _ g0, up _ _ k0, x_UnknownMode z, a_UnknownMode_name z, look1, _, rfl, (by show 2 ≤ sizeLine; decide), fun p1 f1 => ⟨(by show 1 ≤ sizeLine; decide), fun l fl => ⟨(by show 2 ≤ sizeLine; decide), fun t ft => ?_⟩⟩⟩
      exact fin1 (i := 3) q ((((((z4.trans x0).trans x1).trans x2).trans x3).trans y1).trans y2) ((XAt.mk1 g0 k0).ex up) (by simp) p1 f1 l fl t ft
    | 4, _ =>
      refine ⟨_, rfl, rfl, _, rfl, iteN rfl ?_⟩
      refine ⟨_, rfl, (by show 5 ≤ sizeLine; decide), fun t0 h0 => ⟨t0, _, rfl, .inr (SqT.of upd_same), rfl, rfl, _, rfl, iteN rfl ?_⟩⟩
      have z0 := Ex.trans (Ex.refl H) (Ex.new (o := .tup [.int 5, .int 8, .int 9, .int 17, .int 18]) h0)
      refine ⟨_, rfl, (by show 2 ≤ sizeLine; decide), fun t1 h1 => ⟨t1, _, rfl, .inr (SqT.of upd_same), rfl, rfl, _, rfl, iteN rfl ?_⟩⟩
      have z1 := Ex.trans z0 (Ex.new (o := .tup [.int 0, .int 6]) h1)
      refine ⟨_, rfl, (by show 2 ≤ sizeLine; decide), fun t2 h2 => ⟨t2, _, rfl, .inr (SqT.of upd_same), rfl, rfl, _, rfl, iteN rfl ?_⟩⟩
      have z2 := Ex.trans z1 (Ex.new (o := .tup [.int 2, .int 7]) h2)
      refine ⟨_, rfl, (by show 2 ≤ sizeLine; decide), fun t3 h3 => ⟨t3, _, rfl, .inr (SqT.of upd_same), rfl, rfl, _, rfl, iteN rfl ?_⟩⟩
      have z3 := Ex.trans z2 (Ex.new (o := .tup [.int 10, .int 11]) h3)
      refine ⟨_, rfl, (by show 3 ≤ sizeLine; decide), fun t4 h4 => ⟨t4, _, rfl, .inr (SqT.of upd_same), rfl, rfl, _, rfl, iteN rfl ?_⟩⟩
      have z4 := Ex.trans z3 (Ex.new (o := .tup [.int 13, .int 15, .int 16]) h4)
      refine ⟨_, rfl, mkx rfl (by decide) fun e0 d0 H0 n0 g0 k0 x0 => ⟨_, rfl, mkx rfl (by decide) fun e1 d1 H1 n1 g1 k1 x1 => ⟨_, rfl, mkx rfl (by decide) fun e2 d2 H2 n2 g2 k2 x2 => ⟨_, rfl, mkx rfl (by decide) fun e3 d3 H3 n3 g3 k3 x3 => ⟨(by show 4 ≤ sizeLine; decide), fun l fl => ?_⟩⟩⟩⟩⟩
      have y1 := Ex.new (o := .lst [.ref e0, .ref e1, .ref e2, .ref e3]) fl
      refine ⟨(by show 4 ≤ sizeLine; decide), fun m fm => ⟨.inl ⟨rfl, _, SqL.of upd_same⟩, _, rfl, m, _, _, 1, _, rfl, rfl, SqL.of upd_same, rfl, rfl, rfl, rfl, ?_, ?_⟩⟩
      · intro mm z' hm hz
        match mm, hm with
        | 0, _ =>
          cases hz
          rfl
      have y2 := Ex.new (o := .lst [.int 3, .int 4, .int 12, .int 14]) fm
      refine ⟨l, _, _, .ref e1, rfl, rfl, SqL.of (y2 _ _ upd_same), at_of (j := 1) rfl rfl, ?_⟩
      have up := (x2.trans (x3.trans y1)).trans y2
      refine ⟨_, rfl, _, rfl, e1, _, d1, _, a, rfl, up _ _ g1, up _ _ k1, x_UnknownRule z, a_UnknownRule_name z, look1, _, rfl, (by show 2 ≤ sizeLine; decide), fun p1 f1 => ⟨(by show 1 ≤ sizeLine; decide), fun l fl => ⟨(by show 2 ≤ sizeLine; decide), fun t ft => ?_⟩⟩⟩
      exact fin1 (i := 4) q ((((((z4.trans x0).trans x1).trans x2).trans x3).trans y1).trans y2) ((XAt.mk1 g1 k1).ex up) (by simp) p1 f1 l fl t ft
    | 5, _ =>
      refine ⟨_, rfl, rfl, _, rfl, iteN rfl ?_⟩
      refine ⟨_, rfl, (by show 5 ≤ sizeLine; decide), fun t0 h0 => ⟨t0, _, rfl, .inr (SqT.of upd_same), rfl, rfl, _, rfl, iteY rfl ?_⟩⟩
      have z0 := Ex.trans (Ex.refl H) (Ex.new (o := .tup [.int 5, .int 8, .int 9, .int 17, .int 18]) h0)
      refine mkx0 fun e0 H0 n0 g0 x0 => mkx0 fun e1 H1 n1 g1 x1 => mkx0 fun e2 H2 n2 g2 x2 => mkx0 fun e3 H3 n3 g3 x3 => mkx0 fun e4 H4 n4 g4 x4 => ⟨(by show 5 ≤ sizeLine; decide), fun l fl => ?_⟩
      have y1 := Ex.new (o := .lst [.ref e0, .ref e1, .ref e2, .ref e3, .ref e4]) fl
      refine ⟨_, rfl, (by show 5 ≤ sizeLine; decide), fun m fm => ⟨.inl ⟨rfl, _, SqL.of upd_same⟩, _, rfl, m, _, _, 0, _, rfl, rfl, SqL.of upd_same, rfl, rfl, rfl, rfl, ?_, ?_⟩⟩
      · intro mm z' hm hz
        match mm, hm with
        | mm, hm => exact absurd hm (Nat.not_lt_zero _)
      have y2 := Ex.new (o := .lst [.int 5, .int 8, .int 9, .int 17, .int 18]) fm
      refine ⟨l, _, _, .ref e0, rfl, rfl, SqL.of (y2 _ _ upd_same), at_of (j := 0) rfl rfl, ?_⟩
      refine ⟨(by show 0 ≤ sizeLine; decide), fun ll fll => ⟨(by show 2 ≤ sizeLine; decide), fun t ft => ?_⟩⟩
      have y3 := Ex.new (o := .lst []) fll
      have y4 := Ex.new (o := .tup [.ref e0, .ref ll]) ft
      exact q t e0 ll [] _ (((((((((z0.trans x0).trans x1).trans x2).trans x3).trans x4).trans y1).trans y2).trans y3).trans y4) upd_same ((XAt.mk0 (i := 5) g0).ex ((((x1.trans (x2.trans (x3.trans (x4.trans y1)))).trans y2).trans y3).trans y4)) (y4 _ _ upd_same) (by decide) fun _ hy => absurd hy (List.not_mem_nil)
    | 6, _ =>
      refine ⟨_, rfl, rfl, _, rfl, iteN rfl ?_⟩
      refine ⟨_, rfl, (by show 5 ≤ sizeLine; decide), fun t0 h0 => ⟨t0, _, rfl, .inr (SqT.of upd_same), rfl, rfl, _, rfl, iteN rfl ?_⟩⟩
      have z0 := Ex.trans (Ex.refl H) (Ex.new (o := .tup [.int 5, .int 8, .int 9, .int 17, .int 18]) h0)
      refine ⟨_, rfl, (by show 2 ≤ sizeLine; decide), fun t1 h1 => ⟨t1, _, rfl, .inr (SqT.of upd_same), rfl, rfl, _, rfl, iteY rfl ?_⟩⟩
      have z1 := Ex.trans z0 (Ex.new (o := .tup [.int 0, .int 6]) h1)
      refine ⟨_, rfl, rfl, _, rfl, iteN rfl ?_⟩
      refine ⟨_, rfl, mkx rfl (by decide) fun e d H1 n1 h1 h2 x1 => ?_⟩
      refine ⟨_, rfl, _, rfl, e, _, d, _, a, rfl, h1, h2, x_InvalidRange z, a_InvalidRange_position z, look1, _, rfl, (by show 2 ≤ sizeLine; decide), fun p1 f1 => ⟨(by show 1 ≤ sizeLine; decide), fun l fl => ⟨(by show 2 ≤ sizeLine; decide), fun t ft => ?_⟩⟩⟩
      exact fin1 (i := 6) q (z1.trans x1) (XAt.mk1 h1 h2) (by simp) p1 f1 l fl t ft
    | 7, _ =>
      refine ⟨_, rfl, rfl, _, rfl, iteN rfl ?_⟩
      refine ⟨_, rfl, (by show 5 ≤ sizeLine; decide), fun t0 h0 => ⟨t0, _, rfl, .inr (SqT.of upd_same), rfl, rfl, _, rfl, iteN rfl ?_⟩⟩
      have z0 := Ex.trans (Ex.refl H) (Ex.new (o := .tup [.int 5, .int 8, .int 9, .int 17, .int 18]) h0)
      refine ⟨_, rfl, (by show 2 ≤ sizeLine; decide), fun t1 h1 => ⟨t1, _, rfl, .inr (SqT.of upd_same), rfl, rfl, _, rfl, iteN rfl ?_⟩⟩
      have z1 := Ex.trans z0 (Ex.new (o := .tup [.int 0, .int 6]) h1)
      refine ⟨_, rfl, (by show 2 ≤ sizeLine; decide), fun t2 h2 => ⟨t2, _, rfl, .inr (SqT.of upd_same), rfl, rfl, _, rfl, iteY rfl ?_⟩⟩
      have z2 := Ex.trans z1 (Ex.new (o := .tup [.int 2, .int 7]) h2)
      refine ⟨_, rfl, rfl, _, rfl, iteN rfl ?_⟩
      refine ⟨_, rfl, mkx rfl (by decide) fun e d H1 n1 h1 h2 x1 => ?_⟩
      refine ⟨_, rfl, _, rfl, rfl, _, rfl, iteN rfl ?_⟩
      refine ⟨_, rfl, e, _, d, _, a, rfl, h1, h2, x_TooLong z, a_TooLong_length z, look1, _, rfl, (by show 2 ≤ sizeLine; decide), fun p1 f1 => ⟨(by show 1 ≤ sizeLine; decide), fun l fl => ⟨(by show 2 ≤ sizeLine; decide), fun t ft => ?_⟩⟩⟩
      exact fin1 (i := 7) q (z2.trans x1) (XAt.mk1 h1 h2) (by simp) p1 f1 l fl t ft
    | 8, _ =>
      refine ⟨_, rfl, rfl, _, rfl, iteN rfl ?_⟩
      refine ⟨_, rfl, (by show 5 ≤ sizeLine; decide), fun t0 h0 => ⟨t0, _, rfl, .inr (SqT.of upd_same), rfl, rfl, _, rfl, iteY rfl ?_⟩⟩
      have z0 := Ex.trans (Ex.refl H) (Ex.new (o := .tup [.int 5, .int 8, .int 9, .int 17, .int 18]) h0)
      refine mkx0 fun e0 H0 n0 g0 x0 => mkx0 fun e1 H1 n1 g1 x1 => mkx0 fun e2 H2 n2 g2 x2 => mkx0 fun e3 H3 n3 g3 x3 => mkx0 fun e4 H4 n4 g4 x4 => ⟨(by show 5 ≤ sizeLine; decide), fun l fl => ?_⟩
      have y1 := Ex.new (o := .lst [.ref e0, .ref e1, .ref e2, .ref e3, .ref e4]) fl
      refine ⟨_, rfl, (by show 5 ≤ sizeLine; decide), fun m fm => ⟨.inl ⟨rfl, _, SqL.of upd_same⟩, _, rfl, m, _, _, 1, _, rfl, rfl, SqL.of upd_same, rfl, rfl, rfl, rfl, ?_, ?_⟩⟩
      · intro mm z' hm hz
        match mm, hm with
        | 0, _ =>
          cases hz
          rfl
      have y2 := Ex.new (o := .lst [.int 5, .int 8, .int 9, .int 17, .int 18]) fm
      refine ⟨l, _, _, .ref e1, rfl, rfl, SqL.of (y2 _ _ upd_same), at_of (j := 1) rfl rfl, ?_⟩
      refine ⟨(by show 0 ≤ sizeLine; decide), fun ll fll => ⟨(by show 2 ≤ sizeLine; decide), fun t ft => ?_⟩⟩
      have y3 := Ex.new (o := .lst []) fll
      have y4 := Ex.new (o := .tup [.ref e1, .ref ll]) ft
      exact q t e1 ll [] _ (((((((((z0.trans x0).trans x1).trans x2).trans x3).trans x4).trans y1).trans y2).trans y3).trans y4) upd_same ((XAt.mk0 (i := 8) g1).ex ((((x2.trans (x3.trans (x4.trans y1))).trans y2).trans y3).trans y4)) (y4 _ _ upd_same) (by decide) fun _ hy => absurd hy (List.not_mem_nil)
    | 9, _ =>
      refine ⟨_, rfl, rfl, _, rfl, iteN rfl ?_⟩
      refine ⟨_, rfl, (by show 5 ≤ sizeLine; decide), fun t0 h0 => ⟨t0, _, rfl, .inr (SqT.of upd_same), rfl, rfl, _, rfl, iteY rfl ?_⟩⟩
      have z0 := Ex.trans (Ex.refl H) (Ex.new (o := .tup [.int 5, .int 8, .int 9, .int 17, .int 18]) h0)
      refine mkx0 fun e0 H0 n0 g0 x0 => mkx0 fun e1 H1 n1 g1 x1 => mkx0 fun e2 H2 n2 g2 x2 => mkx0 fun e3 H3 n3 g3 x3 => mkx0 fun e4 H4 n4 g4 x4 => ⟨(by show 5 ≤ sizeLine; decide), fun l fl => ?_⟩
      have y1 := Ex.new (o := .lst [.ref e0, .ref e1, .ref e2, .ref e3, .ref e4]) fl
      refine ⟨_, rfl, (by show 5 ≤ sizeLine; decide), fun m fm => ⟨.inl ⟨rfl, _, SqL.of upd_same⟩, _, rfl, m, _, _, 2, _, rfl, rfl, SqL.of upd_same, rfl, rfl, rfl, rfl, ?_, ?_⟩⟩
      · intro mm z' hm hz
        match mm, hm with
        | 0, _ =>
          cases hz
          rfl
        | 1, _ =>
          cases hz
          rfl
      have y2 := Ex.new (o := .lst [.int 5, .int 8, .int 9, .int 17, .int 18]) fm
      refine ⟨l, _, _, .ref e2, rfl, rfl, SqL.of (y2 _ _ upd_same), at_of (j := 2) rfl rfl, ?_⟩
      refine ⟨(by show 0 ≤ sizeLine; decide), fun ll fll => ⟨(by show 2 ≤ sizeLine; decide), fun t ft => ?_⟩⟩
      have y3 := Ex.new (o := .lst []) fll
      have y4 := Ex.new (o := .tup [.ref e2, .ref ll]) ft
      exact q t e2 ll [] _ (((((((((z0.trans x0).trans x1).trans x2).trans x3).trans x4).trans y1).trans y2).trans y3).trans y4) upd_same ((XAt.mk0 (i := 9) g2).ex ((((x3.trans (x4.trans y1)).trans y2).trans y3).trans y4)) (y4 _ _ upd_same) (by decide) fun _ hy => absurd hy (List.not_mem_nil)
    | 10, _ =>
      refine ⟨_, rfl, rfl, _, rfl, iteN rfl ?_⟩
      refine ⟨_, rfl, (by show 5 ≤ sizeLine; decide), fun t0 h0 => ⟨t0, _, rfl, .inr (SqT.of upd_same), rfl, rfl, _, rfl, iteN rfl ?_⟩⟩
      have z0 := Ex.trans (Ex.refl H) (Ex.new (o := .tup [.int 5, .int 8, .int 9, .int 17, .int 18]) h0)
      refine ⟨_, rfl, (by show 2 ≤ sizeLine; decide), fun t1 h1 => ⟨t1, _, rfl, .inr (SqT.of upd_same), rfl, rfl, _, rfl, iteN rfl ?_⟩⟩
      have z1 := Ex.trans z0 (Ex.new (o := .tup [.int 0, .int 6]) h1)
      refine ⟨_, rfl, (by show 2 ≤ sizeLine; decide), fun t2 h2 => ⟨t2, _, rfl, .inr (SqT.of upd_same), rfl, rfl, _, rfl, iteN rfl ?_⟩⟩
      have z2 := Ex.trans z1 (Ex.new (o := .tup [.int 2, .int 7]) h2)
      refine ⟨_, rfl, (by show 2 ≤ sizeLine; decide), fun t3 h3 => ⟨t3, _, rfl, .inr (SqT.of upd_same), rfl, rfl, _, rfl, iteY rfl ?_⟩⟩
      have z3 := Ex.trans z2 (Ex.new (o := .tup [.int 10, .int 11]) h3)
      refine ⟨_, rfl, rfl, _, rfl, iteY rfl ?_⟩
      refine ⟨_, rfl, mkx rfl (by decide) fun e d H1 n1 h1 h2 x1 => ?_⟩
      refine ⟨_, rfl, _, rfl, e, _, d, _, a, rfl, h1, h2, x_InvalidWord z, a_InvalidWord_index z, look1, _, rfl, (by show 2 ≤ sizeLine; decide), fun p1 f1 => ⟨(by show 1 ≤ sizeLine; decide), fun l fl => ⟨(by show 2 ≤ sizeLine; decide), fun t ft => ?_⟩⟩⟩
      exact fin1 (i := 10) q (z3.trans x1) (XAt.mk1 h1 h2) (by simp) p1 f1 l fl t ft
    | 11, _ =>
      refine ⟨_, rfl, rfl, _, rfl, iteN rfl ?_⟩
      refine ⟨_, rfl, (by show 5 ≤ sizeLine; decide), fun t0 h0 => ⟨t0, _, rfl, .inr (SqT.of upd_same), rfl, rfl, _, rfl, iteN rfl ?_⟩⟩
      have z0 := Ex.trans (Ex.refl H) (Ex.new (o := .tup [.int 5, .int 8, .int 9, .int 17, .int 18]) h0)
      refine ⟨_, rfl, (by show 2 ≤ sizeLine; decide), fun t1 h1 => ⟨t1, _, rfl, .inr (SqT.of upd_same), rfl, rfl, _, rfl, iteN rfl ?_⟩⟩
      have z1 := Ex.trans z0 (Ex.new (o := .tup [.int 0, .int 6]) h1)
      refine ⟨_, rfl, (by show 2 ≤ sizeLine; decide), fun t2 h2 => ⟨t2, _, rfl, .inr (SqT.of upd_same), rfl, rfl, _, rfl, iteN rfl ?_⟩⟩
      have z2 := Ex.trans z1 (Ex.new (o := .tup [.int 2, .int 7]) h2)
      refine ⟨_, rfl, (by show 2 ≤ sizeLine; decide), fun t3 h3 => ⟨t3, _, rfl, .inr (SqT.of upd_same), rfl, rfl, _, rfl, iteY rfl ?_⟩⟩
      have z3 := Ex.trans z2 (Ex.new (o := .tup [.int 10, .int 11]) h3)
      refine ⟨_, rfl, rfl, _, rfl, iteN rfl ?_⟩
      refine ⟨_, rfl, mkx rfl (by decide) fun e d H1 n1 h1 h2 x1 => ?_⟩
      refine ⟨_, rfl, _, rfl, e, _, d, _, a, rfl, h1, h2, x_InvalidNotation z, a_InvalidNotation_index z, look1, _, rfl, (by show 2 ≤ sizeLine; decide), fun p1 f1 => ⟨(by show 1 ≤ sizeLine; decide), fun l fl => ⟨(by show 2 ≤ sizeLine; decide), fun t ft => ?_⟩⟩⟩
      exact fin1 (i := 11) q (z3.trans x1) (XAt.mk1 h1 h2) (by simp) p1 f1 l fl t ft
    | 12, _ =>
      refine ⟨_, rfl, rfl, _, rfl, iteN rfl ?_⟩
      refine ⟨_, rfl, (by show 5 ≤ sizeLine; decide), fun t0 h0 => ⟨t0, _, rfl, .inr (SqT.of upd_same), rfl, rfl, _, rfl, iteN rfl ?_⟩⟩
      have z0 := Ex.trans (Ex.refl H) (Ex.new (o := .tup [.int 5, .int 8, .int 9, .int 17, .int 18]) h0)
      refine ⟨_, rfl, (by show 2 ≤ sizeLine; decide), fun t1 h1 => ⟨t1, _, rfl, .inr (SqT.of upd_same), rfl, rfl, _, rfl, iteN rfl ?_⟩⟩
      have z1 := Ex.trans z0 (Ex.new (o := .tup [.int 0, .int 6]) h1)
      refine ⟨_, rfl, (by show 2 ≤ sizeLine; decide), fun t2 h2 => ⟨t2, _, rfl, .inr (SqT.of upd_same), rfl, rfl, _, rfl, iteN rfl ?_⟩⟩
      have z2 := Ex.trans z1 (Ex.new (o := .tup [.int 2, .int 7]) h2)
      refine ⟨_, rfl, (by show 2 ≤ sizeLine; decide), fun t3 h3 => ⟨t3, _, rfl, .inr (SqT.of upd_same), rfl, rfl, _, rfl, iteN rfl ?_⟩⟩
      have z3 := Ex.trans z2 (Ex.new (o := .tup [.int 10, .int 11]) h3)
      refine ⟨_, rfl, (by show 3 ≤ sizeLine; decide), fun t4 h4 => ⟨t4, _, rfl, .inr (SqT.of upd_same), rfl, rfl, _, rfl, iteN rfl ?_⟩⟩
      have z4 := Ex.trans z3 (Ex.new (o := .tup [.int 13, .int 15, .int 16]) h4)
      refine ⟨_, rfl, mkx rfl (by decide) fun e0 d0 H0 n0 g0 k0 x0 => ⟨_, rfl, mkx rfl (by decide) fun e1 d1 H1 n1 g1 k1 x1 => ⟨_, rfl, mkx rfl (by decide) fun e2 d2 H2 n2 g2 k2 x2 => ⟨_, rfl, mkx rfl (by decide) fun e3 d3 H3 n3 g3 k3 x3 => ⟨(by show 4 ≤ sizeLine; decide), fun l fl => ?_⟩⟩⟩⟩⟩
      have y1 := Ex.new (o := .lst [.ref e0, .ref e1, .ref e2, .ref e3]) fl
      refine ⟨(by show 4 ≤ sizeLine; decide), fun m fm => ⟨.inl ⟨rfl, _, SqL.of upd_same⟩, _, rfl, m, _, _, 2, _, rfl, rfl, SqL.of upd_same, rfl, rfl, rfl, rfl, ?_, ?_⟩⟩
      · intro mm z' hm hz
        match mm, hm with
        | 0, _ =>
          cases hz
          rfl
        | 1, _ =>
          cases hz
          rfl
      have y2 := Ex.new (o := .lst [.int 3, .int 4, .int 12, .int 14]) fm
      refine ⟨l, _, _, .ref e2, rfl, rfl, SqL.of (y2 _ _ upd_same), at_of (j := 2) rfl rfl, ?_⟩
      have up := (x3.trans y1).trans y2
      refine ⟨_, rfl, _, rfl, e2, _, d2, _, a, rfl, up _ _ g2, up _ _ k2, x_InvalidName z, a_InvalidName_name z, look1, _, rfl, (by show 2 ≤ sizeLine; decide), fun p1 f1 => ⟨(by show 1 ≤ sizeLine; decide), fun l fl => ⟨(by show 2 ≤ sizeLine; decide), fun t ft => ?_⟩⟩⟩
      exact fin1 (i := 12) q ((((((z4.trans x0).trans x1).trans x2).trans x3).trans y1).trans y2) ((XAt.mk1 g2 k2).ex up) (by simp) p1 f1 l fl t ft
    | 13, _ =>
      refine ⟨_, rfl, rfl, _, rfl, iteN rfl ?_⟩
      refine ⟨_, rfl, (by show 5 ≤ sizeLine; decide), fun t0 h0 => ⟨t0, _, rfl, .inr (SqT.of upd_same), rfl, rfl, _, rfl, iteN rfl ?_⟩⟩
      have z0 := Ex.trans (Ex.refl H) (Ex.new (o := .tup [.int 5, .int 8, .int 9, .int 17, .int 18]) h0)
      refine ⟨_, rfl, (by show 2 ≤ sizeLine; decide), fun t1 h1 => ⟨t1, _, rfl, .inr (SqT.of upd_same), rfl, rfl, _, rfl, iteN rfl ?_⟩⟩
      have z1 := Ex.trans z0 (Ex.new (o := .tup [.int 0, .int 6]) h1)
      refine ⟨_, rfl, (by show 2 ≤ sizeLine; decide), fun t2 h2 => ⟨t2, _, rfl, .inr (SqT.of upd_same), rfl, rfl, _, rfl, iteN rfl ?_⟩⟩
      have z2 := Ex.trans z1 (Ex.new (o := .tup [.int 2, .int 7]) h2)
      refine ⟨_, rfl, (by show 2 ≤ sizeLine; decide), fun t3 h3 => ⟨t3, _, rfl, .inr (SqT.of upd_same), rfl, rfl, _, rfl, iteN rfl ?_⟩⟩
      have z3 := Ex.trans z2 (Ex.new (o := .tup [.int 10, .int 11]) h3)
      refine ⟨_, rfl, (by show 3 ≤ sizeLine; decide), fun t4 h4 => ⟨t4, _, rfl, .inr (SqT.of upd_same), rfl, rfl, _, rfl, iteY rfl ?_⟩⟩
      have z4 := Ex.trans z3 (Ex.new (o := .tup [.int 13, .int 15, .int 16]) h4)
      refine ⟨_, rfl, mkx rfl (by decide) fun e0 d0 H0 n0 g0 k0 x0 => ⟨_, rfl, mkx rfl (by decide) fun e1 d1 H1 n1 g1 k1 x1 => ⟨_, rfl, mkx rfl (by decide) fun e2 d2 H2 n2 g2 k2 x2 => ⟨(by show 3 ≤ sizeLine; decide), fun l fl => ?_⟩⟩⟩⟩
      have y1 := Ex.new (o := .lst [.ref e0, .ref e1, .ref e2]) fl
      refine ⟨(by show 3 ≤ sizeLine; decide), fun m fm => ⟨.inl ⟨rfl, _, SqL.of upd_same⟩, _, rfl, m, _, _, 0, _, rfl, rfl, SqL.of upd_same, rfl, rfl, rfl, rfl, ?_, ?_⟩⟩
      · intro mm z' hm hz
        match mm, hm with
        | mm, hm => exact absurd hm (Nat.not_lt_zero _)
      have y2 := Ex.new (o := .lst [.int 13, .int 15, .int 16]) fm
      refine ⟨l, _, _, .ref e0, rfl, rfl, SqL.of (y2 _ _ upd_same), at_of (j := 0) rfl rfl, ?_⟩
      have up := (x1.trans (x2.trans y1)).trans y2
      refine ⟨_, rfl, _, rfl, e0, _, d0, _, a, rfl, up _ _ g0, up _ _ k0, x_Incompatible z, a_Incompatible_document z, look1, _, rfl, (by show 2 ≤ sizeLine; decide), fun p1 f1 => ⟨(by show 1 ≤ sizeLine; decide), fun l fl => ⟨(by show 2 ≤ sizeLine; decide), fun t ft => ?_⟩⟩⟩
      exact fin1 (i := 13) q (((((z4.trans x0).trans x1).trans x2).trans y1).trans y2) ((XAt.mk1 g0 k0).ex up) (by simp) p1 f1 l fl t ft
    | 14, _ =>
      refine ⟨_, rfl, rfl, _, rfl, iteN rfl ?_⟩
      refine ⟨_, rfl, (by show 5 ≤ sizeLine; decide), fun t0 h0 => ⟨t0, _, rfl, .inr (SqT.of upd_same), rfl, rfl, _, rfl, iteN rfl ?_⟩⟩
      have z0 := Ex.trans (Ex.refl H) (Ex.new (o := .tup [.int 5, .int 8, .int 9, .int 17, .int 18]) h0)
      refine ⟨_, rfl, (by show 2 ≤ sizeLine; decide), fun t1 h1 => ⟨t1, _, rfl, .inr (SqT.of upd_same), rfl, rfl, _, rfl, iteN rfl ?_⟩⟩
      have z1 := Ex.trans z0 (Ex.new (o := .tup [.int 0, .int 6]) h1)
      refine ⟨_, rfl, (by show 2 ≤ sizeLine; decide), fun t2 h2 => ⟨t2, _, rfl, .inr (SqT.of upd_same), rfl, rfl, _, rfl, iteN rfl ?_⟩⟩
      have z2 := Ex.trans z1 (Ex.new (o := .tup [.int 2, .int 7]) h2)
      refine ⟨_, rfl, (by show 2 ≤ sizeLine; decide), fun t3 h3 => ⟨t3, _, rfl, .inr (SqT.of upd_same), rfl, rfl, _, rfl, iteN rfl ?_⟩⟩
      have z3 := Ex.trans z2 (Ex.new (o := .tup [.int 10, .int 11]) h3)
      refine ⟨_, rfl, (by show 3 ≤ sizeLine; decide), fun t4 h4 => ⟨t4, _, rfl, .inr (SqT.of upd_same), rfl, rfl, _, rfl, iteN rfl ?_⟩⟩
      have z4 := Ex.trans z3 (Ex.new (o := .tup [.int 13, .int 15, .int 16]) h4)
      refine ⟨_, rfl, mkx rfl (by decide) fun e0 d0 H0 n0 g0 k0 x0 => ⟨_, rfl, mkx rfl (by decide) fun e1 d1 H1 n1 g1 k1 x1 => ⟨_, rfl, mkx rfl (by decide) fun e2 d2 H2 n2 g2 k2 x2 => ⟨_, rfl, mkx rfl (by decide) fun e3 d3 H3 n3 g3 k3 x3 => ⟨(by show 4 ≤ sizeLine; decide), fun l fl => ?_⟩⟩⟩⟩⟩
      have y1 := Ex.new (o := .lst [.ref e0, .ref e1, .ref e2, .ref e3]) fl
      refine ⟨(by show 4 ≤ sizeLine; decide), fun m fm => ⟨.inl ⟨rfl, _, SqL.of upd_same⟩, _, rfl, m, _, _, 3, _, rfl, rfl, SqL.of upd_same, rfl, rfl, rfl, rfl, ?_, ?_⟩⟩
      · intro mm z' hm hz
        match mm, hm with
        | 0, _ =>
          cases hz
          rfl
        | 1, _ =>
          cases hz
          rfl
        | 2, _ =>
          cases hz
          rfl
      have y2 := Ex.new (o := .lst [.int 3, .int 4, .int 12, .int 14]) fm
      refine ⟨l, _, _, .ref e3, rfl, rfl, SqL.of (y2 _ _ upd_same), at_of (j := 3) rfl rfl, ?_⟩
      have up := y1.trans y2
      refine ⟨_, rfl, _, rfl, e3, _, d3, _, a, rfl, up _ _ g3, up _ _ k3, x_UnknownName z, a_UnknownName_name z, look1, _, rfl, (by show 2 ≤ sizeLine; decide), fun p1 f1 => ⟨(by show 1 ≤ sizeLine; decide), fun l fl => ⟨(by show 2 ≤ sizeLine; decide), fun t ft => ?_⟩⟩⟩
      exact fin1 (i := 14) q ((((((z4.trans x0).trans x1).trans x2).trans x3).trans y1).trans y2) ((XAt.mk1 g3 k3).ex up) (by simp) p1 f1 l fl t ft
    | 15, _ =>
      refine ⟨_, rfl, rfl, _, rfl, iteN rfl ?_⟩
      refine ⟨_, rfl, (by show 5 ≤ sizeLine; decide), fun t0 h0 => ⟨t0, _, rfl, .inr (SqT.of upd_same), rfl, rfl, _, rfl, iteN rfl ?_⟩⟩
      have z0 := Ex.trans (Ex.refl H) (Ex.new (o := .tup [.int 5, .int 8, .int 9, .int 17, .int 18]) h0)
      refine ⟨_, rfl, (by show 2 ≤ sizeLine; decide), fun t1 h1 => ⟨t1, _, rfl, .inr (SqT.of upd_same), rfl, rfl, _, rfl, iteN rfl ?_⟩⟩
      have z1 := Ex.trans z0 (Ex.new (o := .tup [.int 0, .int 6]) h1)
      refine ⟨_, rfl, (by show 2 ≤ sizeLine; decide), fun t2 h2 => ⟨t2, _, rfl, .inr (SqT.of upd_same), rfl, rfl, _, rfl, iteN rfl ?_⟩⟩
      have z2 := Ex.trans z1 (Ex.new (o := .tup [.int 2, .int 7]) h2)
      refine ⟨_, rfl, (by show 2 ≤ sizeLine; decide), fun t3 h3 => ⟨t3, _, rfl, .inr (SqT.of upd_same), rfl, rfl, _, rfl, iteN rfl ?_⟩⟩
      have z3 := Ex.trans z2 (Ex.new (o := .tup [.int 10, .int 11]) h3)
      refine ⟨_, rfl, (by show 3 ≤ sizeLine; decide), fun t4 h4 => ⟨t4, _, rfl, .inr (SqT.of upd_same), rfl, rfl, _, rfl, iteY rfl ?_⟩⟩
      have z4 := Ex.trans z3 (Ex.new (o := .tup [.int 13, .int 15, .int 16]) h4)
      refine ⟨_, rfl, mkx rfl (by decide) fun e0 d0 H0 n0 g0 k0 x0 => ⟨_, rfl, mkx rfl (by decide) fun e1 d1 H1 n1 g1 k1 x1 => ⟨_, rfl, mkx rfl (by decide) fun e2 d2 H2 n2 g2 k2 x2 => ⟨(by show 3 ≤ sizeLine; decide), fun l fl => ?_⟩⟩⟩⟩
      have y1 := Ex.new (o := .lst [.ref e0, .ref e1, .ref e2]) fl
      refine ⟨(by show 3 ≤ sizeLine; decide), fun m fm => ⟨.inl ⟨rfl, _, SqL.of upd_same⟩, _, rfl, m, _, _, 1, _, rfl, rfl, SqL.of upd_same, rfl, rfl, rfl, rfl, ?_, ?_⟩⟩
      · intro mm z' hm hz
        match mm, hm with
        | 0, _ =>
          cases hz
          rfl
      have y2 := Ex.new (o := .lst [.int 13, .int 15, .int 16]) fm
      refine ⟨l, _, _, .ref e1, rfl, rfl, SqL.of (y2 _ _ upd_same), at_of (j := 1) rfl rfl, ?_⟩
      have up := (x2.trans y1).trans y2
      refine ⟨_, rfl, _, rfl, e1, _, d1, _, a, rfl, up _ _ g1, up _ _ k1, x_InUse z, a_InUse_document z, look1, _, rfl, (by show 2 ≤ sizeLine; decide), fun p1 f1 => ⟨(by show 1 ≤ sizeLine; decide), fun l fl => ⟨(by show 2 ≤ sizeLine; decide), fun t ft => ?_⟩⟩⟩
      exact fin1 (i := 15) q (((((z4.trans x0).trans x1).trans x2).trans y1).trans y2) ((XAt.mk1 g1 k1).ex up) (by simp) p1 f1 l fl t ft
    | 16, _ =>
      refine ⟨_, rfl, rfl, _, rfl, iteN rfl ?_⟩
      refine ⟨_, rfl, (by show 5 ≤ sizeLine; decide), fun t0 h0 => ⟨t0, _, rfl, .inr (SqT.of upd_same), rfl, rfl, _, rfl, iteN rfl ?_⟩⟩
      have z0 := Ex.trans (Ex.refl H) (Ex.new (o := .tup [.int 5, .int 8, .int 9, .int 17, .int 18]) h0)
      refine ⟨_, rfl, (by show 2 ≤ sizeLine; decide), fun t1 h1 => ⟨t1, _, rfl, .inr (SqT.of upd_same), rfl, rfl, _, rfl, iteN rfl ?_⟩⟩
      have z1 := Ex.trans z0 (Ex.new (o := .tup [.int 0, .int 6]) h1)
      refine ⟨_, rfl, (by show 2 ≤ sizeLine; decide), fun t2 h2 => ⟨t2, _, rfl, .inr (SqT.of upd_same), rfl, rfl, _, rfl, iteN rfl ?_⟩⟩
      have z2 := Ex.trans z1 (Ex.new (o := .tup [.int 2, .int 7]) h2)
      refine ⟨_, rfl, (by show 2 ≤ sizeLine; decide), fun t3 h3 => ⟨t3, _, rfl, .inr (SqT.of upd_same), rfl, rfl, _, rfl, iteN rfl ?_⟩⟩
      have z3 := Ex.trans z2 (Ex.new (o := .tup [.int 10, .int 11]) h3)
      refine ⟨_, rfl, (by show 3 ≤ sizeLine; decide), fun t4 h4 => ⟨t4, _, rfl, .inr (SqT.of upd_same), rfl, rfl, _, rfl, iteY rfl ?_⟩⟩
      have z4 := Ex.trans z3 (Ex.new (o := .tup [.int 13, .int 15, .int 16]) h4)
      refine ⟨_, rfl, mkx rfl (by decide) fun e0 d0 H0 n0 g0 k0 x0 => ⟨_, rfl, mkx rfl (by decide) fun e1 d1 H1 n1 g1 k1 x1 => ⟨_, rfl, mkx rfl (by decide) fun e2 d2 H2 n2 g2 k2 x2 => ⟨(by show 3 ≤ sizeLine; decide), fun l fl => ?_⟩⟩⟩⟩
      have y1 := Ex.new (o := .lst [.ref e0, .ref e1, .ref e2]) fl
      refine ⟨(by show 3 ≤ sizeLine; decide), fun m fm => ⟨.inl ⟨rfl, _, SqL.of upd_same⟩, _, rfl, m, _, _, 2, _, rfl, rfl, SqL.of upd_same, rfl, rfl, rfl, rfl, ?_, ?_⟩⟩
      · intro mm z' hm hz
        match mm, hm with
        | 0, _ =>
          cases hz
          rfl
        | 1, _ =>
          cases hz
          rfl
      have y2 := Ex.new (o := .lst [.int 13, .int 15, .int 16]) fm
      refine ⟨l, _, _, .ref e2, rfl, rfl, SqL.of (y2 _ _ upd_same), at_of (j := 2) rfl rfl, ?_⟩
      have up := y1.trans y2
      refine ⟨_, rfl, _, rfl, e2, _, d2, _, a, rfl, up _ _ g2, up _ _ k2, x_NameInUse z, a_NameInUse_document z, look1, _, rfl, (by show 2 ≤ sizeLine; decide), fun p1 f1 => ⟨(by show 1 ≤ sizeLine; decide), fun l fl => ⟨(by show 2 ≤ sizeLine; decide), fun t ft => ?_⟩⟩⟩
      exact fin1 (i := 16) q (((((z4.trans x0).trans x1).trans x2).trans y1).trans y2) ((XAt.mk1 g2 k2).ex up) (by simp) p1 f1 l fl t ft
    | 17, _ =>
      refine ⟨_, rfl, rfl, _, rfl, iteN rfl ?_⟩
      refine ⟨_, rfl, (by show 5 ≤ sizeLine; decide), fun t0 h0 => ⟨t0, _, rfl, .inr (SqT.of upd_same), rfl, rfl, _, rfl, iteY rfl ?_⟩⟩
      have z0 := Ex.trans (Ex.refl H) (Ex.new (o := .tup [.int 5, .int 8, .int 9, .int 17, .int 18]) h0)
      refine mkx0 fun e0 H0 n0 g0 x0 => mkx0 fun e1 H1 n1 g1 x1 => mkx0 fun e2 H2 n2 g2 x2 => mkx0 fun e3 H3 n3 g3 x3 => mkx0 fun e4 H4 n4 g4 x4 => ⟨(by show 5 ≤ sizeLine; decide), fun l fl => ?_⟩
      have y1 := Ex.new (o := .lst [.ref e0, .ref e1, .ref e2, .ref e3, .ref e4]) fl
      refine ⟨_, rfl, (by show 5 ≤ sizeLine; decide), fun m fm => ⟨.inl ⟨rfl, _, SqL.of upd_same⟩, _, rfl, m, _, _, 3, _, rfl, rfl, SqL.of upd_same, rfl, rfl, rfl, rfl, ?_, ?_⟩⟩
      · intro mm z' hm hz
        match mm, hm with
        | 0, _ =>
          cases hz
          rfl
        | 1, _ =>
          cases hz
          rfl
        | 2, _ =>
          cases hz
          rfl
      have y2 := Ex.new (o := .lst [.int 5, .int 8, .int 9, .int 17, .int 18]) fm
      refine ⟨l, _, _, .ref e3, rfl, rfl, SqL.of (y2 _ _ upd_same), at_of (j := 3) rfl rfl, ?_⟩
      refine ⟨(by show 0 ≤ sizeLine; decide), fun ll fll => ⟨(by show 2 ≤ sizeLine; decide), fun t ft => ?_⟩⟩
      have y3 := Ex.new (o := .lst []) fll
      have y4 := Ex.new (o := .tup [.ref e3, .ref ll]) ft
      exact q t e3 ll [] _ (((((((((z0.trans x0).trans x1).trans x2).trans x3).trans x4).trans y1).trans y2).trans y3).trans y4) upd_same ((XAt.mk0 (i := 17) g3).ex ((((x4.trans y1).trans y2).trans y3).trans y4)) (y4 _ _ upd_same) (by decide) fun _ hy => absurd hy (List.not_mem_nil)
    | 18, _ =>
      refine ⟨_, rfl, rfl, _, rfl, iteN rfl ?_⟩
      refine ⟨_, rfl, (by show 5 ≤ sizeLine; decide), fun t0 h0 => ⟨t0, _, rfl, .inr (SqT.of upd_same), rfl, rfl, _, rfl, iteY rfl ?_⟩⟩
      have z0 := Ex.trans (Ex.refl H) (Ex.new (o := .tup [.int 5, .int 8, .int 9, .int 17, .int 18]) h0)
      refine mkx0 fun e0 H0 n0 g0 x0 => mkx0 fun e1 H1 n1 g1 x1 => mkx0 fun e2 H2 n2 g2 x2 => mkx0 fun e3 H3 n3 g3 x3 => mkx0 fun e4 H4 n4 g4 x4 => ⟨(by show 5 ≤ sizeLine; decide), fun l fl => ?_⟩
      have y1 := Ex.new (o := .lst [.ref e0, .ref e1, .ref e2, .ref e3, .ref e4]) fl
      refine ⟨_, rfl, (by show 5 ≤ sizeLine; decide), fun m fm => ⟨.inl ⟨rfl, _, SqL.of upd_same⟩, _, rfl, m, _, _, 4, _, rfl, rfl, SqL.of upd_same, rfl, rfl, rfl, rfl, ?_, ?_⟩⟩
      · intro mm z' hm hz
        match mm, hm with
        | 0, _ =>
          cases hz
          rfl
        | 1, _ =>
          cases hz
          rfl
        | 2, _ =>
          cases hz
          rfl
        | 3, _ =>
          cases hz
          rfl
      have y2 := Ex.new (o := .lst [.int 5, .int 8, .int 9, .int 17, .int 18]) fm
      refine ⟨l, _, _, .ref e4, rfl, rfl, SqL.of (y2 _ _ upd_same), at_of (j := 4) rfl rfl, ?_⟩
      refine ⟨(by show 0 ≤ sizeLine; decide), fun ll fll => ⟨(by show 2 ≤ sizeLine; decide), fun t ft => ?_⟩⟩
      have y3 := Ex.new (o := .lst []) fll
      have y4 := Ex.new (o := .tup [.ref e4, .ref ll]) ft
      exact q t e4 ll [] _ (((((((((z0.trans x0).trans x1).trans x2).trans x3).trans x4).trans y1).trans y2).trans y3).trans y4) upd_same ((XAt.mk0 (i := 18) g4).ex (((y1.trans y2).trans y3).trans y4)) (y4 _ _ upd_same) (by decide) fun _ hy => absurd hy (List.not_mem_nil)
    | i + 19, h => exact absurd h (by omega)
end
end K92
set_option Elab.async false
set_option linter.all false
set_option maxRecDepth 100000
set_option maxHeartbeats 8000000
namespace K92
open PySem PySem.Spec PyProof.Rows L2 LY
open Evl (Ex)
theorem exfx {H H1 H2 : Hp} {p : Addr} (e : Ex H H1) (hp : H p = none) (f : Fx p H1 H2) : Ex H H2 := fun b o h => f b o (ne_of_none h hp) (e b o h)
theorem V92.facts {K : PySem.W.Frag} {H : Hp} {x : V} (v : V92 H x) : ∃ (d : PyData) (t : Value) (b1 b2 : Bool), Dp K H x d ∧ SeqAt.shaped d = true ∧ TyX K H x t ∧ PySem.W.kitOne K t (.type "bool") = some b1 ∧ PySem.W.kitOne K t (.type "tuple") = some b2 := by
  cases v with
  | str x hx => exact ⟨_, _, false, false, .str x, hx, .base (.str x), kit_ty (by decide +kernel), kit_ty (by decide +kernel)⟩
  | int i => exact ⟨_, _, false, false, .int i, by rfl, .base (.int i), kit_ty (by decide +kernel), kit_ty (by decide +kernel)⟩
  | non => exact ⟨_, _, false, false, .non, by rfl, .base .non, kit_ty (by decide +kernel), kit_ty (by decide +kernel)⟩
  | bl b => exact ⟨_, _, true, false, .bl b, by rfl, .base (.bl b), kit_ty (by decide +kernel), kit_ty (by decide +kernel)⟩
  | l0 h => exact ⟨_, _, false, false, .lst (SqL.of h) .nil, by rfl, .base (.lst h), kit_ty (by decide +kernel), kit_ty (by decide +kernel)⟩
  | l1 h => exact ⟨_, _, false, false, .lst (SqL.of h) (.cons (.int 1) .nil), by rfl, .base (.lst h), kit_ty (by decide +kernel), kit_ty (by decide +kernel)⟩
  | tA h => exact ⟨_, _, false, true, .tup (SqT.of h) (.cons (.str _) .nil), by decide +kernel, .base (.tup h), kit_ty (by decide +kernel), kit_ty (by decide +kernel)⟩
  | tB h => exact ⟨_, _, false, true, .tup (SqT.of h) (.cons (.int 0) (.cons (.int 1) .nil)), by rfl, .base (.tup h), kit_ty (by decide +kernel), kit_ty (by decide +kernel)⟩
def spLaw (K : PySem.W.Frag) : Sp := fun vs H Q _ => ∃ (a : Addr) (ns : List Int), vs = [.ref a] ∧ SqL K H a (ns.map V.int) ∧ ns.length ≤ 63 ∧ ∀ H', Q (.bl true) H'
section
variable {P : Program} {w : World} {K : PySem.W.Frag} {mg : Str → Option Value} {base : Heap}
theorem sc_law : FnScope ["_law_script", "_law_k", "_law_source_here", "_law_way", "_law_e", "_law_fields", "_law_found", "_law_due"] ["_law_script"] (defScope s_law) := ⟨rfl, rfl, rfl, by decide +kernel, rfl, by decide +kernel, by decide +kernel⟩
theorem b_law (z : Z K mg) : Binds K (fdOf K ("law", none)) ["_law_script"] [] := (f_law z).bindsN fun _ _ _ _ _ _ us hl => match us, hl with | [_], _ => rfl
theorem ok_law (z : Z K mg) : FnOk P w K mg base CX0 5 (He.fAd K ("law", none)) (fdOf K ("law", none)) ["_law_script"] (spLaw K) := by
  refine (f_law z).ok sc_law (fun vs H Q E h => ?_) (fun cdv A outer s H vs Q E hr h => ?_)
  · obtain ⟨a, ns, rfl, _⟩ := h
    rfl
  · obtain ⟨a, ns, rfl, hS, hl, q⟩ := h
    refine ⟨_, PSs.nox (pss_cons (ps_for PassesOwn.never rfl (pi_range1 rfl (n_range z) (pa_cons pe_int pa_nil)) (pg_name (i := 1) sc_law.nd rfl (Or.inl rfl))
        (pss_cons (ps_set (i := 2) sc_law.nd rfl (Or.inl rfl) (pe_call (ok_source z) (hr.mono (by decide)) rfl (g__law_source z) (f__law_source z).kp (b_source z) .nil pass0 (pa_cons (pv 0) (pa_cons (pv 1) pa_nil))))
        (pss_cons (ps_set (i := 3) sc_law.nd rfl (Or.inl rfl) (pe_call (ok_draw z) (hr.mono (by decide)) rfl (g__law_draw z) (f__law_draw z).kp (b_draw z) .nil pass0 (pa_cons (pv 2) (pa_cons pe_int pa_nil))))
        (pss_cons (ps_asg (pe_call (ok_made z) (hr.mono (by decide)) rfl (g__law_made z) (f__law_made z).kp (b_made z) .nil pass0 (pa_cons (pv 3)
            (pa_cons (pe_call (ok_value z) (hr.mono (by decide)) rfl (g__law_value z) (f__law_value z).kp (b_value z) .nil pass0 (pa_cons (pv 2) pa_nil))
            (pa_cons (pe_call (ok_value z) (hr.mono (by decide)) rfl (g__law_value z) (f__law_value z).kp (b_value z) .nil pass0 (pa_cons (pv 2) pa_nil))
            (pa_cons (pe_call (ok_value z) (hr.mono (by decide)) rfl (g__law_value z) (f__law_value z).kp (b_value z) .nil pass0 (pa_cons (pv 2) pa_nil)) pa_nil)))))
            (pg_tup rfl (pgs_cons (pg_name (i := 4) sc_law.nd rfl (Or.inl rfl)) (pgs_cons (pg_name (i := 5) sc_law.nd rfl (Or.inl rfl)) pgs_nil))))
        (pss_cons (ps_if (PW.pt (pw_or (pt_not (pt_val (pe_callB call_isX rfl (n_isinstance z) boot_isinstance (pa_cons (pv 4) (pa_cons (pe_glob (v := .ref (He.ga K "CutError")) rfl (g_CutError z) rfl) pa_nil)))))
            (pw_or (pt_not (pt_val (pe_callB call_isX rfl (n_isinstance z) boot_isinstance (pa_cons (pv 4) (pa_cons (pe_bltn (v := .ty "ValueError") rfl (n_ValueError z) PyProof.Rows.Boot.«ValueError» rfl) pa_nil)))))
            (pw_or1 (pt_cmpR (op_neD hr.units) (pe_call (ok_classes z) (hr.mono (by decide)) rfl (g__law_classes z) (f__law_classes z).kp (b_classes z) .nil pass0 (pa_cons (pv 4) pa_nil)) (pe_lst (pa_cons (pv 3) pa_nil)) (nomark _))))))
            (pss_one (ps_ret pe_bl)) pss_nil)
        (pss_one (ps_for PassesOwn.never rfl (pi_list (pv 5)) (pg_tup rfl (pgs_cons (pg_name (i := 6) sc_law.nd rfl (Or.inl rfl)) (pgs_cons (pg_name (i := 7) sc_law.nd rfl (Or.inl rfl)) pgs_nil)))
          (pss_cons (ps_if (PW.pt (pw_or (pt_cmpR (op_neD hr.units) (pv 6) (pv 7) (nomark _))
              (pw_or1 (pt_cmpR op_ne (pe_callB call_isi rfl (n_isinstance z) boot_isinstance (pa_cons (pv 6) (pa_cons (pe_bltn (v := .ty "bool") rfl (n_bool z) boot_bool rfl) pa_nil)))
                (pe_callB call_isi rfl (n_isinstance z) boot_isinstance (pa_cons (pv 7) (pa_cons (pe_bltn (v := .ty "bool") rfl (n_bool z) boot_bool rfl) pa_nil))) (nomark _)))))
              (pss_one (ps_ret pe_bl)) pss_nil)
          (pss_one (ps_if (pt_cmpR op_ne (pe_callB call_isi rfl (n_isinstance z) boot_isinstance (pa_cons (pv 6) (pa_cons (pe_bltn (v := .ty "tuple") rfl (n_tuple z) boot_tuple rfl) pa_nil)))
                (pe_callB call_isi rfl (n_isinstance z) boot_isinstance (pa_cons (pv 7) (pa_cons (pe_bltn (v := .ty "tuple") rfl (n_tuple z) boot_tuple rfl) pa_nil))) (nomark _))
              (pss_one (ps_ret pe_bl)) pss_nil))))))))))
      (pss_one (ps_ret pe_bl))), ?_⟩
    refine ⟨10, rfl, by decide, by decide, for_range (n := 10) (fun i σ H2 => ∃ v1 v2 v3 v4 v5 v6 v7, σ = [some (.ref a), v1, v2, v3, v4, v5, v6, v7] ∧ Ex H H2) ⟨none, none, none, none, none, none, none, rfl, Ex.refl H⟩ ?_ ?_⟩
    · rintro i σ H0 hi ⟨v1, v2, v3, v4, v5, v6, v7, rfl, e0⟩
      -- source, way
      refine ⟨_, rfl, _, rfl, a, 0 + (i : Int), ns, rfl, Evl.ex_l e0 hS, hl, by omega, by omega, fun p H1 np S1 k1 => ?_⟩
      have x1 : Ex H0 H1 := fun b o h => (k1 b (ne_of_none h np)).trans h
      refine ⟨_, rfl, p, 0, 19, rfl, by decide, by decide, S1, by decide, by decide, fun r H2 r0 r1 S2 k2 => ?_⟩
      have x2 := exfx x1 np fun b o hb h => (k2 b hb).trans h
      obtain ⟨j, hj⟩ : ∃ j : Nat, r = (j : Int) := ⟨r.toNat, by omega⟩
      subst hj
      have hj2 : j < 19 := by omega
      -- the values
      refine ⟨_, rfl, _, rfl, p, 0 + 1, rfl, S2, by decide, by decide, fun va H3 w1 S3 k3 => ?_⟩
      have x3 := exfx x2 np k3
      refine ⟨_, rfl, p, 0 + 1 + 1, rfl, S3, by decide, by decide, fun vb H4 w2 S4 k4 => ?_⟩
      have x4 := exfx x3 np k4
      refine ⟨_, rfl, p, 0 + 1 + 1 + 1, rfl, S4, by decide, by decide, fun vc H5 w3 S5 k5 => ?_⟩
      have x5 := exfx x4 np k5
      have W1 : V92 H5 va := by
        obtain ⟨_, _, _, _, _, y3⟩ := id S3
        obtain ⟨_, _, _, _, _, y4⟩ := id S4
        exact (w1.fx y3 k4).fx y4 k5
      have W2 : V92 H5 vb := by
        obtain ⟨_, _, _, _, _, y4⟩ := id S4
        exact w2.fx y4 k5
      -- made
      refine ⟨j, va, vb, vc, rfl, hj2, fun t e l ps H6 x6 ht hX hL hp hps => ?_⟩
      have X6 : Ex H H6 := (e0.trans x5).trans x6
      refine ⟨t, _, rfl, SqT.of ht, rfl, _, _, rfl, _, _, rfl, rfl, ?_⟩
      -- the classes
      obtain ⟨d, h1, h2⟩ := id hX
      have KT := kit_all z hj2
      refine ⟨_, rfl, e, _, d, _, _, _, rfl, h1, h2, cn_ok z hj2, fun u r => r, KT.1, _, rfl, iteN rfl ?_⟩
      refine ⟨_, rfl, e, _, d, _, _, _, rfl, h1, h2, cn_ok z hj2, fun u r => r, KT.2.1, _, rfl, iteN rfl ?_⟩
      refine ⟨_, rfl, e, j, rfl, hj2, hX, fun pc H7 x7 hc => ?_⟩
      refine ⟨_, rfl, (by show 1 ≤ sizeLine; decide), fun pw fw => ?_⟩
      have x8 := Ex.new (o := .lst [.int (j : Int)]) fw
      refine ⟨.list [.int (j : Int)], .list [.int (j : Int)], .lst (SqL.of (x8 _ _ hc)) (.cons (.int _) .nil), .lst (SqL.of upd_same) (.cons (.int _) .nil), rfl, rfl, _, rfl, ?_⟩
      rw [SeqAt.eqv_refl _ rfl]
      refine iteN rfl ?_
      have x9 := x7.trans x8
      generalize upd H7 pw (.lst [.int (j : Int)]) = H8 at x9
      have X8 := X6.trans x9
      -- the fields
      refine ⟨_, rfl, l, rfl, ⟨_, SqL.of (x9 _ _ hL)⟩, for_list (K := K) (a := l) (xs := ps.map V.ref) (fun i' σ H9 => ∃ v6 v7, σ = [some (.ref a), some (.int (0 + (i : Int))), some (.ref p), some (.int (j : Int)), some (.ref e), some (.ref l), v6, v7] ∧ Ex H8 H9) ⟨v6, v7, rfl, Ex.refl _⟩ (fun i' σ H9 _ ⟨_, _, _, y⟩ => SqL.of (y _ _ (x9 _ _ hL))) ?_ ?_⟩
      · rintro i' y σ H9 hy ⟨u6, u7, rfl, x10⟩
        rw [List.getElem?_map] at hy
        obtain ⟨p', hp', rfl⟩ := Option.map_eq_some_iff.mp hy
        obtain ⟨x, hx, hpx⟩ := hps p' (List.mem_of_getElem? hp')
        have x11 := x9.trans x10
        have V6 : V92 H9 x := by
          have hv : ∀ x ∈ [va, vb, vc], V92 H5 x := List.forall_mem_cons.mpr ⟨W1, List.forall_mem_cons.mpr ⟨W2, List.forall_mem_cons.mpr ⟨w3, List.forall_mem_nil _⟩⟩⟩
          exact (hv x hx).ex (x6.trans x11)
        obtain ⟨dd, tt, b1, b2, D1, D2, T1, K1, K2⟩ := V6.facts (K := K)
        refine ⟨p', [x, x], rfl, SqT.of (x11 _ _ hpx), rfl, _, _, rfl, _, _, rfl, rfl, ?_⟩
        refine ⟨_, rfl, _, rfl, dd, dd, D1, D1, D2, D2, _, rfl, ?_⟩
        rw [SeqAt.eqv_refl _ (SeqAt.canLay_of_shaped D2)]
        refine iteN rfl ?_
        refine ⟨_, rfl, _, _, _, _, _, rfl, .ty "bool", T1, K1, _, rfl, _, _, _, _, _, rfl, .ty "bool", T1, K1, rfl, _, rfl, iteN (by simp) ?_⟩
        refine ⟨_, rfl, _, _, _, _, _, rfl, .ty "tuple", T1, K2, _, rfl, _, _, _, _, _, rfl, .ty "tuple", T1, K2, rfl, _, rfl, iteN (by simp) ?_⟩
        exact ⟨_, _, rfl, x10⟩
      · rintro σ H9 ⟨u6, u7, rfl, x10⟩
        exact ⟨_, _, _, _, _, _, _, rfl, X8.trans x10⟩
    · rintro σ H2 _
      exact q H2
end
theorem facts {P : Program} {w : World} {K : PySem.W.Frag} {h : Heap} {mg : Str → Option Value} {f : Addr} (X : K.In h) (G : h.Ns mainGlobals mg) (hfa : mg ("law" : Str) = some (.ref f)) (c : He.SaysD fa fn K) (m : ex K = true) :
    ∃ fd : FuncData, (∀ (s : Shared) (v : Value), BindsTo s fd ⟨[v], []⟩ [("_law_script", v)]) ∧ ∀ base : Heap, K.In base → base.Ns mainGlobals mg → FnOk P w K mg base CX0 5 f fd ["_law_script"] (spLaw K) := by
  have z : Z K mg := ⟨⟨h, X, G⟩, c, m⟩
  have e := hfa.symm.trans (g_law z)
  cases e
  have b := FunD.bindsA (ps := ["_law_script"]) (f_law z) fun _ _ _ _ _ _ us hl => match us, hl with | [_], _ => rfl
  exact ⟨_, fun s v => b s [v] rfl, fun base _ _ => ok_law z⟩
end K92
open PySem PySem.W PySem.Calls PyProof.Rows
theorem PySem.Challenge.cw_cutscribe_k92_errors_made_holds : PySem.Challenge.rw_cutscribe_k92_errors_made.Holds := by
  w_on; o_law
  refine HandSHeadRun.head_any (r := OpenLaw.row PySem.Challenge.rw_cutscribe_k92_errors_made) (q := K92.qv) (H := K92.hk) (ob := K92.ob) (M := 100000) (loose := K92.names) (d := HandSHeadRun.topDef (OpenLaw.row PySem.Challenge.rw_cutscribe_k92_errors_made).prog 27) (kwd := []) K92.ob_eq
    (by kernel_rfl) (fun s => by kernel_rfl) K92.run (by kernel_rfl) (by kernel_rfl) (by kernel_rfl) (by rfl) (by first | assumption | decide +kernel) (by decide +kernel) ⟨rfl, rfl, rfl, rfl, rfl, by decide +kernel⟩ ?hw ?hc
  case hw => w_witness2
  case hc =>
    refine L2.walk_ofE (l := PySem.Challenge.rw_cutscribe_k92_errors_made) (n := 63) (k := 5) (x := "_law_script") (CX := L2.CX0) rfl (by decide) (by kernel_rfl) ⟨rfl, by decide, by decide⟩ ?F (fun _ _ _ _ z => z)
    intro w mg fa h Y G hmg0
    obtain ⟨K, KX, c, m⟩ := Y
    have hmg : mg ("law" : PySem.Str) = some (.ref fa) := by
      have e : (HandSHeadRun.topDef (OpenLaw.row PySem.Challenge.rw_cutscribe_k92_errors_made).prog 27).name = ("law" : PySem.Str) := by kernel_rfl
      rw [← e]
      exact hmg0
    obtain ⟨fd, hb, hF⟩ := K92.facts (P := (PySem.Challenge.rw_cutscribe_k92_errors_made).prog) (w := w) KX G hmg c m
    exact ⟨K, fd, K92.spLaw K, KX, hb, fun H a ns hl _ hS => ⟨a, ns, rfl, hS, hl, fun _ => rfl⟩, hF⟩
