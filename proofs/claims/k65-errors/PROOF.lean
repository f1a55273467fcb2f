import PyProof.Rows.All
import Wide.All
import OpenK.AllK
import Wide.FinOn
import HandS.ForMost
import HandS.ExcInit
import HandS.ExcIs
import HandS.ExcField
import HandS.Conv
import HandS.ExcValue
import HandS.ExcOwn
import PySem.Challenge.RW_heldproofs_k65_errors_made
set_option Elab.async false
set_option linter.all false
set_option maxRecDepth 100000
set_option maxHeartbeats 4000000
/-! exceptions of own classes as tracked objects: made, asked by isinstance, their fields read -/
namespace ExObj
open PySem PySem.Spec PySem.Calls PyProof.Rows L2
open PySem.W (InstAt)

/-- at a an exception object of the class at D; fs its fields by name, the last one first -/
def ExcAt (H : Hp) (a D : Addr) (fs : List (Str × V)) : Prop :=
  (fs = [] ∧ H a = some (exo a D none)) ∨ ∃ dd, H a = some (exo a D (some dd)) ∧ H dd = some (exd dd fs)

theorem kin_class {prog : Program} {w : World} {A : Around} {E : Value → Shared → Prop} {s : Shared} {K : PySem.W.Frag} {x D : Addr} {ox : Obj} {od : Option Obj} {Q : Option Value → Shared → Prop} (C : ExcC K D)
    (X : K.In s.heap) (I : InstAt s.heap x ox D od) (h : Q (some (.ref D)) { s with toks := s.toks + 1 }) : wpAny (model prog w) A (getAttr? (.ref x) "__class__") Q E s := by
  have hf : PySem.W.findObj K D od "__class__" = some (.bind (.builtin "getset_descriptor.__get__") (.builtin "object.__class__")) := by
    obtain ⟨cd, hc, _⟩ := PySem.W.any_some C.hd
    unfold PySem.W.findObj
    rw [hc, Option.bind_some, C.ha, Option.bind_some]
    simp [C.hn, C.ht]
  obtain ⟨hp, g, d, t, os⟩ := s
  have L0 := I.type (M := model prog w)
  have L1 := PySem.W.looks_findIn (M := model prog w) X C.hg
  have L2 := PySem.W.looks_findIn (M := model prog w) X C.hk
  have L3 := PySem.W.looks_find (M := model prog w) X I hf
  have sub : PySem.W.Looks (model prog w) hp (isInstance (.ref x) (.type "BaseException")) true := L0.andThen (PySem.W.looks_subIn X C.hs)
  have y1 : (onTheHeap (Value.ref D) && Value.builtin "BaseException.__getattribute__" == Value.builtin "object.__getattribute__") = false := by
    rw [show (Value.builtin "BaseException.__getattribute__" == Value.builtin "object.__getattribute__") = false by decide +kernel]; rfl
  unfold getAttr? getAttrBy? getAttrBy
  refine wpAny_bind (wpAny_mkText (wpAny_bind (wpAny_attempt (wpAny_holding (wpAny_bind (L0.at (wpAny_bind (L1.at ?_))))))))
  show wpAny _ _ (if (onTheHeap (Value.ref D) && Value.builtin "BaseException.__getattribute__" == Value.builtin "object.__getattribute__") = true then _ else _) _ _ _
  rw [y1, if_neg Bool.false_ne_true]
  unfold getAttrByItsOwn hookBefore
  refine wpAny_bind ?_
  rw [if_pos (show onTheHeap (Value.ref D) = true from rfl)]
  refine L2.at ?_
  refine wpAny_bind (wpAny_attempt (wpAny_holding ?_))
  unfold callGetattribute
  rw [show (false && onTheHeap (Value.builtin "BaseException.__getattribute__")) = false from rfl, if_neg Bool.false_ne_true]
  unfold boundAndCalled
  rw [PySem.F.excAttr_ValueError.ga.bind (.ref x)]
  refine wpAny_bind (wpAny_pure ?_)
  show wpAny _ _ (call (.builtin "BaseException.__getattribute__") [.ref x, .str "__class__" t]) _ _ _
  refine wpAny_call (codeAny_call_builtin PySem.F.excAttr_ValueError.ga.plain PySem.F.entry_bexc_ga ?_)
  refine @PySem.W.check_slot (model prog w) _ _ ⟨hp, g, d, t + 1, os⟩ "BaseException.__getattribute__" "BaseException" "__getattribute__" (.ref x) [.str "__class__" t] [] _ (by decide +kernel) (by decide +kernel) sub (PySem.F.args_bexc_ga (.ref x) (.str "__class__" t)) ?_
  unfold Builtin.«object.__getattribute__»
  refine wpAny_bind (wpAny_of_eq (a := ((Value.ref x : Value), [Value.str "__class__" t])) (by first | rfl | (simp only [slotArgs]; rfl)) ?_)
  refine wpAny_bind (wpAny_pure (wpAny_bind (L0.at (wpAny_bind (L3.at ?_)))))
  show wpAny _ _ (holding [Value.builtin "object.__class__"] (call (.builtin "getset_descriptor.__get__") [.builtin "object.__class__", .ref x, .ref D]) >>= ret) _ _ _
  refine wpAny_bind (wpAny_holding (wpAny_call (PySem.W.class_get (s := ⟨hp, g, d, t + 1, os⟩) (ox := ox) (od := od) X I C.hm ?_)))
  refine wpAny_pure ?_
  show wpAny _ _ (handedOut (.ref D)) _ _ _
  rw [PySem.W.handedOut_of (v := .ref D) rfl]
  first
    | exact wpAny_pure (wpAny_pure h)
    | exact wpAny_pure h
    | exact wpAny_pure (wpAny_bind (wpAny_pure (wpAny_pure h)))

theorem kitx {K : PySem.W.Frag} {x D : Addr} {ox : Obj} {od : Option Obj} (C : ExcC K D) : PySem.W.KitX K (.ref x) (.ref D) (fun h => InstAt h x ox D od) where
  ty := fun _ _ _ I => I.type
  it := fun _ _ Y _ => by
    obtain ⟨cd, hc, _⟩ := PySem.W.any_some C.hd
    unfold PySem.W.clsIn at hc
    split at hc
    · rename_i c1 d1 cd1 sl1 ho
      intro A1 Q1 E1 s1 k q
      unfold isType loadHead
      exact wpAny_bind (wpAny_loadPart (k _ _ (Y _ _ ho)) (wpAny_pure q))
    · cases hc
  ne := (PySem.W.handS_kitx_exc (x := x) (ox := ox) C.hg C.hk C.hs C.hd C.ha C.hn C.ht C.hm).ne
  ca := fun X I k => kin_class C X I k

section
variable {X : Cx} {pins : List (Addr × Obj)} {σ : L2.St} {H : Hp} {s : Shared}
theorem inst_of (I : Inv X pins σ H s) {a D : Addr} {fs : List (Str × V)} (h : ExcAt H a D fs) : ∃ ox od, InstAt s.heap a ox D od := by
  rcases h with ⟨_, h⟩ | ⟨dd, h, hd⟩
  · obtain ⟨t1, ho⟩ := exo_at I.hok h
    exact ⟨_, none, ho, rfl, rfl, trivial⟩
  · obtain ⟨t1, ho⟩ := exo_at I.hok h
    obtain ⟨mA, ⟨o, es, ep, he, _⟩, _⟩ := exd_at I.hok hd
    exact ⟨_, some o, ho, rfl, rfl, he⟩
/-- isinstance(e, c), e a tracked exception -/
def rIsX (K : PySem.W.Frag) : List V → Hp → VK → Prop := fun xs H Q => ∃ (a D : Addr) (fs : List (Str × V)) (c : V) (cv : Value) (b : Bool), xs = [.ref a, c] ∧ ExcC K D ∧ ExcAt H a D fs ∧ (∀ u, RelV c u → u = cv) ∧
  PySem.W.kitOne K (.ref D) cv = some b ∧ Q (.bl b) H
theorem call_isX : CallR X (.builtin "isinstance") (rIsX X.K) := by
  intro pins s σ H xs us Q I r h
  obtain ⟨a, D, fs, c, cv, b, rfl, C, he, hcv, e, q⟩ := h
  cases r with
  | cons rx rr =>
    cases rr with
    | cons rt rr =>
      cases rr
      cases rx
      have ec := hcv _ rt
      subst ec
      obtain ⟨ox, od, J⟩ := inst_of I he
      exact PySem.W.kia_one (kitx C) I.kIn J e (fun z => nomatch z) fun tk => ⟨.bl b, H, I.kept (t' := tk) fun _ _ z => z, rfl, q⟩
/-- e.n, e a tracked exception -/
def tXa (K : PySem.W.Frag) (n : Str) (te : TE) : TE := fun σ H Q => te σ H fun x H1 => ∃ (a C : Addr) (fs : List (Str × V)) (v : V), x = .ref a ∧ XfC K C ∧ PySem.W.findIn K (.ref C) n = some none ∧ ExcAt H1 a C fs ∧ fs.lookup n = some v ∧ Q v H1
theorem pe_xa {e : Expr} {te : TE} {pos : Pos} {n : Str} (he : PE X e te) (hb : attributeBase e n X.env (eval e X.env) = eval e X.env := by rfl) : PE X (.Attribute e n pos) (tXa X.K n te) := by
  refine ⟨fun pins s σ H Q I h => ?_⟩
  refine attr_of hb (thn (he.run pins s σ H _ I h) fun u s1 hh => ?_)
  obtain ⟨x, H1, I1, rx, a, C, fs, v, ex, T, hno, ha, l, q⟩ := hh
  subst ex
  obtain rfl : u = Value.ref a := rx
  rcases ha with ⟨z, _⟩ | ⟨dd, h1, h2⟩
  · rw [z] at l
    cases l
  · obtain ⟨t1, ho⟩ := exo_at I1.hok h1
    obtain ⟨mA, hns, hr⟩ := exd_at I1.hok h2
    obtain ⟨od, hod, hl⟩ := lookIn_ns hns
    obtain ⟨u, hu, ru⟩ := RelO.some_of (v := v) (o := mA n) (by rw [← l]; exact hr n)
    have J : InstAt s1.heap a _ C (some od) := ⟨ho, rfl, rfl, hod⟩
    exact HandSPX.exc_get I1.kIn J T.ga T.gg T.exC (PySem.W.findObj_own T.hdC hno rfl (by rw [hl, hu])) (handed_of ru) ⟨v, H1, I1.tok _, ru, q⟩
end

/-! ### making -/
section
variable {X : Cx} {e : Expr} {es : List Expr} {ta : TA} {p pos : Pos}
/-- C(e, ..), C's own __init__ keeping sp: the object stays tracked -/
def tMkV (C : Addr) (sp : Sp) (ta : TA) : TE := fun σ H Q => ta σ H fun vs H1 => vs.length ≤ 1000 ∧ ∀ a, H1 a = none → sp (.ref a :: vs) (upd H1 a (exo a C none)) (fun v H2 => v = .non ∧ Q (.ref a) H2) E0
theorem pe_mkV {x : Str} {C fI : Addr} {k : Nat} {fd : FuncData} {ps : List Str} {sp : Sp} (T : OexC X.K C) (iC : PySem.W.findIn X.K (.ref C) "__init__" = some (some (.ref fI))) (tI : PySem.W.typeIn X.K (.ref fI) = some (.type "function"))
    (F1 : FnOk X.prog X.w X.K X.mg X.base CX0 k fI fd ps sp) (hr : Room (k + 1) X.A) (hb : Binds X.K fd ps []) (hg : Gl X x) (hm : X.mg x = some (.ref C)) (ha : PA X (e :: es) ta)
    (hdb : (x == ("__debug__" : Str)) = false := by decide) (he : starEach (e :: es) X.env = (false, eval e X.env) :: starEach es X.env := by rfl) (hpl : (backTo pos (starEach es X.env)).any (·.1) = false := by rfl) :
    PE X (.Call (.Name x p) (e :: es) [] pos) (tMkV C sp ta) := by
  refine ⟨fun pins s σ H Q I h => ?_⟩
  obtain ⟨nm, q, N, bs, bm, sn, sub, ab, col, dd, k0, k1, k2, k3, k5, hC, hbm⟩ := T.cls
  refine wpAny_Call_Name_kw (ld_glob I hg hm ?_ hdb)
  refine PySem.W.callWith_K (h₀ := X.base) I.ok.mod.kin T.kC (thn (ha.run pos pins s σ H _ I h) fun us s1 ⟨vs, H1, I1, r1, hz, q1⟩ => ⟨I1.kIn, ?_⟩) he hpl
  show wpAny _ _ (call (.ref C) us) _ _ _
  obtain ⟨hp, g, dr, tk, os⟩ := s1
  have hsz : hp.objs.size ≤ hp.objs.size + 1 := Nat.le_succ _
  have hn : H1 (hp.objs.size + 1) = none := I1.hok.fresh hsz
  have hq := q1 (hp.objs.size + 1) hn
  have kk : ∀ b o, hp.get? b = some o → ((hp.push (PySem.W.kdv_tup us)).push (PySem.HandSPX.excO C hp.objs.size)).get? b = some o := fun b o z => Heap.get?_push_of_some _ (Heap.get?_push_of_some _ z)
  have hget : ((hp.push (PySem.W.kdv_tup us)).push (PySem.HandSPX.excO C hp.objs.size)).get? (hp.objs.size + 1) = some (PySem.HandSPX.excO C hp.objs.size) := by heap_get
  have I2 : Inv X pins σ (upd H1 (hp.objs.size + 1) (exo (hp.objs.size + 1) C none)) ⟨(hp.push (PySem.W.kdv_tup us)).push (PySem.HandSPX.excO C hp.objs.size), g, dr, tk, os⟩ :=
    I1.laid (t' := tk) (a := hp.objs.size + 1) (o := exo (hp.objs.size + 1) C none) (h' := (hp.push (PySem.W.kdv_tup us)).push (PySem.HandSPX.excO C hp.objs.size)) kk hsz (exo_ok hget)
  have r2 : Vals (V.ref (hp.objs.size + 1) :: vs) (Value.ref (hp.objs.size + 1) :: us) := .cons rfl r1
  have hl : (Value.ref (hp.objs.size + 1) :: us ++ []).length = ps.length := by
    have z := r2.length
    rw [F1.len _ _ _ _ hq] at z
    rw [List.append_nil]
    exact z.symm
  have hus : us.length ≤ sizeLine := by
    rw [← Paired.length r1, sizeLine_eq]
    omega
  have bnd := hb _ (Value.ref (hp.objs.size + 1) :: us) I2.kIn hl
  rw [List.append_nil] at bnd
  refine wpAny_call (PySem.HandSPX.call_own F.excBase_ValueError (fun Y => PySem.HandSPX.refsVE_contains Y bm hbm) (I1.kIn _ _ hC) (PySem.W.looks_findIn I1.kIn iC) (fun self => PySem.W.bind_fn I1.kIn self tI) hus
    (codeAny_mono (F1.run _ X.stack _ _ ⟨Value.ref (hp.objs.size + 1) :: us, []⟩ (Value.ref (hp.objs.size + 1) :: us) _ _ _ (hr.make C us []) (I2.env0.make C us []) bnd r2 hq) fun r s' hq' => ?_))
  cases r with
  | error er => exact False.elim hq'
  | ok fl =>
    cases fl with
    | ret u =>
      obtain ⟨v, H2, I3, rv, ev, q2⟩ := I2.after hq'
      subst ev
      exact ⟨rv, ⟨V.ref (hp.objs.size + 1), H2, I3, rfl, q2⟩⟩
    | next => exact False.elim hq'
    | brk => exact False.elim hq'
    | cont => exact False.elim hq'
/-- C() of an own exception class without own __init__ -/
def tMk0 (C : Addr) : TE := fun σ H Q => ∀ a, H a = none → Q (.ref a) (upd H a (exo a C none))
theorem pe_mk0 {x : Str} {C : Addr} (q : PySem.W.excIn X.K C [.type "ValueError", .type "Exception", .type "BaseException", .type "object"] "ValueError.__new__" = true) (kC : PySem.W.keepIn X.K (.ref C) = true) (hg : Gl X x) (hm : X.mg x = some (.ref C))
    (hdb : (x == ("__debug__" : Str)) = false := by decide) : PE X (.Call (.Name x p) [] [] pos) (tMk0 C) := by
  refine ⟨fun pins s σ H Q I h => ?_⟩
  refine wpAny_Call_Name_kw (ld_glob I hg hm ?_ hdb)
  refine PySem.W.callWith_K0 I.kIn kC ?_
  obtain ⟨bm, N, nm, qn, bs, hdct, sn, sub, ab, col, dd, k0, k1, k2, k3, k5, mN, hC, hN, hni, T⟩ := exc_obj I.kIn q
  refine wpAny_call_exc_subT F.excBase_ValueError T hC hN hni (fun h' a hm => ?_) (by show 0 ≤ sizeLine; exact Nat.zero_le _)
  have hn : H a = none := I.hok.gone hm.new
  obtain ⟨t, ht, _, _⟩ := hm.there
  exact ⟨.ref a, upd H a (exo a C none), I.laidN hm.keeps hm.new hn (exo_ok ht), rfl, h a hn⟩
/-- B.__init__(self, ..), B an own class over ValueError that says none of its own -/
theorem pe_baseinit {pl : Sem Bool} {x : Str} {B : Addr} {p1 p2 : Pos} (hg : Gl X x) (hm : X.mg x = some (.ref B)) (hs : PySem.W.specialIn X.K (.ref B) "__getattribute__" = some (some (.builtin "type.__getattribute__")))
    (ht : PySem.W.typeIn X.K (.ref B) = some (.type "type")) (hr : PySem.W.readsIn X.K B (.type "type") = true) (hf : PySem.W.findCls X.K (.ref B) (.type "type") "__init__" = some (.val (.builtin "ValueError.__init__"))) (ha : PA X (e :: es) ta)
    (hdb : (x == ("__debug__" : Str)) = false := by decide)
    (hc : eval (.Call (.Attribute (.Name x p1) "__init__" p2) (e :: es) [] pos) X.env = (do
      let ov ← eval (.Name x p1) X.env
      standAt p2.atName
      let (f, first) ← holding [ov] (getMethod ov "__init__" pl)
      callWith pos f first (backTo pos (starEach (e :: es) X.env)) (backToKw pos (keywordEach [] X.env))) := by rfl)
    (he : starEach (e :: es) X.env = (false, eval e X.env) :: starEach es X.env := by rfl) (hpl : (backTo pos (starEach es X.env)).any (·.1) = false := by rfl) :
    PE X (.Call (.Attribute (.Name x p1) "__init__" p2) (e :: es) [] pos) (tVeI X.K ta) := by
  refine ⟨fun pins s σ H Q I h => ?_⟩
  refine PySem.W.methodCall_KW (ld_glob I hg hm ?_ hdb) hc
  obtain ⟨m, fr⟩ := I.fr
  refine PySem.W.method_of_cls fr I.ok.mod.kin hs (PySem.W.cls_val fr I.ok.mod.kin ht hr hf (by decide +kernel) ?_)
  show wpAny _ _ (callWith pos (Value.builtin "ValueError.__init__") [] (backTo pos (starEach (e :: es) X.env)) []) _ _ _
  refine PyProof.Rows.callWith_method1 (thn (ha.run pos pins _ σ H _ (I.tok _) h) fun us s1 ⟨vs, H1, I1, r1, a, C, ws, ev, hl, T, ea, q⟩ => ?_) he hpl
  subst ev
  cases r1 with
  | @cons _ u0 _ ur ra rw' =>
    obtain rfl : u0 = Value.ref a := ra
    have hlen : ur.length ≤ sizeLine := by
      rw [← Paired.length rw', sizeLine_eq]
      omega
    exact oinit_ok T I1 ea hlen fun s' J => ⟨.non, H1, J, rfl, q⟩
end

/-! ### repr of data, where no repr runs around -/
theorem guards_deeper {A : Around} {env : Env} : (A.deeper env).guards = A.guards := rfl
section
variable {X : Cx}
def rReprD (K : PySem.W.Frag) : List V → Hp → VK → Prop := fun xs H Q => ∃ (a : Addr) (d : PyData), xs = [.ref a] ∧ Dp K H (.ref a) d ∧ d.showable = true ∧ d.hasDict = false ∧ d.depth ≤ 60 ∧ d.shown.length ≤ sizeLine ∧ Q (.str d.shown) H
theorem call_reprD (hu : X.A.units + 64 < cLine) (hg : X.A.guards = some []) : CallR X (.builtin "repr") (rReprD X.K) := by
  intro pins s σ H xs us Q I r h
  obtain ⟨a, d, rfl, hd, h1, h2, h3, h4, q⟩ := h
  cases r with
  | cons rx rr =>
    cases rr
    obtain ⟨as, hR⟩ := Dp.reads I d _ _ hd rx
    cases rx
    exact PySem.repr_of_reads' (h₀ := s.heap) hR h1 (PyData.noDict_hsm h2) hg (by omega) (fun _ _ z => z) (fun h' u tk k => ⟨.str _, H, I.kept (t' := tk) k, ⟨u, rfl⟩, q⟩) h4
end
end ExObj
set_option Elab.async false
set_option linter.all false
set_option maxRecDepth 100000
set_option maxHeartbeats 4000000
/-! promises of defs that are called where no repr runs around -/
namespace GuardFn
open PySem PySem.Spec PyProof.Rows L2
/-- as FnOk, for places where no guard (of a running repr) stands around -/
structure FnG (P : Program) (w : World) (K : PySem.W.Frag) (mg : Str → Option Value) (base : Heap) (k : Nat) (f : Addr) (fd : FuncData) (ps : List Str) (sp : Sp) : Prop where
  len : ∀ vs H Q E, sp vs H Q E → vs.length = ps.length
  run : ∀ (A : Around) (outer : List Env) (s : Shared) (H : Hp) (args : Args) (us : List Value) (vs : List V) (Q : VK) (E : XK), A.guards = some [] → Room k A → Env0 P w K mg base A outer s H →
    BindsTo s fd args (ps.zip us) → Vals vs us → sp vs H Q E → codeAny (model P w) A (.call (.ref f) args) (CR CX0 outer P w H s Q E) s
section
variable {P : Program} {w : World} {K : PySem.W.Frag} {mg : Str → Option Value} {base : Heap}
theorem okG {x qual : Str} {st : Stmt} {f : Addr} {fd : FuncData} {N ps : List Str} {k : Nat} {sp : Sp} (F : Fun K x qual st f fd) (S : FnScope N ps (defScope st)) (len : ∀ vs H Q E, sp vs H Q E → vs.length = ps.length)
    (hbody : ∀ (cdv : Value) (A : Around) (outer : List Env) (s : Shared) (H : Hp) (vs : List V) (Q : VK) (E : XK), A.guards = some [] → Room k (A.deeper (envOfC qual (defScope st) s.heap.objs.size f cdv)) → sp vs H Q E →
      ∃ t, PSs (cxOf CX0 P w K mg base N qual (defScope st) f cdv A outer s H E).nox (defBody st) t ∧ t { nx := fun _ H' => Q .non H', rt := Q } (start N vs) H) : FnG P w K mg base (k + 1) f fd ps sp := by
  obtain ⟨oc, od, kV, doc, pm, an, cdv, ct, osl, rfl, lk, hcd⟩ := F.ex
  refine ⟨len, fun A outer s H args us vs Q E hg hr e0 hb r hsp => ?_⟩
  have hl := len _ _ _ _ hsp
  have KX : K.In s.heap := e0.mod.kin.keeps fun b o e => (e0.bs b o e).1
  have lim : s.heap.NoLimit := e0.mod.nolimit.keeps fun b o e => (e0.bs b o e).1
  have par : ∀ y ∈ ps.zip us, (defScope st).names.lookup y.1 = some .local ∨ ((defScope st).names.lookup y.1 = some .cell ∧ ((cellsFrom (s.heap.objs.size + 1) (defScope st).names []).lookup y.1).isSome = true) := fun y hy => by
    rcases S.par y.1 (List.of_mem_zip (show (y.1, y.2) ∈ ps.zip us from hy)).1 with q | q
    · exact .inl q
    · exact .inr ⟨q, PySem.W.cellsFrom_some _ _ _ (.inl q)⟩
  refine codeAny_call_function hr.depth (KX _ _ lk) rfl S.co S.gen rfl (PySem.W.codeRec_of KX hcd) (hb _ _ _ _ ?_)
  refine wpAny_newFunctionEnv_cells S.kind par fun env he s1 y => ?_
  subst he
  refine ⟨lim.keeps y.toInCall.keep, codeAny_func ?_⟩
  obtain ⟨t, ht, hq⟩ := hbody cdv A outer s H vs Q E hg (hr.deeper _) hsp
  have I : Inv (cxOf CX0 P w K mg base N qual (defScope st) f cdv A outer s H E) [] (start N vs) H s1 := inv_start S hr.hd e0 hl r y
  refine wpAny_mono (ht.nox.run [] s1 (start N vs) H _ I hq) (fun fl s' hs => ?_) fun e s' hs => hs
  cases fl with
  | ret u =>
    obtain ⟨v, σ', H', J, rv, q⟩ := hs
    exact ⟨v, H', J.os, J.bare, J.base, J.hok, rv, q⟩
  | next =>
    obtain ⟨σ', H', J, q⟩ := hs
    exact ⟨V.non, H', J.os, J.bare, J.base, J.hok, rfl, q⟩
  | brk =>
    obtain ⟨_, _, _, q⟩ := hs
    exact False.elim q
  | cont =>
    obtain ⟨_, _, _, q⟩ := hs
    exact False.elim q
end
section
variable {X : Cx} {k : Nat} {f : Addr} {fd : FuncData} {ps : List Str} {sp : Sp} {x : Str} {p pos : Pos} {e : Expr} {es : List Expr} {t : TA}
theorem pe_callG (F : FnG X.prog X.w X.K X.mg X.base k f fd ps sp) (hgd : X.A.guards = some []) (hr : Room k X.A) (hg : Gl X x) (hm : X.mg x = some (.ref f)) (hk : PySem.W.keepIn X.K (.ref f) = true) (hb : Binds X.K fd ps [])
    (ha : PA X (e :: es) t) (hdb : (x == ("__debug__" : Str)) = false := by decide) (he : starEach (e :: es) X.env = (false, eval e X.env) :: starEach es X.env := by rfl) (hpl : (backTo pos (starEach es X.env)).any (·.1) = false := by rfl) :
    PE X (.Call (.Name x p) (e :: es) [] pos) (tCall sp [] E0 t) := by
  refine ⟨fun pins s σ H Q I h => ?_⟩
  refine wpAny_Call_Name_kw (ld_glob I hg hm ?_ hdb)
  refine PySem.W.callWith_K (h₀ := X.base) I.ok.mod.kin hk (thn (ha.run pos pins s σ H _ I h) fun us s1 ⟨vs, H1, I1, r, q⟩ => ⟨I1.kIn, ?_⟩) he hpl
  have q' : sp vs H1 Q E0 := by simpa using q
  have hl : (us ++ []).length = ps.length := by
    rw [List.append_nil, ← r.length]
    exact F.len _ _ _ _ q'
  have bnd := hb s1 us I1.kIn hl
  rw [List.append_nil] at bnd
  show wpAny _ _ (call (.ref f) us) _ _ _
  refine wpAny_call (codeAny_mono (F.run X.A X.stack s1 H1 ⟨us, []⟩ us vs Q E0 hgd hr I1.env0 bnd r q') fun r s' hq => ?_)
  cases r with
  | error e => exact False.elim hq
  | ok fl =>
    cases fl with
    | ret u => exact I1.after hq
    | next => exact False.elim hq
    | brk => exact False.elim hq
    | cont => exact False.elim hq
end
/-- the law's call, its def by FnG -/
theorem law_callG {P : Program} {w : World} {K : PySem.W.Frag} {mg mb : Str → Option Value} {k : Nat} {fa a : Addr} {fd : FuncData} {x : Str} {sp : Sp} {s₁ : Shared} {vs : List Value} {ns : List Int}
    (KX : K.In s₁.heap) (hns : s₁.heap.Ns mainGlobals mg) (hb : s₁.heap.Ns builtinsNs mb) (hbb : ∀ x : Str, x ≠ "__name__" → mb x = bootBuiltins x) (hlim : s₁.heap.NoLimit) (hg : s₁.gens = #[])
    (ha : s₁.heap.get? a = some { cls := .type "list", data := .seq vs.toArray }) (hi : IntsAre vs ns) (hl : ns.length ≤ sizeLine) (hr : Room k callerA)
    (F : ∀ base : Heap, K.In base → base.Ns mainGlobals mg → FnG P w K mg base k fa fd [x] sp) (hbind : ∀ (s : Shared) (u : Value), BindsTo s fd ⟨[u], []⟩ [(x, u)])
    (hsp : ∀ H : Hp, Only H → SqL K H a (ns.map V.int) → sp [.ref a] H (fun v _ => v = .bl true) fun _ _ _ => False) :
    codeAny (model P w) callerA (.call (.ref fa) ⟨[.ref a], []⟩) (fun r s' => r = .ok (.ret (.bool true)) ∧ OldK s₁.heap s'.heap ∧ s'.os = s₁.os ∧ AllBare s'.gens) s₁ := by
  have rv := vals_ints hi
  have lenV := hi.length
  have go : ∀ H : Hp, Only H → SqL K H a (ns.map V.int) → HOk P w H s₁.heap → (∀ b, H b ≠ none → b = a) → (H a ≠ none → K.lookup a = none) →
      codeAny (model P w) callerA (.call (.ref fa) ⟨[.ref a], []⟩) (fun r s' => r = .ok (.ret (.bool true)) ∧ OldK s₁.heap s'.heap ∧ s'.os = s₁.os ∧ AllBare s'.gens) s₁ := by
    intro H hO hS hok hA hK
    have dictFree : ∀ {b : Addr} {o : Obj} {es : Array DictEntry} {ep : Nat}, s₁.heap.get? b = some o → o.data = .dict es ep → H b = none := fun {b o es ep} e d => by
      cases q : H b with
      | none => rfl
      | some u =>
        have e' : b = a := hA b (by rw [q]; simp)
        subst e'
        rw [ha] at e; cases e
        exact nomatch (show Data.seq vs.toArray _ = Data.dict es ep from d)
    have nsK : ∀ {b : Addr} {m : Str → Option Value}, s₁.heap.Ns b m → (hidT s₁.heap H).Ns b m := fun {b m} ⟨o, es, ep, e, d, r⟩ => ⟨o, es, ep, hidT_get e (dictFree e d), d, r⟩
    have hKb : K.In (hidT s₁.heap H) := fun b o e => hidT_get (KX b o e) (by
      cases q : H b with
      | none => rfl
      | some u =>
        have e' : b = a := hA b (by rw [q]; simp)
        subst e'
        rw [hK (by rw [q]; simp)] at e; cases e)
    have hM : Mod K mg (hidT s₁.heap H) := ⟨hKb, nsK hns, ⟨mb, nsK hb, hbb⟩, let ⟨mc, h1, h2⟩ := hlim; ⟨mc, nsK h1, h2⟩⟩
    have e0 : Env0 P w K mg (hidT s₁.heap H) callerA [] s₁ H := ⟨rfl, hM, fun b o e => of_hidT e, Nat.le_of_eq (hidT_size _ _), trivial, fun b hb => absurd (show b ∈ ([] : List Addr) from hb) (by simp), hok, .of_eq hg⟩
    refine codeAny_mono ((F _ hKb (nsK hns)).run callerA [] s₁ H ⟨[.ref a], []⟩ [.ref a] [.ref a] _ _ rfl hr e0 (hbind s₁ (.ref a)) (.cons rfl .nil) (hsp H hO hS)) fun r s' h => ?_
    cases r with
    | error e => exact False.elim h
    | ok fl =>
      cases fl with
      | next => exact False.elim h
      | brk => exact False.elim h
      | cont => exact False.elim h
      | ret u =>
        obtain ⟨v, H', os, bare, un, hok', r', q⟩ := h
        have q' : v = .bl true := q
        subst q'
        obtain rfl : u = Value.bool true := r'
        refine ⟨rfl, OldK.of_keep fun b o e => ?_, os, bare⟩
        cases q : H b with
        | none => exact un.keep b o e q (by intro z; exact absurd (show b ∈ ([] : List Addr) from z) (by simp)) (by simp)
        | some u =>
          rcases hO b with z | ⟨ob, xs, z⟩
          · rw [q] at z; cases z
          · obtain ⟨e1, _⟩ := hok b _ z
            obtain ⟨e2, _⟩ := hok' b _ (un.frzs b ob _ z)
            rw [e] at e1; cases e1
            exact e2
  cases hk : K.lookup a with
  | some o =>
    have e := KX a o hk
    rw [ha] at e
    cases e
    refine go (fun _ => none) (fun _ => .inl rfl) (.inr ⟨_, vs.toArray, _, hk, rfl, rfl, rfl, by rw [List.size_toArray, lenV]; exact hl, by simpa using rv⟩) (fun b u z => by have z' : (none : Option HO) = some u := z; cases z') (fun b z => absurd rfl z) fun z => absurd rfl z
  | none =>
    refine go (fun b => if b = a then some (.frz { cls := .type "list", data := .seq vs.toArray } (.lst (ns.map V.int))) else none) (fun b => ?_) (.inl (.inr ⟨{ cls := .type "list", data := .seq vs.toArray }, if_pos rfl⟩)) (fun b u z => ?_) (fun b z => ?_) fun _ => hk
    · by_cases hb : b = a
      · exact .inr ⟨_, _, if_pos hb⟩
      · exact .inl (if_neg hb)
    · by_cases hb : b = a
      · have z' := (if_pos hb).symm.trans z
        cases z'
        subst hb
        exact ⟨ha, by rw [List.length_map]; exact hl, vs, _, rv, ha⟩
      · have z' := (if_neg hb).symm.trans z
        cases z'
    · by_cases hb : b = a
      · exact hb
      · exact absurd (if_neg hb) z
/-- what k_head leaves, from the law's promise -/
theorem walk_ofG {l : PySem.W.OpenLaw} {n k : Nat} {q : Program} {loose : List Str} {XP : (Str → Option Value) → Heap → Prop} {YP : World → Heap → Prop} {d : DefRec} {K : Params → PySem.W.Frag} {sp : PySem.W.Frag → Sp} {x : Str}
    (hn : l.most = some n) (hn2 : n ≤ sizeLine) (hdf : d.params.defaults = []) (hr : Room k callerA) (hY : ∀ (w : World) (h : Heap), YP w h → (K w.params).In h)
    (F : ∀ (w : World) (mg : Str → Option Value) (fa : Addr) (h : Heap), (K w.params).In h → h.Ns mainGlobals mg → mg d.name = some (.ref fa) →
      ∃ fd : FuncData, (∀ (s : Shared) (u : Value), BindsTo s fd ⟨[u], []⟩ [(x, u)]) ∧ ∀ base : Heap, (K w.params).In base → base.Ns mainGlobals mg → FnG l.prog w (K w.params) mg base k fa fd [x] (sp (K w.params)))
    (hsp : ∀ (K : PySem.W.Frag) (H : Hp) (a : Addr) (ns : List Int), ns.length ≤ n → Only H → SqL K H a (ns.map V.int) → sp K [.ref a] H (fun v _ => v = .bl true) fun _ _ _ => False) :
    PySem.W.WalkO q loose XP YP l.row.toRowW d [] (fun f vs => PySem.call f vs) := by
  refine Att.attach_call hn hdf fun w s₀ s₁ mg mb fa o pm cd doc a vs ns G Y ho hd hcd hmg hobj hints hlen hg => ?_
  have KX := hY w _ Y
  obtain ⟨fd, hb, hF⟩ := F w mg fa _ KX G.T.g hmg
  exact law_callG KX G.T.g G.T.b G.T.builtins G.T.nolimit hg hobj hints (Nat.le_trans hlen hn2) hr hF hb fun H hO hS => hsp (K w.params) H a ns hlen hO hS
end GuardFn
set_option Elab.async false
set_option linter.all false
set_option maxRecDepth 100000
set_option maxHeartbeats 4000000
namespace K65
open PySem PySem.Spec PyProof.Rows L2 ExObj
def top (i : Nat) : Stmt := PySem.Challenge.pw_heldproofs_k65_errors_made.main.body.getD i (.Pass ⟨0, 0, 0, 0⟩)
/-- the def x of the text stands and keeps the promise -/
def Ok (P : Program) (w : World) (K : PySem.W.Frag) (mg : Str → Option Value) (base : Heap) (k : Nat) (x : Str) (st : Stmt) (ps : List Str) (sp : Sp) : Prop :=
  ∃ f fd, Fun K x x st f fd ∧ mg x = some (.ref f) ∧ Binds K fd ps [] ∧ FnOk P w K mg base CX0 k f fd ps sp
/-- it stands -/
def Stands (K : PySem.W.Frag) (mg : Str → Option Value) (x : Str) (st : Stmt) (ps : List Str) : Prop :=
  ∃ f fd, Fun K x x st f fd ∧ mg x = some (.ref f) ∧ Binds K fd ps []
section
variable {X : Cx} {k : Nat} {x : Str} {st : Stmt} {ps : List Str} {sp : Sp} {p pos : Pos} {e : Expr} {es : List Expr} {t : TA}
theorem pe_own (O : Ok X.prog X.w X.K X.mg X.base k x st ps sp) (hr : Room k X.A) (ha : PA X (e :: es) t) (hg : Gl X x := by rfl) (hdb : (x == ("__debug__" : Str)) = false := by decide)
    (he : starEach (e :: es) X.env = (false, eval e X.env) :: starEach es X.env := by rfl) (hpl : (backTo pos (starEach es X.env)).any (·.1) = false := by rfl) :
    PE X (.Call (.Name x p) (e :: es) [] pos) (tCall sp [] E0 t) := by
  obtain ⟨f, fd, F, m, b, G⟩ := O
  exact pe_call G hr hg m F.kp b .nil pass0 ha hdb he hpl
end
/-! ### heaps -/
/-- what is tracked but at p stands -/
def But (p : Addr) (H H' : Hp) : Prop := ∀ b o, b ≠ p → H b = some o → H' b = some o
theorem But.refl {p : Addr} {H : Hp} : But p H H := fun _ _ _ h => h
theorem But.trans {p : Addr} {H H1 H2 : Hp} (a : But p H H1) (b : But p H1 H2) : But p H H2 := fun c o n h => b c o n (a c o n h)
theorem But.mut {p : Addr} {H H1 : Hp} {o : HO} (a : But p H H1) : But p H (upd H1 p o) := fun c u n h => by
  rw [upd_ne n]
  exact a c u n h
theorem But.new {p q : Addr} {H H1 : Hp} {o : HO} (a : But p H H1) (hq : H1 q = none) : But p H (upd H1 q o) := fun c u n h => by
  have z := a c u n h
  rw [upd_ne (ne_of_none z hq)]
  exact z
theorem Same.but {p : Addr} {H H' : Hp} (h : Same H H') : But p H H' := fun b o _ e => h b o e
theorem same_new {q : Addr} {H : Hp} {o : HO} (hq : H q = none) : Same H (upd H q o) := fun c u h => by
  rw [upd_ne (ne_of_none h hq)]
  exact h
theorem same_trans {H H1 H2 : Hp} (a : Same H H1) (b : Same H1 H2) : Same H H2 := fun c o h => b c o (a c o h)
/-- what is free behind was free before -/
theorem But.free {p q : Addr} {H H' : Hp} (a : But p H H') (hq : H' q = none) (n : q ≠ p) : H q = none := by
  cases e : H q with
  | none => rfl
  | some o =>
    have z := a q o n e
    rw [hq] at z
    cases z
/-- the pool stands at p -/
def Pool (H : Hp) (p : Addr) : Prop := ∃ a b c : Int, H p = some (.lst [.int a, .int b, .int c])
theorem Pool.ne {H : Hp} {p q : Addr} (h : Pool H p) (hq : H q = none) : q ≠ p := fun z => by
  obtain ⟨a, b, c, e⟩ := h
  rw [← z, hq] at e
  cases e
theorem Pool.keep {H H' : Hp} {p : Addr} (h : Pool H p) (s : Same H H') : Pool H' p := by
  obtain ⟨a, b, c, e⟩ := h
  exact ⟨a, b, c, s _ _ e⟩
theorem Pool.new {H : Hp} {p q : Addr} {o : HO} (h : Pool H p) (hq : H q = none) : Pool (upd H q o) p := h.keep (same_new hq)
theorem at0 {a b c : V} : atI [a, b, c] 0 = some a := rfl
theorem at1 {a b c : V} : atI [a, b, c] 1 = some b := rfl
theorem at2 {a b c : V} : atI [a, b, c] 2 = some c := rfl
theorem fmod_of (x : Int) {m : Int} (h : 0 < m) : ∃ r, x.fmod m = r ∧ 0 ≤ r ∧ r < m := by
  refine ⟨_, rfl, ?_, ?_⟩
  · rw [Int.fmod_eq_emod_of_nonneg _ (by omega)]
    exact Int.emod_nonneg _ (by omega)
  · rw [Int.fmod_eq_emod_of_nonneg _ (by omega)]
    exact Int.emod_lt_of_pos _ h
/-! ### what is drawn -/
def Small (n : Int) : Prop := 0 ≤ n ∧ n < 1000000000
/-- a short text of plain signs -/
def GoodS (z : Str) : Prop := z.length ≤ 12 ∧ ∀ c ∈ z.cps.toList, c < 128
def GoodV (H : Hp) (v : V) : Prop := (∃ z : Str, v = .str z ∧ GoodS z) ∨ (∃ n, v = .int n ∧ Small n) ∨ ∃ (t : Addr) (ns : List Int), v = .ref t ∧ H t = some (.tup (ns.map V.int)) ∧ ns.length ≤ 4 ∧ ∀ n ∈ ns, Small n
theorem GoodV.keep {H H' : Hp} {v : V} {p : Addr} (hp : Pool H p) (b : But p H H') (h : GoodV H v) : GoodV H' v := by
  rcases h with h | h | ⟨t, ns, rfl, e, h1, h2⟩
  · exact .inl h
  · exact .inr (.inl h)
  · refine .inr (.inr ⟨t, ns, rfl, b t _ ?_ e, h1, h2⟩)
    rintro rfl
    obtain ⟨a, b, c, z⟩ := hp
    rw [e] at z
    cases z
def counts : Nat → Nat
  | 12 | 13 => 2
  | 14 => 3
  | n => if n < 19 then 1 else 0
/-! ### promises -/
def spNext : Sp := fun vs H Q _ => ∃ (p : Addr) (m : Int), vs = [.ref p, .int m] ∧ Pool H p ∧ 0 < m ∧ m < 1073741824 ∧ ∀ d H', 0 ≤ d → d < m → But p H H' → Pool H' p → Q (.int d) H'
def spCell (K : PySem.W.Frag) : Sp := fun vs H Q _ => ∃ (a : Addr) (ns : List Int), vs = [.ref a, .int 0] ∧ SqL K H a (ns.map V.int) ∧ ns.length ≤ 63 ∧ ∀ n, Q (.int n) H
def spPool (K : PySem.W.Frag) : Sp := fun vs H Q _ => ∃ (a : Addr) (ns : List Int), vs = [.ref a, .int 0] ∧ SqL K H a (ns.map V.int) ∧ ns.length ≤ 63 ∧ ∀ p H', Same H H' → Pool H' p → Q (.ref p) H'
def spText : Sp := fun vs H Q _ => ∃ p : Addr, vs = [.ref p] ∧ Pool H p ∧ ∀ (z : Str) H', GoodS z → But p H H' → Pool H' p → Q (.str z) H'
def spNumber : Sp := fun vs H Q _ => ∃ p : Addr, vs = [.ref p] ∧ Pool H p ∧ ∀ n H', Small n → But p H H' → Pool H' p → Q (.int n) H'
def spGood : Sp := fun vs H Q _ => ∃ p : Addr, vs = [.ref p] ∧ Pool H p ∧ ∀ v H', GoodV H' v → But p H H' → Pool H' p → Q v H'
def spValues : Sp := fun vs H Q _ => ∃ (p : Addr) (w : Nat), vs = [.ref p, .int w] ∧ w < 26 ∧ Pool H p ∧ ∀ L ws H', L ≠ p → H' L = some (.lst ws) → ws.length = counts w → (∀ v ∈ ws, GoodV H' v) → But p H H' → Pool H' p → Q (.ref L) H'
/-- what the top has written of the first defs -/
structure TxtA (K : PySem.W.Frag) (mg : Str → Option Value) : Prop where
  abs : mg "abs" = none
  len : mg "len" = none
  int : mg "int" = none
  range : mg "range" = none
  tuple : mg "tuple" = none
abbrev s_cell : Stmt := top 29
abbrev N_cell : List Str := ["_law_script", "_law_k"]
abbrev P_cell : List Str := ["_law_script", "_law_k"]
theorem sc_cell : FnScope N_cell P_cell (defScope s_cell) := ⟨rfl, rfl, rfl, by decide +kernel, rfl, by decide +kernel, by decide +kernel⟩

abbrev s_pool : Stmt := top 30
abbrev N_pool : List Str := ["_law_script", "_law_k", "_law_cell_here"]
abbrev P_pool : List Str := ["_law_script", "_law_k"]
theorem sc_pool : FnScope N_pool P_pool (defScope s_pool) := ⟨rfl, rfl, rfl, by decide +kernel, rfl, by decide +kernel, by decide +kernel⟩

abbrev s_next : Stmt := top 31
abbrev N_next : List Str := ["_law_pool_here", "_law_many", "_law_digit", "_law_mixed"]
abbrev P_next : List Str := ["_law_pool_here", "_law_many"]
theorem sc_next : FnScope N_next P_next (defScope s_next) := ⟨rfl, rfl, rfl, by decide +kernel, rfl, by decide +kernel, by decide +kernel⟩

abbrev s_text : Stmt := top 32
abbrev N_text : List Str := ["_law_pool_here", "_law_signs", "_law_text_here", "_law_k"]
abbrev P_text : List Str := ["_law_pool_here"]
theorem sc_text : FnScope N_text P_text (defScope s_text) := ⟨rfl, rfl, rfl, by decide +kernel, rfl, by decide +kernel, by decide +kernel⟩

abbrev s_number : Stmt := top 33
abbrev N_number : List Str := ["_law_pool_here"]
abbrev P_number : List Str := ["_law_pool_here"]
theorem sc_number : FnScope N_number P_number (defScope s_number) := ⟨rfl, rfl, rfl, by decide +kernel, rfl, by decide +kernel, by decide +kernel⟩

abbrev s_path : Stmt := top 34
abbrev N_path : List Str := ["_law_pool_here", "_law_k"]
abbrev P_path : List Str := ["_law_pool_here"]
theorem sc_path : FnScope N_path P_path (defScope s_path) := ⟨rfl, rfl, rfl, by decide +kernel, rfl, by decide +kernel, by decide +kernel⟩

abbrev s_kind : Stmt := top 35
abbrev N_kind : List Str := ["_law_pool_here"]
abbrev P_kind : List Str := ["_law_pool_here"]
theorem sc_kind : FnScope N_kind P_kind (defScope s_kind) := ⟨rfl, rfl, rfl, by decide +kernel, rfl, by decide +kernel, by decide +kernel⟩

abbrev s_values : Stmt := top 36
abbrev N_values : List Str := ["_law_pool_here", "_law_which"]
abbrev P_values : List Str := ["_law_pool_here", "_law_which"]
theorem sc_values : FnScope N_values P_values (defScope s_values) := ⟨rfl, rfl, rfl, by decide +kernel, rfl, by decide +kernel, by decide +kernel⟩

section
variable {P : Program} {w : World} {K : PySem.W.Frag} {mg : Str → Option Value} {base : Heap}
theorem ok_next (T : TxtA K mg) (S : Stands K mg "_law_next" s_next P_next) : Ok P w K mg base 1 "_law_next" s_next P_next spNext := by
  obtain ⟨f, fd, F, m, b⟩ := S
  refine ⟨f, fd, F, m, b, F.ok sc_next (fun vs H Q E h => ?_) (fun cdv A outer s H vs Q E hr h => ?_)⟩
  · obtain ⟨p, m, rfl, _⟩ := h
    rfl
  · refine ⟨_, (pss_cons (ps_if (pt_cmpR op_gt (pe_ix ix_list (pv 0) pe_int (fun _ _ => rfl)) pe_int (nomark _)) (pss_cons (ps_set (i := 2) sc_next.nd rfl (Or.inl rfl) (pe_op op_modN (pe_callTy call_int1 (by rfl) T.int (by decide +kernel) (pa_cons (pe_ix ix_list (pv 0) pe_int (fun _ _ => rfl)) pa_nil)) (pv 1)))
(pss_cons (ps_asg (pe_op op_fdivN (pe_ix ix_list (pv 0) pe_int (fun _ _ => rfl)) (pv 1)) (pg_sub (pv 0) pe_int set_list))
(pss_one (ps_ret (pv 2))))) pss_nil)
(pss_cons (ps_asg (pe_op op_add (pe_ix ix_list (pv 0) pe_int (fun _ _ => rfl)) pe_int) (pg_sub (pv 0) pe_int set_list))
(pss_cons (ps_set (i := 3) sc_next.nd rfl (Or.inl rfl) (pe_op op_modN (pe_callTy call_int1 (by rfl) T.int (by decide +kernel) (pa_cons (pe_op op_add (pe_op op_add (pe_ix ix_list (pv 0) pe_int (fun _ _ => rfl)) (pe_op op_mul pe_int (pe_ix ix_list (pv 0) pe_int (fun _ _ => rfl)))) pe_int) pa_nil)) pe_int))
(pss_cons (ps_set (i := 3) sc_next.nd rfl (Or.inl rfl) (pe_op op_modN (pe_callTy call_int1 (by rfl) T.int (by decide +kernel) (pa_cons (pe_op op_mul (pv 3) (pe_op op_add (pv 3) pe_int)) pa_nil)) pe_int))
(pss_cons (ps_set (i := 3) sc_next.nd rfl (Or.inl rfl) (pe_op op_modN (pe_callTy call_int1 (by rfl) T.int (by decide +kernel) (pa_cons (pe_op op_add (pe_op op_mul (pv 3) (pe_op op_add (pv 3) pe_int)) (pe_op op_mul pe_int (pe_ix ix_list (pv 0) pe_int (fun _ _ => rfl)))) pa_nil)) pe_int))
(pss_one (ps_ret (pe_op op_modN (pe_callTy call_int1 (by rfl) T.int (by decide +kernel) (pa_cons (pe_op op_fdivN (pv 3) pe_int) pa_nil)) (pv 1))))))))), ?_⟩
    obtain ⟨p, m, rfl, ⟨a, b, c, hp⟩, m0, m1, k⟩ := h
    have hm : m ≠ 0 := by omega
    have hu : ∀ {H1 : Hp} {o : HO}, upd H1 p o p = some o := upd_same
    refine ⟨_, rfl, p, _, _, _, rfl, rfl, SqL.of hp, at0, _, _, rfl, rfl, _, rfl, ?_⟩
    refine ite2 (fun _ => ?_) (fun _ => ?_)
    · refine ⟨_, rfl, p, _, _, _, rfl, rfl, SqL.of hp, at0, .inl ⟨_, rfl, ⟨_, rfl, _, _, rfl, rfl, hm, ?_⟩⟩⟩
      refine ⟨_, rfl, p, _, _, _, rfl, rfl, SqL.of hp, at0, _, rfl, _, _, rfl, rfl, ⟨hm, by omega⟩, _, rfl, p, _, _, 0, rfl, rfl, hp, rfl, ?_⟩
      refine ⟨_, rfl, ?_⟩
      refine k _ _ ?_ ?_ (But.refl.mut) ⟨_, _, _, upd_same⟩
      · rw [Int.fmod_eq_emod_of_nonneg _ (by omega)]
        exact Int.emod_nonneg _ hm
      · rw [Int.fmod_eq_emod_of_nonneg _ (by omega)]
        exact Int.emod_lt_of_pos _ m0
    · refine ⟨_, rfl, p, _, _, _, rfl, rfl, SqL.of hp, at1, _, _, rfl, rfl, _, rfl, p, _, _, 1, rfl, rfl, hp, rfl, ?_⟩
      refine ⟨_, rfl, p, _, _, _, rfl, rfl, SqL.of hu, at2, _, rfl, p, _, _, _, rfl, rfl, SqL.of hu, at1, _, _, rfl, rfl, .inl ⟨by decide, by decide⟩, _, _, rfl, rfl, _, _, rfl, rfl, .inl ⟨_, rfl, _, _, rfl, rfl, (by show (2147483647 : Int) ≠ 0; decide), ?_⟩⟩
      obtain ⟨x1, e1, l1, u1⟩ := fmod_of (c + 7919 * (b + 1) + 13) (show (0 : Int) < 2147483647 by decide)
      simp only [e1]
      refine ⟨_, rfl, _, rfl, _, _, rfl, rfl, _, _, rfl, rfl, .inl ⟨by omega, by omega⟩, .inl ⟨_, rfl, _, _, rfl, rfl, (by show (2147483629 : Int) ≠ 0; decide), ?_⟩⟩
      obtain ⟨x2, e2, l2, u2⟩ := fmod_of (x1 * (x1 + 48271)) (show (0 : Int) < 2147483629 by decide)
      simp only [e2]
      refine ⟨_, rfl, _, rfl, _, _, rfl, rfl, _, _, rfl, rfl, .inl ⟨by omega, by omega⟩, _, rfl, p, _, _, _, rfl, rfl, SqL.of hu, at1, _, _, rfl, rfl, .inl ⟨by decide, by decide⟩, _, _, rfl, rfl, .inl ⟨_, rfl, _, _, rfl, rfl, (by show (2147483647 : Int) ≠ 0; decide), ?_⟩⟩
      refine ⟨_, rfl, _, _, rfl, rfl, ⟨by decide, by decide⟩, .inl ⟨_, rfl, _, rfl, _, _, rfl, rfl, hm, ?_⟩⟩
      obtain ⟨x4, e4, l4, u4⟩ := fmod_of (((x2 * (x2 + 69621) + 31 * (b + 1)).fmod 2147483647).fdiv 9) m0
      simp only [e4]
      exact k _ _ l4 u4 (But.refl.mut) ⟨_, _, _, upd_same⟩
theorem ok_cell (T : TxtA K mg) (S : Stands K mg "_law_cell" s_cell P_cell) : Ok P w K mg base 1 "_law_cell" s_cell P_cell (spCell K) := by
  obtain ⟨f, fd, F, m, b⟩ := S
  refine ⟨f, fd, F, m, b, F.ok sc_cell (fun vs H Q E h => ?_) (fun cdv A outer s H vs Q E hr h => ?_)⟩
  · obtain ⟨a, ns, rfl, _⟩ := h
    rfl
  · refine ⟨_, (pss_cons (ps_if (pt_cmpR op_lt (pv 1) (pe_callB call_len (by rfl) T.len (by decide +kernel) (pa_cons (pv 0) pa_nil)) (nomark _)) (pss_one (ps_ret (pe_callB call_abs (by rfl) T.abs (by decide +kernel) (pa_cons (pe_ix ix_list (pv 0) (pv 1) (fun _ _ => rfl)) pa_nil)))) pss_nil)
(pss_one (ps_ret pe_int))), ?_⟩
    obtain ⟨a, ns, rfl, hS, hl, k⟩ := h
    refine ⟨_, rfl, _, rfl, _, _, rfl, .inl ⟨_, hS, rfl⟩, _, _, rfl, rfl, _, rfl, ?_⟩
    refine ite2 (fun c => ?_) (fun _ => ?_)
    · have c' := of_decide_eq_true c
      have hp : 0 < ns.length := by simpa using c'
      have e : (ns.map V.int)[0]? = some (V.int (ns[0])) := by simp [hp]
      exact ⟨_, rfl, _, rfl, a, _, _, _, rfl, rfl, hS, atI_nat e, _, rfl, k _⟩
    · exact k _
theorem ok_pool (T : TxtA K mg) (S : Stands K mg "_law_pool" s_pool P_pool) (O_cell : Ok P w K mg base 1 "_law_cell" s_cell P_cell (spCell K)) : Ok P w K mg base 2 "_law_pool" s_pool P_pool (spPool K) := by
  obtain ⟨f, fd, F, m, b⟩ := S
  refine ⟨f, fd, F, m, b, F.ok sc_pool (fun vs H Q E h => ?_) (fun cdv A outer s H vs Q E hr h => ?_)⟩
  · obtain ⟨a, ns, rfl, _⟩ := h
    rfl
  · have hr_cell : Room 1 _ := hr
    refine ⟨_, (pss_cons (ps_set (i := 2) sc_pool.nd rfl (Or.inl rfl) (pe_own O_cell hr_cell (pa_cons (pv 0) (pa_cons (pv 1) pa_nil))))
(pss_cons (ps_if (pt_cmpR op_ge (pv 2) (pe_op op_pow pe_int pe_int) (nomark _)) (pss_one (ps_ret (pe_lst (pa_cons (pv 2) (pa_cons pe_int (pa_cons (pe_op op_modN (pe_callTy call_int1 (by rfl) T.int (by decide +kernel) (pa_cons (pv 2) pa_nil)) pe_int) pa_nil)))))) pss_nil)
(pss_one (ps_ret (pe_lst (pa_cons pe_int (pa_cons pe_int (pa_cons (pv 2) pa_nil)))))))), ?_⟩
    obtain ⟨a, ns, rfl, hS, hl, k⟩ := h
    refine ⟨_, rfl, _, rfl, a, ns, rfl, hS, hl, fun n => ?_⟩
    refine ⟨_, rfl, _, _, rfl, rfl, ⟨by decide, by decide, by decide⟩, _, _, rfl, rfl, _, rfl, ?_⟩
    refine ite2 (fun c => ?_) (fun _ => ?_)
    · exact ⟨_, rfl, _, rfl, .inl ⟨_, rfl, _, _, rfl, rfl, (by show (1000003 : Int) ≠ 0; decide), (by show 3 ≤ sizeLine; decide), fun p hp => k p _ (same_new hp) ⟨_, _, _, upd_same⟩⟩⟩
    · exact ⟨_, rfl, (by show 3 ≤ sizeLine; decide), fun p hp => k p _ (same_new hp) ⟨_, _, _, upd_same⟩⟩
theorem ok_text (T : TxtA K mg) (S : Stands K mg "_law_text" s_text P_text) (O_next : Ok P w K mg base 1 "_law_next" s_next P_next spNext) : Ok P w K mg base 2 "_law_text" s_text P_text spText := by
  obtain ⟨f, fd, F, m, b⟩ := S
  refine ⟨f, fd, F, m, b, F.ok sc_text (fun vs H Q E h => ?_) (fun cdv A outer s H vs Q E hr h => ?_)⟩
  · obtain ⟨p, rfl, _⟩ := h
    rfl
  · have hr_next : Room 1 _ := hr
    refine ⟨_, (pss_cons (ps_set (i := 1) sc_text.nd rfl (Or.inl rfl) pe_str)
(pss_cons (ps_set (i := 2) sc_text.nd rfl (Or.inl rfl) pe_str)
(pss_cons (ps_for PassesOwn.never rfl (pi_range1 (by rfl) T.range (pa_cons (pe_ix ix_list (pe_lst (pa_cons pe_int (pa_cons pe_int (pa_cons pe_int (pa_cons pe_int (pa_cons pe_int pa_nil)))))) (pe_own O_next hr_next (pa_cons (pv 0) (pa_cons pe_int pa_nil))) (fun _ _ => rfl)) pa_nil)) (pg_name (i := 3) sc_text.nd rfl (Or.inl rfl)) (pss_one (ps_set (i := 2) sc_text.nd rfl (Or.inl rfl) (pe_op op_add_str (pv 2) (pe_ix ix_str (pv 1) (pe_own O_next hr_next (pa_cons (pv 0) (pa_cons pe_int pa_nil))) (fun _ _ => rfl))))))
(pss_one (ps_ret (pv 2)))))), ?_⟩
    obtain ⟨p, rfl, hp, k⟩ := h
    refine ⟨(by show 5 ≤ sizeLine; decide), fun L hL => ?_⟩
    refine ⟨_, rfl, p, 5, rfl, hp.new hL, by decide, by decide, fun d H1 d0 d1 b1 p1 => ?_⟩
    have nLp : L ≠ p := hp.ne hL
    have hL1 : H1 L = _ := b1 L _ nLp upd_same
    have bH : But p H H1 := (But.refl.new hL).trans b1
    obtain ⟨n, hn, e⟩ : ∃ n : Nat, n ≤ 12 ∧ atI [V.int 0, V.int 1, V.int 2, V.int 5, V.int 12] d = some (.int n) := by
      have : d = 0 ∨ d = 1 ∨ d = 2 ∨ d = 3 ∨ d = 4 := by omega
      rcases this with rfl | rfl | rfl | rfl | rfl
      · exact ⟨0, by decide, rfl⟩
      · exact ⟨1, by decide, rfl⟩
      · exact ⟨2, by decide, rfl⟩
      · exact ⟨5, by decide, rfl⟩
      · exact ⟨12, by decide, rfl⟩
    refine ⟨L, _, _, _, rfl, rfl, SqL.of hL1, e, n, rfl, by omega, by omega, ?_⟩
    refine for_range (lo := 0) (n := (n : Int).toNat) (fun i σ H' => ∃ (z : Str) (v : Option V), σ = [some (.ref p), some (.str "abcdefghijklmnopqrstuvwxyz0123456789 AZ_"), some (.str z), v] ∧ z.length = i ∧ (∀ c ∈ z.cps.toList, c < 128) ∧ But p H H' ∧ Pool H' p) ⟨_, none, rfl, rfl, (fun c hc => by cases hc), bH, p1⟩ ?_ ?_
    · rintro i σ H2 hi ⟨z, v, rfl, hz, hc, b2, p2⟩
      refine ⟨_, rfl, _, rfl, _, rfl, p, 40, rfl, p2, by decide, by decide, fun d2 H3 e0 e1 b3 p3 => ?_⟩
      have hlen : (Str.ofString "abcdefghijklmnopqrstuvwxyz0123456789 AZ_").cps.toList.length = 40 := by decide +kernel
      obtain ⟨j, rfl⟩ := Int.eq_ofNat_of_zero_le e0
      have hj : j < (Str.ofString "abcdefghijklmnopqrstuvwxyz0123456789 AZ_").cps.toList.length := by rw [hlen]; omega
      refine ⟨_, _, _, rfl, rfl, (by decide +kernel), atI_nat (List.getElem?_eq_getElem hj), _, _, rfl, rfl, ?_, ?_⟩
      · have : sizeLine = 16777216 := sizeLine_eq
        show z.length + 1 ≤ sizeLine
        omega
      · refine ⟨_, _, rfl, ?_, ?_, b2.trans b3, p3⟩
        · rw [Str.length_append, hz]
          rfl
        · intro c hm
          have al : ∀ c ∈ (Str.ofString "abcdefghijklmnopqrstuvwxyz0123456789 AZ_").cps.toList, c < 128 := by decide +kernel
          have hm' : c ∈ z.cps.toList ++ [(Str.ofString "abcdefghijklmnopqrstuvwxyz0123456789 AZ_").cps.toList[j]] := by
            have e : (z ++ (⟨#[(Str.ofString "abcdefghijklmnopqrstuvwxyz0123456789 AZ_").cps.toList[j]]⟩ : Str)).cps.toList = z.cps.toList ++ [(Str.ofString "abcdefghijklmnopqrstuvwxyz0123456789 AZ_").cps.toList[j]] := by
              show (z.cps ++ #[(Str.ofString "abcdefghijklmnopqrstuvwxyz0123456789 AZ_").cps.toList[j]]).toList = _
              rw [Array.toList_append]
            rw [← e]
            exact hm
          rcases List.mem_append.mp hm' with y | y
          · exact hc c y
          · rw [List.mem_singleton.mp y]
            exact al _ (List.getElem_mem hj)
    · rintro σ H2 ⟨z, v, rfl, hz, hc, b2, p2⟩
      exact ⟨_, rfl, k _ _ ⟨by omega, hc⟩ b2 p2⟩
theorem ok_number (S : Stands K mg "_law_number" s_number P_number) (O_next : Ok P w K mg base 1 "_law_next" s_next P_next spNext) : Ok P w K mg base 2 "_law_number" s_number P_number spNumber := by
  obtain ⟨f, fd, F, m, b⟩ := S
  refine ⟨f, fd, F, m, b, F.ok sc_number (fun vs H Q E h => ?_) (fun cdv A outer s H vs Q E hr h => ?_)⟩
  · obtain ⟨p, rfl, _⟩ := h
    rfl
  · have hr_next : Room 1 _ := hr
    refine ⟨_, (pss_cons (ps_if (pt_cmpR op_eq (pe_own O_next hr_next (pa_cons (pv 0) (pa_cons pe_int pa_nil))) pe_int (nomark _)) (pss_one (ps_ret (pe_own O_next hr_next (pa_cons (pv 0) (pa_cons pe_int pa_nil))))) pss_nil)
(pss_one (ps_ret (pe_own O_next hr_next (pa_cons (pv 0) (pa_cons pe_int pa_nil)))))), ?_⟩
    obtain ⟨p, rfl, hp, k⟩ := h
    refine ⟨_, rfl, p, 2, rfl, hp, by decide, by decide, fun d H1 d0 d1 b1 p1 => ⟨rfl, _, rfl, ?_⟩⟩
    refine ite2 (fun c => ?_) (fun _ => ?_)
    · exact ⟨_, rfl, p, 10, rfl, p1, by decide, by decide, fun d2 H2 e0 e1 b2 p2 => k _ _ ⟨e0, by omega⟩ (b1.trans b2) p2⟩
    · exact ⟨_, rfl, p, 1000000000, rfl, p1, by decide, by decide, fun d2 H2 e0 e1 b2 p2 => k _ _ ⟨e0, by omega⟩ (b1.trans b2) p2⟩
theorem ok_path (T : TxtA K mg) (S : Stands K mg "_law_path" s_path P_path) (O_next : Ok P w K mg base 1 "_law_next" s_next P_next spNext) : Ok P w K mg base 2 "_law_path" s_path P_path spGood := by
  obtain ⟨f, fd, F, m, b⟩ := S
  refine ⟨f, fd, F, m, b, F.ok sc_path (fun vs H Q E h => ?_) (fun cdv A outer s H vs Q E hr h => ?_)⟩
  · obtain ⟨p, rfl, _⟩ := h
    rfl
  · have hr_next : Room 1 _ := hr
    refine ⟨_, (pss_one (ps_ret (pe_callTy call_tuple_of (by rfl) T.tuple (by decide +kernel) (pa_cons (pe_lc (own := [("_law_k", 1)]) (g := (gName 1)) (tt := tYes) (by rfl) sc_path.nd (pi_range1 (by rfl) T.range (pa_cons (pe_own O_next hr_next (pa_cons (pv 0) (pa_cons pe_int pa_nil))) pa_nil)) (blkOk_by (own := [("_law_k", 1)]) (N := N_path) (sc := defScope s_path) (by decide +kernel)) (fun _ _ _ _ _ => pg_name (i := 1) sc_path.nd rfl (Or.inl rfl)) (fun _ _ _ _ _ => pts_nil) (fun _ _ _ _ _ => (pe_own O_next hr_next (pa_cons (pv 0) (pa_cons pe_int pa_nil))))) pa_nil)))), ?_⟩
    obtain ⟨p, rfl, hp, k⟩ := h
    refine ⟨_, rfl, p, 5, rfl, hp, by decide, by decide, fun d H1 d0 d1 b1 p1 => ?_⟩
    refine ⟨d, rfl, by omega, by omega, fun D hD => ?_⟩
    have nD : D ≠ p := p1.ne hD
    refine lc_range (lo := 0) (n := d.toNat) (fun i H' => ∃ ns : List Int, ns.length = i ∧ (∀ n ∈ ns, Small n) ∧ H' D = some (.lst (ns.map V.int)) ∧ But p H H' ∧ Pool H' p) ⟨[], rfl, (fun _ z => by cases z), upd_same, b1.new hD, p1.new hD⟩ ?_ ?_
    · rintro i H2 hi ⟨ns, h1, h2, h3, b2, p2⟩
      refine ⟨rfl, ?_⟩
      refine ⟨_, rfl, p, 3, rfl, p2, by decide, by decide, fun d2 H3 e0 e1 b3 p3 => ?_⟩
      have h4 := b3 D _ nD h3
      refine ⟨_, h4, ?_, ns ++ [d2], ?_, ?_, ?_, ?_, ?_⟩
      · rw [List.length_map, sizeLine_eq]
        omega
      · rw [List.length_append, h1]
        rfl
      · intro n hn
        rcases List.mem_append.mp hn with z | z
        · exact h2 n z
        · rw [List.mem_singleton.mp z]
          exact ⟨e0, by omega⟩
      · rw [upd_same, List.map_append]
        rfl
      · have z := b2.trans b3
        exact fun c u n hc => by
          by_cases hcD : c = D
          · subst hcD
            have := But.free b1 hD n
            rw [this] at hc
            cases hc
          · rw [upd_ne hcD]
            exact z c u n hc
      · obtain ⟨x, y, u, e⟩ := p3
        exact ⟨x, y, u, by rw [upd_ne nD.symm]; exact e⟩
    · rintro H2 ⟨ns, h1, h2, h3, b2, p2⟩
      refine ⟨D, _, rfl, .inl ⟨SqL.of h3, fun t ht => ?_⟩⟩
      exact k _ _ (.inr (.inr ⟨t, ns, rfl, upd_same, by omega, h2⟩)) (b2.new ht) (p2.new ht)
theorem ok_kind (S : Stands K mg "_law_kind" s_kind P_kind) (O_next : Ok P w K mg base 1 "_law_next" s_next P_next spNext) (O_text : Ok P w K mg base 2 "_law_text" s_text P_text spText)
    (O_number : Ok P w K mg base 2 "_law_number" s_number P_number spNumber) : Ok P w K mg base 3 "_law_kind" s_kind P_kind spGood := by
  obtain ⟨f, fd, F, m, b⟩ := S
  refine ⟨f, fd, F, m, b, F.ok sc_kind (fun vs H Q E h => ?_) (fun cdv A outer s H vs Q E hr h => ?_)⟩
  · obtain ⟨p, rfl, _⟩ := h
    rfl
  · have hr_next : Room 1 _ := hr.mono (by decide)
    have hr_text : Room 2 _ := hr
    have hr_number : Room 2 _ := hr
    refine ⟨_, (pss_cons (ps_if (pt_cmpR op_eq (pe_own O_next hr_next (pa_cons (pv 0) (pa_cons pe_int pa_nil))) pe_int (nomark _)) (pss_one (ps_ret (pe_own O_text hr_text (pa_cons (pv 0) pa_nil)))) pss_nil)
(pss_one (ps_ret (pe_tup (pa_cons (pe_own O_number hr_number (pa_cons (pv 0) pa_nil)) (pa_cons (pe_own O_number hr_number (pa_cons (pv 0) pa_nil)) pa_nil)))))), ?_⟩
    obtain ⟨p, rfl, hp, k⟩ := h
    refine ⟨_, rfl, p, 3, rfl, hp, by decide, by decide, fun d H1 d0 d1 b1 p1 => ⟨rfl, _, rfl, ?_⟩⟩
    refine ite2 (fun c => ?_) (fun _ => ?_)
    · exact ⟨_, rfl, p, rfl, p1, fun z H2 hz b2 p2 => k _ _ (.inl ⟨z, rfl, hz⟩) (b1.trans b2) p2⟩
    · refine ⟨_, rfl, p, rfl, p1, fun n H2 hn b2 p2 => ⟨_, rfl, p, rfl, p2, fun n2 H3 hn2 b3 p3 => ⟨(by show 2 ≤ sizeLine; decide), fun t ht => ?_⟩⟩⟩
      refine k _ _ (.inr (.inr ⟨t, [n, n2], rfl, upd_same, (by show 2 ≤ 4; decide), ?_⟩)) (((b1.trans b2).trans b3).new ht) (p3.new ht)
      intro q hq
      rcases List.mem_cons.mp hq with rfl | hq
      · exact hn
      · rw [List.mem_singleton.mp hq]
        exact hn2
theorem orF {a b : Bool} (h : ¬ a = true) (h2 : b = false) : (a || b) = false := by
  rw [Bool.eq_false_iff.mpr h, h2]; rfl
theorem good1 {H H1 : Hp} {p L : Addr} {vs : List V} {o : HO} (p1 : Pool H1 p) (hL : H1 L = none) (g : ∀ v ∈ vs, GoodV H1 v) : ∀ v ∈ vs, GoodV (upd H1 L o) v := fun v hv => (g v hv).keep p1 (But.refl.new hL)
theorem all1 {H : Hp} {v : V} (h : GoodV H v) : ∀ x ∈ [v], GoodV H x := fun x hx => by
  rw [List.mem_singleton.mp hx]
  exact h
theorem all2 {H : Hp} {v w : V} (h : GoodV H v) (h' : GoodV H w) : ∀ x ∈ [v, w], GoodV H x := fun x hx => by
  rcases List.mem_cons.mp hx with rfl | hx
  · exact h
  · exact all1 h' x hx
theorem all3 {H : Hp} {v w u : V} (h : GoodV H v) (h' : GoodV H w) (h2 : GoodV H u) : ∀ x ∈ [v, w, u], GoodV H x := fun x hx => by
  rcases List.mem_cons.mp hx with rfl | hx
  · exact h
  · exact all2 h' h2 x hx
theorem ok_values (T : TxtA K mg) (S : Stands K mg "_law_values" s_values P_values) (O_text : Ok P w K mg base 2 "_law_text" s_text P_text spText) (O_number : Ok P w K mg base 2 "_law_number" s_number P_number spNumber)
    (O_path : Ok P w K mg base 2 "_law_path" s_path P_path spGood) (O_kind : Ok P w K mg base 3 "_law_kind" s_kind P_kind spGood) : Ok P w K mg base 4 "_law_values" s_values P_values spValues := by
  obtain ⟨f, fd, F, m, b⟩ := S
  refine ⟨f, fd, F, m, b, F.ok sc_values (fun vs H Q E h => ?_) (fun cdv A outer s H vs Q E hr h => ?_)⟩
  · obtain ⟨p, w, rfl, _⟩ := h
    rfl
  · have hr_text : Room 2 _ := hr.mono (by decide)
    have hr_number : Room 2 _ := hr.mono (by decide)
    have hr_path : Room 2 _ := hr.mono (by decide)
    have hr_kind : Room 3 _ := hr
    refine ⟨_, (pss_cons (ps_if (pt_cmpR op_lt (pv 1) pe_int (nomark _)) (pss_one (ps_ret (pe_lst (pa_cons (pe_own O_text hr_text (pa_cons (pv 0) pa_nil)) pa_nil)))) pss_nil)
(pss_cons (ps_if (pt_cmpR op_eq (pv 1) pe_int (nomark _)) (pss_one (ps_ret (pe_lst (pa_cons (pe_own O_kind hr_kind (pa_cons (pv 0) pa_nil)) pa_nil)))) pss_nil)
(pss_cons (ps_if (pt_cmpR op_in_seq (pv 1) (pe_tup (pa_cons pe_int (pa_cons pe_int (pa_cons pe_int (pa_cons pe_int pa_nil))))) (by rfl)) (pss_one (ps_ret (pe_lst (pa_cons (pe_own O_number hr_number (pa_cons (pv 0) pa_nil)) pa_nil)))) pss_nil)
(pss_cons (ps_if (pt_cmpR op_in_seq (pv 1) (pe_tup (pa_cons pe_int (pa_cons pe_int pa_nil))) (by rfl)) (pss_one (ps_ret (pe_lst (pa_cons (pe_own O_path hr_path (pa_cons (pv 0) pa_nil)) pa_nil)))) pss_nil)
(pss_cons (ps_if (pt_cmpR op_in_seq (pv 1) (pe_tup (pa_cons pe_int (pa_cons pe_int pa_nil))) (by rfl)) (pss_one (ps_ret (pe_lst (pa_cons (pe_own O_path hr_path (pa_cons (pv 0) pa_nil)) (pa_cons (pe_own O_text hr_text (pa_cons (pv 0) pa_nil)) pa_nil))))) pss_nil)
(pss_cons (ps_if (pt_cmpR op_eq (pv 1) pe_int (nomark _)) (pss_one (ps_ret (pe_lst (pa_cons (pe_own O_text hr_text (pa_cons (pv 0) pa_nil)) (pa_cons (pe_own O_number hr_number (pa_cons (pv 0) pa_nil)) (pa_cons (pe_own O_number hr_number (pa_cons (pv 0) pa_nil)) pa_nil)))))) pss_nil)
(pss_cons (ps_if (pt_cmpR op_eq (pv 1) pe_int (nomark _)) (pss_one (ps_ret (pe_lst (pa_cons (pe_own O_text hr_text (pa_cons (pv 0) pa_nil)) pa_nil)))) pss_nil)
(pss_one (ps_ret (pe_lst pa_nil)))))))))), ?_⟩
    obtain ⟨p, u, rfl, hu, hp, k⟩ := h
    -- one value, two, three, none: what follows
    have one : ∀ v H1, GoodV H1 v → But p H H1 → Pool H1 p → counts u = 1 → [v].length ≤ sizeLine ∧ ∀ L, H1 L = none → Q (.ref L) (upd H1 L (.lst [v])) := fun v H1 g b1 p1 hc =>
      ⟨(by show 1 ≤ sizeLine; decide), fun L hL => k L [v] _ (p1.ne hL) upd_same hc.symm (good1 (H := H) p1 hL (all1 g)) (b1.new hL) (p1.new hL)⟩
    refine ⟨_, rfl, _, _, rfl, rfl, _, rfl, ?_⟩
    refine ite2 (fun c => ?_) (fun c1 => ?_)
    · have hc : counts u = 1 := (by decide : ∀ u : Nat, u < 26 → decide ((u : Int) < 8) = true → counts u = 1) u hu c
      exact ⟨_, rfl, p, rfl, hp, fun z H1 hz b1 p1 => one _ _ (.inl ⟨z, rfl, hz⟩) b1 p1 hc⟩
    refine ⟨_, rfl, rfl, _, rfl, ?_⟩
    refine ite2 (fun c => ?_) (fun c2 => ?_)
    · have hc : counts u = 1 := (by decide : ∀ u : Nat, u < 26 → decide (V.int (u : Int) = V.int 8) = true → counts u = 1) u hu c
      exact ⟨_, rfl, p, rfl, hp, fun v H1 g b1 p1 => one _ _ g b1 p1 hc⟩
    refine ⟨_, rfl, (by show 4 ≤ sizeLine; decide), fun t1 ht1 => ⟨t1, _, rfl, .inr (SqT.of upd_same), rfl, rfl, _, rfl, ?_⟩⟩
    refine ite2 (fun c => ?_) (fun c3 => ?_)
    · have hc : counts u = 1 := (by decide : ∀ u : Nat, u < 26 → inV (V.int (u : Int)) [V.int 9, V.int 16, V.int 17, V.int 18] = true → counts u = 1) u hu c
      exact ⟨_, rfl, p, rfl, hp.new ht1, fun n H1 hn b1 p1 => one _ _ (.inr (.inl ⟨n, rfl, hn⟩)) ((But.refl.new ht1).trans b1) p1 hc⟩
    have hpA := hp.new (o := .tup [V.int 9, V.int 16, V.int 17, V.int 18]) ht1
    have hbA : But p H _ := (But.refl.new (o := .tup [V.int 9, V.int 16, V.int 17, V.int 18]) ht1)
    refine ⟨_, rfl, (by show 2 ≤ sizeLine; decide), fun t2 ht2 => ⟨t2, _, rfl, .inr (SqT.of upd_same), rfl, rfl, _, rfl, ?_⟩⟩
    refine ite2 (fun c => ?_) (fun c4 => ?_)
    · have hc : counts u = 1 := (by decide : ∀ u : Nat, u < 26 → inV (V.int (u : Int)) [V.int 10, V.int 11] = true → counts u = 1) u hu c
      exact ⟨_, rfl, p, rfl, hpA.new ht2, fun v H1 g b1 p1 => one _ _ g ((hbA.new ht2).trans b1) p1 hc⟩
    have hpB := hpA.new (o := .tup [V.int 10, V.int 11]) ht2
    have hbB : But p H _ := hbA.new (o := .tup [V.int 10, V.int 11]) ht2
    refine ⟨_, rfl, (by show 2 ≤ sizeLine; decide), fun t3 ht3 => ⟨t3, _, rfl, .inr (SqT.of upd_same), rfl, rfl, _, rfl, ?_⟩⟩
    refine ite2 (fun c => ?_) (fun c5 => ?_)
    · have hc : counts u = 2 := (by decide : ∀ u : Nat, u < 26 → inV (V.int (u : Int)) [V.int 12, V.int 13] = true → counts u = 2) u hu c
      exact ⟨_, rfl, p, rfl, hpB.new ht3, fun v H1 g b1 p1 => ⟨_, rfl, p, rfl, p1, fun z H2 hz b2 p2 =>
        ⟨(by show 2 ≤ sizeLine; decide), fun L hL => k L _ _ (p2.ne hL) upd_same hc.symm (good1 (H := H) p2 hL (all2 (g.keep p1 b2) (.inl ⟨z, rfl, hz⟩))) ((((hbB.new ht3).trans b1).trans b2).new hL) (p2.new hL)⟩⟩⟩
    have hpC := hpB.new (o := .tup [V.int 12, V.int 13]) ht3
    have hbC : But p H _ := hbB.new (o := .tup [V.int 12, V.int 13]) ht3
    refine ⟨_, rfl, rfl, _, rfl, ?_⟩
    refine ite2 (fun c => ?_) (fun c6 => ?_)
    · have hc : counts u = 3 := (by decide : ∀ u : Nat, u < 26 → decide (V.int (u : Int) = V.int 14) = true → counts u = 3) u hu c
      exact ⟨_, rfl, p, rfl, hpC, fun z H1 hz b1 p1 => ⟨_, rfl, p, rfl, p1, fun n H2 hn b2 p2 => ⟨_, rfl, p, rfl, p2, fun n2 H3 hn2 b3 p3 =>
        ⟨(by show 3 ≤ sizeLine; decide), fun L hL => k L _ _ (p3.ne hL) upd_same hc.symm (good1 (H := H) p3 hL (all3 (.inl ⟨z, rfl, hz⟩) (.inr (.inl ⟨n, rfl, hn⟩)) (.inr (.inl ⟨n2, rfl, hn2⟩)))) ((((hbC.trans b1).trans b2).trans b3).new hL) (p3.new hL)⟩⟩⟩⟩
    refine ⟨_, rfl, rfl, _, rfl, ?_⟩
    refine ite2 (fun c => ?_) (fun c7 => ?_)
    · have hc : counts u = 1 := (by decide : ∀ u : Nat, u < 26 → decide (V.int (u : Int) = V.int 15) = true → counts u = 1) u hu c
      exact ⟨_, rfl, p, rfl, hpC, fun z H1 hz b1 p1 => one _ _ (.inl ⟨z, rfl, hz⟩) (hbC.trans b1) p1 hc⟩
    · have hc : counts u = 0 := (by decide : ∀ u : Nat, u < 26 → (decide ((u : Int) < 8) || (decide (V.int (u : Int) = V.int 8) || (inV (V.int (u : Int)) [V.int 9, V.int 16, V.int 17, V.int 18] ||
        (inV (V.int (u : Int)) [V.int 10, V.int 11] || (inV (V.int (u : Int)) [V.int 12, V.int 13] || (decide (V.int (u : Int) = V.int 14) || decide (V.int (u : Int) = V.int 15))))))) = false → counts u = 0) u hu
        (orF c1 (orF c2 (orF c3 (orF c4 (orF c5 (orF c6 (Bool.eq_false_iff.mpr c7)))))))
      exact ⟨Nat.zero_le _, fun L hL => k L [] _ (hpC.ne hL) upd_same hc.symm (fun _ z => by cases z) (hbC.new hL) (hpC.new hL)⟩
end
end K65
set_option Elab.async false
set_option linter.all false
set_option maxRecDepth 100000
set_option maxHeartbeats 4000000
namespace K65
open PySem PySem.Spec PyProof.Rows L2 ExObj
/-! ### values as data -/
/-- data that repr and == take -/
structure Plain (d : PyData) : Prop where
  lay : d.canLay0 = true
  dep : d.depth ≤ 1
  wt : d.weight ≤ 1000
  sh : d.intsShort 13 = true
  sw : d.showable = true
theorem log_small {n : Int} (h : Small n) : n.natAbs.log2 < 40 := by
  obtain ⟨h1, h2⟩ := h
  by_cases z : n.natAbs = 0
  · rw [z]; decide
  · exact (Nat.log2_lt z).mpr (by omega)
theorem plain_int {n : Int} (h : Small n) : Plain (.int n) := by
  have hl := log_small h
  refine ⟨by simp [PyData.canLay0], by simp [PyData.depth], ?_, ?_, ?_⟩
  · unfold PyData.weight
    split <;> omega
  · obtain ⟨h1, h2⟩ := h
    simp only [PyData.intsShort]
    exact decide_eq_true (PyData.shown_int_le (by omega))
  · simp only [PyData.showable]
    exact decide_eq_true (by omega)
theorem plain_str {z : Str} (h : GoodS z) : Plain (.str z) := by
  refine ⟨?_, by simp [PyData.depth], ?_, by simp [PyData.intsShort], by simp [PyData.showable]⟩
  · simp only [PyData.canLay0, PyData.strOk]
    refine Array.all_eq_true_iff_forall_mem.mpr fun c hc => ?_
    have := h.2 c (Array.mem_toList_iff.mpr hc)
    exact decide_eq_true (by omega)
  · have := h.1
    unfold PyData.weight
    have e : z.cps.size = z.length := rfl
    omega
theorem ints_all {ns : List Int} (h : ∀ n ∈ ns, Small n) : PyData.canLayAll0 (ns.map .int) = true ∧ PyData.depthAll (ns.map .int) = 0 ∧ PyData.weightAll (ns.map .int) ≤ 41 * ns.length ∧ PyData.intsShortAll 13 (ns.map .int) = true ∧ PyData.showableAll (ns.map .int) = true := by
  induction ns with
  | nil => exact ⟨by simp [PyData.canLayAll0], by simp [PyData.depthAll], by simp [PyData.weightAll], by simp [PyData.intsShortAll], by simp [PyData.showableAll]⟩
  | cons n ns ih =>
    obtain ⟨h1, h2, h3, h4, h5⟩ := ih fun m hm => h m (List.mem_cons_of_mem _ hm)
    have hn := h n List.mem_cons_self
    have p := plain_int hn
    have hl := log_small hn
    refine ⟨?_, ?_, ?_, ?_, ?_⟩
    · simp only [List.map_cons, PyData.canLayAll0, p.lay, h1, Bool.and_self]
    · simp only [List.map_cons, PyData.depthAll, h2, PyData.depth, Nat.max_self]
    · simp only [List.map_cons, PyData.weightAll, List.length_cons]
      have : PyData.weight (.int n) ≤ 40 := by
        unfold PyData.weight
        split <;> omega
      omega
    · simp only [List.map_cons, PyData.intsShortAll, p.sh, h4, Bool.and_self]
    · simp only [List.map_cons, PyData.showableAll, p.sw, h5, Bool.and_self]
theorem plain_tup {ns : List Int} (h : ∀ n ∈ ns, Small n) (hl : ns.length ≤ 4) : Plain (.tuple (ns.map .int)) := by
  obtain ⟨h1, h2, h3, h4, h5⟩ := ints_all h
  refine ⟨?_, ?_, ?_, ?_, ?_⟩
  · simp only [PyData.canLay0, h1]
  · simp only [PyData.depth, h2]; omega
  · simp only [PyData.weight]; omega
  · simp only [PyData.intsShort, h4]
  · simp only [PyData.showable, h5]
theorem dp_ints {K : PySem.W.Frag} {H : Hp} : ∀ ns : List Int, DpAll K H (ns.map V.int) (ns.map PyData.int)
  | [] => .nil
  | n :: ns => .cons (.int n) (dp_ints ns)
theorem good_dp {K : PySem.W.Frag} {H : Hp} {v : V} (h : GoodV H v) : ∃ d, Dp K H v d ∧ Plain d := by
  rcases h with ⟨z, rfl, hz⟩ | ⟨n, rfl, hn⟩ | ⟨t, ns, rfl, ht, hl, hs⟩
  · exact ⟨_, .str z, plain_str hz⟩
  · exact ⟨_, .int n, plain_int hn⟩
  · exact ⟨_, .tup (SqT.of ht) (dp_ints ns), plain_tup hs hl⟩
theorem goods_dp {K : PySem.W.Frag} {H : Hp} : ∀ {vs : List V}, (∀ v ∈ vs, GoodV H v) → ∃ ds, DpAll K H vs ds ∧ (∀ d ∈ ds, Plain d) ∧ ds.length = vs.length
  | [], _ => ⟨[], .nil, (fun _ z => by cases z), rfl⟩
  | v :: vs, h => by
    obtain ⟨d, h1, h2⟩ := good_dp (K := K) (h v List.mem_cons_self)
    obtain ⟨ds, h3, h4, h5⟩ := goods_dp (K := K) fun u hu => h u (List.mem_cons_of_mem _ hu)
    refine ⟨d :: ds, .cons h1 h3, fun x hx => ?_, by simp [h5]⟩
    rcases List.mem_cons.mp hx with rfl | hx
    · exact h2
    · exact h4 x hx
theorem plain_all : ∀ {ds : List PyData}, (∀ d ∈ ds, Plain d) → PyData.canLayAll0 ds = true ∧ PyData.depthAll ds ≤ 1 ∧ PyData.weightAll ds ≤ 1001 * ds.length ∧ PyData.intsShortAll 13 ds = true ∧ PyData.showableAll ds = true
  | [], _ => ⟨by simp [PyData.canLayAll0], by simp [PyData.depthAll], by simp [PyData.weightAll], by simp [PyData.intsShortAll], by simp [PyData.showableAll]⟩
  | d :: ds, h => by
    obtain ⟨h1, h2, h3, h4, h5⟩ := plain_all fun m hm => h m (List.mem_cons_of_mem _ hm)
    have p := h d List.mem_cons_self
    refine ⟨?_, ?_, ?_, ?_, ?_⟩
    · simp only [PyData.canLayAll0, p.lay, h1, Bool.and_self]
    · simp only [PyData.depthAll]
      have := p.dep
      omega
    · simp only [PyData.weightAll, List.length_cons]
      have := p.wt
      omega
    · simp only [PyData.intsShortAll, p.sh, h4, Bool.and_self]
    · simp only [PyData.showableAll, p.sw, h5, Bool.and_self]
/-- what a list of such values is worth -/
structure PlainL (d : PyData) : Prop where
  shp : SeqAt.shaped d = true
  sw : d.showable = true
  nd : d.hasDict = false
  dep : d.depth ≤ 60
  len : d.shown.length ≤ sizeLine
  self : PyData.eqv d d = true
theorem plainL {ds : List PyData} (h : ∀ d ∈ ds, Plain d) (hl : ds.length ≤ 3) : PlainL (.list ds) := by
  obtain ⟨h1, h2, h3, h4, h5⟩ := plain_all h
  have c : PyData.canLay0 (.list ds) = true := by simp only [PyData.canLay0, h1]
  have dp : PyData.depth (.list ds) ≤ 2 := by simp only [PyData.depth]; omega
  have wt : PyData.weight (.list ds) ≤ 2 ^ 20 := by simp only [PyData.weight]; omega
  refine ⟨?_, by simp only [PyData.showable, h5], PyData.hasDict_of_canLay _ c, by omega, ?_, SeqAt.eqv_refl _ c⟩
  · unfold SeqAt.shaped
    rw [c, decide_eq_true (show PyData.depth (.list ds) ≤ 64 by omega)]; rfl
  · refine PyData.shown_fits_of_layable0 (B := 13) (by decide) (by decide) ?_ (by simp only [PyData.intsShort, h4])
    unfold PyData.layable0
    rw [c, decide_eq_true (show PyData.depth (.list ds) ≤ 64 by omega), decide_eq_true wt]; rfl
end K65
set_option Elab.async false
set_option linter.all false
set_option maxRecDepth 100000
set_option maxHeartbeats 4000000
namespace K65
open PySem PySem.Spec PyProof.Rows L2 ExObj
/-! ### the classes of errors and their making -/
def Names : List Str := ["BadName", "NameTaken", "UnknownName", "InUse", "Circular", "NoRoom", "LeftOver", "WrongHold", "BadKind", "TextError", "NoPart", "NotBare", "DerivationError", "NoStep", "NoMeeting", "BadWorld", "WorldTooLarge", "NoGoal", "GoalsLeft", "WrongGoal", "NotSimple", "NotAlike", "NotOnce", "NotPlain", "NothingToUndo", "NothingToRedo"]
/-- the fields of the class with this number, in the order of __init__ -/
def flds : Nat → List Str
  | 0 => ["name"]
  | 1 => ["name"]
  | 2 => ["name"]
  | 3 => ["name"]
  | 4 => ["name"]
  | 5 => ["name"]
  | 6 => ["name"]
  | 7 => ["name"]
  | 8 => ["kind"]
  | 9 => ["index"]
  | 10 => ["path"]
  | 11 => ["path"]
  | 12 => ["path", "reason"]
  | 13 => ["path", "way"]
  | 14 => ["name", "make_index", "open_index"]
  | 15 => ["reason"]
  | 16 => ["limit"]
  | 17 => ["number"]
  | 18 => ["count"]
  | _ => []
/-- __init__ of a class with the fields fl -/
def spInit (K : PySem.W.Frag) (fl : List Str) : Sp := fun vs H Q _ => ∃ (a C : Addr) (ws : List V), vs = .ref a :: ws ∧ ws.length = fl.length ∧ OexC K C ∧ (∀ f ∈ fl, PySem.W.findIn K (.ref C) f = some none) ∧ H a = some (exo a C none) ∧
  ∀ H', (∀ b o, b ≠ a → H b = some o → H' b = some o) → ExcAt H' a C (fl.zip ws).reverse → Q .non H'
theorem len_init {K : PySem.W.Frag} {fl ps : List Str} {vs : List V} {H : Hp} {Q : VK} {E : XK} (h : spInit K fl vs H Q E) (e : ps.length = fl.length + 1 := by decide +kernel) : vs.length = ps.length := by
  obtain ⟨a, C, ws, rfl, hl, _⟩ := h
  rw [e, ← hl]
  rfl
/-- what the written part says of HeldError -/
structure BaseTxt (K : PySem.W.Frag) (mg : Str → Option Value) (B : Addr) : Prop where
  m : mg "HeldError" = some (.ref B)
  s : PySem.W.specialIn K (.ref B) "__getattribute__" = some (some (.builtin "type.__getattribute__"))
  t : PySem.W.typeIn K (.ref B) = some (.type "type")
  r : PySem.W.readsIn K B (.type "type") = true
  f : PySem.W.findCls K (.ref B) (.type "type") "__init__" = some (.val (.builtin "ValueError.__init__"))
section
variable {K : PySem.W.Frag} {f f2 f3 t : Str} {ps : List Str} {vs : List V} {H : Hp} {Q : VK} {E : XK}
theorem rd1 (h : spInit K [f] vs H Q E) : tSeq (tDrop (tVeI K (tCons (tVar 0) (tCons (tC (.str t)) tNil)))) (tOst K f (tVar 0) (tVar 1)) { nx := fun _ H' => Q .non H', rt := Q } (start ps vs) H := by
  obtain ⟨a, C, ws, rfl, hl, T, hno, hH, k⟩ := h
  match ws, hl with
  | [v], _ =>
    refine ⟨_, rfl, a, C, [.str t], rfl, (by simp), T, hH, ?_⟩
    refine ⟨_, rfl, _, rfl, a, C, rfl, T, hno f (by simp), .inl ⟨hH, fun dx hdx ne => ?_⟩⟩
    refine k _ (fun b o n hb => ?_) (.inr ⟨dx, upd_same, ?_⟩)
    · rw [upd_ne n, upd_ne (ne_of_none hb hdx)]; exact hb
    · rw [upd_ne ne]; exact upd_same
theorem rd2 (h : spInit K [f, f2] vs H Q E) : tSeq (tDrop (tVeI K (tCons (tVar 0) (tCons (tC (.str t)) tNil)))) (tSeq (tOst K f (tVar 0) (tVar 1)) (tOst K f2 (tVar 0) (tVar 2))) { nx := fun _ H' => Q .non H', rt := Q } (start ps vs) H := by
  obtain ⟨a, C, ws, rfl, hl, T, hno, hH, k⟩ := h
  match ws, hl with
  | [v, v2], _ =>
    refine ⟨_, rfl, a, C, [.str t], rfl, (by simp), T, hH, ?_⟩
    refine ⟨_, rfl, _, rfl, a, C, rfl, T, hno f (by simp), .inl ⟨hH, fun dx hdx ne => ?_⟩⟩
    refine ⟨_, rfl, _, rfl, a, C, rfl, T, hno f2 (by simp), .inr ⟨dx, _, upd_same, (upd_ne ne).trans upd_same, (by simp), ?_⟩⟩
    refine k _ (fun b o n hb => ?_) (.inr ⟨dx, (upd_ne ne.symm).trans upd_same, upd_same⟩)
    rw [upd_ne (ne_of_none hb hdx), upd_ne n, upd_ne (ne_of_none hb hdx)]; exact hb
theorem rd3 (h : spInit K [f, f2, f3] vs H Q E) : tSeq (tDrop (tVeI K (tCons (tVar 0) (tCons (tC (.str t)) tNil)))) (tSeq (tOst K f (tVar 0) (tVar 1)) (tSeq (tOst K f2 (tVar 0) (tVar 2)) (tOst K f3 (tVar 0) (tVar 3)))) { nx := fun _ H' => Q .non H', rt := Q } (start ps vs) H := by
  obtain ⟨a, C, ws, rfl, hl, T, hno, hH, k⟩ := h
  match ws, hl with
  | [v, v2, v3], _ =>
    refine ⟨_, rfl, a, C, [.str t], rfl, (by simp), T, hH, ?_⟩
    refine ⟨_, rfl, _, rfl, a, C, rfl, T, hno f (by simp), .inl ⟨hH, fun dx hdx ne => ?_⟩⟩
    refine ⟨_, rfl, _, rfl, a, C, rfl, T, hno f2 (by simp), .inr ⟨dx, _, upd_same, (upd_ne ne).trans upd_same, (by simp), ?_⟩⟩
    refine ⟨_, rfl, _, rfl, a, C, rfl, T, hno f3 (by simp), .inr ⟨dx, _, (upd_ne ne.symm).trans upd_same, upd_same, (by simp), ?_⟩⟩
    refine k _ (fun b o n hb => ?_) (.inr ⟨dx, (upd_ne ne.symm).trans ((upd_ne ne.symm).trans upd_same), upd_same⟩)
    rw [upd_ne (ne_of_none hb hdx), upd_ne (ne_of_none hb hdx), upd_ne n, upd_ne (ne_of_none hb hdx)]; exact hb
end
section
variable {P : Program} {w : World} {K : PySem.W.Frag} {mg : Str → Option Value} {base : Heap} {B : Addr}
abbrev s_i0 : Stmt := inClass (top 2) 0
abbrev N_i0 : List Str := ["self", "name"]
abbrev P_i0 : List Str := ["self", "name"]
theorem sc_i0 : FnScope N_i0 P_i0 (defScope s_i0) := ⟨rfl, rfl, rfl, by decide +kernel, rfl, by decide +kernel, by decide +kernel⟩

theorem ok_i0 {f : Addr} {fd : FuncData} (T : BaseTxt K mg B) (F : Fun K "__init__" "BadName.__init__" s_i0 f fd) : FnOk P w K mg base CX0 1 f fd P_i0 (spInit K (flds 0)) :=
  F.ok sc_i0 (fun vs H Q E h => len_init h) (fun cdv A outer s H vs Q E hr h => ⟨_, pss_cons (ps_expr (pe_baseinit (by rfl) T.m T.s T.t T.r T.f (pa_cons (pv 0) (pa_cons pe_str pa_nil)))) (pss_one (ps_ost (pv 0) (pv 1))), rd1 h⟩)

abbrev s_i1 : Stmt := inClass (top 3) 0
abbrev N_i1 : List Str := ["self", "name"]
abbrev P_i1 : List Str := ["self", "name"]
theorem sc_i1 : FnScope N_i1 P_i1 (defScope s_i1) := ⟨rfl, rfl, rfl, by decide +kernel, rfl, by decide +kernel, by decide +kernel⟩

theorem ok_i1 {f : Addr} {fd : FuncData} (T : BaseTxt K mg B) (F : Fun K "__init__" "NameTaken.__init__" s_i1 f fd) : FnOk P w K mg base CX0 1 f fd P_i1 (spInit K (flds 1)) :=
  F.ok sc_i1 (fun vs H Q E h => len_init h) (fun cdv A outer s H vs Q E hr h => ⟨_, pss_cons (ps_expr (pe_baseinit (by rfl) T.m T.s T.t T.r T.f (pa_cons (pv 0) (pa_cons pe_str pa_nil)))) (pss_one (ps_ost (pv 0) (pv 1))), rd1 h⟩)

abbrev s_i2 : Stmt := inClass (top 4) 0
abbrev N_i2 : List Str := ["self", "name"]
abbrev P_i2 : List Str := ["self", "name"]
theorem sc_i2 : FnScope N_i2 P_i2 (defScope s_i2) := ⟨rfl, rfl, rfl, by decide +kernel, rfl, by decide +kernel, by decide +kernel⟩

theorem ok_i2 {f : Addr} {fd : FuncData} (T : BaseTxt K mg B) (F : Fun K "__init__" "UnknownName.__init__" s_i2 f fd) : FnOk P w K mg base CX0 1 f fd P_i2 (spInit K (flds 2)) :=
  F.ok sc_i2 (fun vs H Q E h => len_init h) (fun cdv A outer s H vs Q E hr h => ⟨_, pss_cons (ps_expr (pe_baseinit (by rfl) T.m T.s T.t T.r T.f (pa_cons (pv 0) (pa_cons pe_str pa_nil)))) (pss_one (ps_ost (pv 0) (pv 1))), rd1 h⟩)

abbrev s_i3 : Stmt := inClass (top 5) 0
abbrev N_i3 : List Str := ["self", "name"]
abbrev P_i3 : List Str := ["self", "name"]
theorem sc_i3 : FnScope N_i3 P_i3 (defScope s_i3) := ⟨rfl, rfl, rfl, by decide +kernel, rfl, by decide +kernel, by decide +kernel⟩

theorem ok_i3 {f : Addr} {fd : FuncData} (T : BaseTxt K mg B) (F : Fun K "__init__" "InUse.__init__" s_i3 f fd) : FnOk P w K mg base CX0 1 f fd P_i3 (spInit K (flds 3)) :=
  F.ok sc_i3 (fun vs H Q E h => len_init h) (fun cdv A outer s H vs Q E hr h => ⟨_, pss_cons (ps_expr (pe_baseinit (by rfl) T.m T.s T.t T.r T.f (pa_cons (pv 0) (pa_cons pe_str pa_nil)))) (pss_one (ps_ost (pv 0) (pv 1))), rd1 h⟩)

abbrev s_i4 : Stmt := inClass (top 6) 0
abbrev N_i4 : List Str := ["self", "name"]
abbrev P_i4 : List Str := ["self", "name"]
theorem sc_i4 : FnScope N_i4 P_i4 (defScope s_i4) := ⟨rfl, rfl, rfl, by decide +kernel, rfl, by decide +kernel, by decide +kernel⟩

theorem ok_i4 {f : Addr} {fd : FuncData} (T : BaseTxt K mg B) (F : Fun K "__init__" "Circular.__init__" s_i4 f fd) : FnOk P w K mg base CX0 1 f fd P_i4 (spInit K (flds 4)) :=
  F.ok sc_i4 (fun vs H Q E h => len_init h) (fun cdv A outer s H vs Q E hr h => ⟨_, pss_cons (ps_expr (pe_baseinit (by rfl) T.m T.s T.t T.r T.f (pa_cons (pv 0) (pa_cons pe_str pa_nil)))) (pss_one (ps_ost (pv 0) (pv 1))), rd1 h⟩)

abbrev s_i5 : Stmt := inClass (top 7) 0
abbrev N_i5 : List Str := ["self", "name"]
abbrev P_i5 : List Str := ["self", "name"]
theorem sc_i5 : FnScope N_i5 P_i5 (defScope s_i5) := ⟨rfl, rfl, rfl, by decide +kernel, rfl, by decide +kernel, by decide +kernel⟩

theorem ok_i5 {f : Addr} {fd : FuncData} (T : BaseTxt K mg B) (F : Fun K "__init__" "NoRoom.__init__" s_i5 f fd) : FnOk P w K mg base CX0 1 f fd P_i5 (spInit K (flds 5)) :=
  F.ok sc_i5 (fun vs H Q E h => len_init h) (fun cdv A outer s H vs Q E hr h => ⟨_, pss_cons (ps_expr (pe_baseinit (by rfl) T.m T.s T.t T.r T.f (pa_cons (pv 0) (pa_cons pe_str pa_nil)))) (pss_one (ps_ost (pv 0) (pv 1))), rd1 h⟩)

abbrev s_i6 : Stmt := inClass (top 8) 0
abbrev N_i6 : List Str := ["self", "name"]
abbrev P_i6 : List Str := ["self", "name"]
theorem sc_i6 : FnScope N_i6 P_i6 (defScope s_i6) := ⟨rfl, rfl, rfl, by decide +kernel, rfl, by decide +kernel, by decide +kernel⟩

theorem ok_i6 {f : Addr} {fd : FuncData} (T : BaseTxt K mg B) (F : Fun K "__init__" "LeftOver.__init__" s_i6 f fd) : FnOk P w K mg base CX0 1 f fd P_i6 (spInit K (flds 6)) :=
  F.ok sc_i6 (fun vs H Q E h => len_init h) (fun cdv A outer s H vs Q E hr h => ⟨_, pss_cons (ps_expr (pe_baseinit (by rfl) T.m T.s T.t T.r T.f (pa_cons (pv 0) (pa_cons pe_str pa_nil)))) (pss_one (ps_ost (pv 0) (pv 1))), rd1 h⟩)

abbrev s_i7 : Stmt := inClass (top 9) 0
abbrev N_i7 : List Str := ["self", "name"]
abbrev P_i7 : List Str := ["self", "name"]
theorem sc_i7 : FnScope N_i7 P_i7 (defScope s_i7) := ⟨rfl, rfl, rfl, by decide +kernel, rfl, by decide +kernel, by decide +kernel⟩

theorem ok_i7 {f : Addr} {fd : FuncData} (T : BaseTxt K mg B) (F : Fun K "__init__" "WrongHold.__init__" s_i7 f fd) : FnOk P w K mg base CX0 1 f fd P_i7 (spInit K (flds 7)) :=
  F.ok sc_i7 (fun vs H Q E h => len_init h) (fun cdv A outer s H vs Q E hr h => ⟨_, pss_cons (ps_expr (pe_baseinit (by rfl) T.m T.s T.t T.r T.f (pa_cons (pv 0) (pa_cons pe_str pa_nil)))) (pss_one (ps_ost (pv 0) (pv 1))), rd1 h⟩)

abbrev s_i8 : Stmt := inClass (top 10) 0
abbrev N_i8 : List Str := ["self", "kind"]
abbrev P_i8 : List Str := ["self", "kind"]
theorem sc_i8 : FnScope N_i8 P_i8 (defScope s_i8) := ⟨rfl, rfl, rfl, by decide +kernel, rfl, by decide +kernel, by decide +kernel⟩

theorem ok_i8 {f : Addr} {fd : FuncData} (T : BaseTxt K mg B) (F : Fun K "__init__" "BadKind.__init__" s_i8 f fd) : FnOk P w K mg base CX0 1 f fd P_i8 (spInit K (flds 8)) :=
  F.ok sc_i8 (fun vs H Q E h => len_init h) (fun cdv A outer s H vs Q E hr h => ⟨_, pss_cons (ps_expr (pe_baseinit (by rfl) T.m T.s T.t T.r T.f (pa_cons (pv 0) (pa_cons pe_str pa_nil)))) (pss_one (ps_ost (pv 0) (pv 1))), rd1 h⟩)

abbrev s_i9 : Stmt := inClass (top 11) 0
abbrev N_i9 : List Str := ["self", "index"]
abbrev P_i9 : List Str := ["self", "index"]
theorem sc_i9 : FnScope N_i9 P_i9 (defScope s_i9) := ⟨rfl, rfl, rfl, by decide +kernel, rfl, by decide +kernel, by decide +kernel⟩

theorem ok_i9 {f : Addr} {fd : FuncData} (T : BaseTxt K mg B) (F : Fun K "__init__" "TextError.__init__" s_i9 f fd) : FnOk P w K mg base CX0 1 f fd P_i9 (spInit K (flds 9)) :=
  F.ok sc_i9 (fun vs H Q E h => len_init h) (fun cdv A outer s H vs Q E hr h => ⟨_, pss_cons (ps_expr (pe_baseinit (by rfl) T.m T.s T.t T.r T.f (pa_cons (pv 0) (pa_cons pe_str pa_nil)))) (pss_one (ps_ost (pv 0) (pv 1))), rd1 h⟩)

abbrev s_i10 : Stmt := inClass (top 12) 0
abbrev N_i10 : List Str := ["self", "path"]
abbrev P_i10 : List Str := ["self", "path"]
theorem sc_i10 : FnScope N_i10 P_i10 (defScope s_i10) := ⟨rfl, rfl, rfl, by decide +kernel, rfl, by decide +kernel, by decide +kernel⟩

theorem ok_i10 {f : Addr} {fd : FuncData} (T : BaseTxt K mg B) (F : Fun K "__init__" "NoPart.__init__" s_i10 f fd) : FnOk P w K mg base CX0 1 f fd P_i10 (spInit K (flds 10)) :=
  F.ok sc_i10 (fun vs H Q E h => len_init h) (fun cdv A outer s H vs Q E hr h => ⟨_, pss_cons (ps_expr (pe_baseinit (by rfl) T.m T.s T.t T.r T.f (pa_cons (pv 0) (pa_cons pe_str pa_nil)))) (pss_one (ps_ost (pv 0) (pv 1))), rd1 h⟩)

abbrev s_i11 : Stmt := inClass (top 13) 0
abbrev N_i11 : List Str := ["self", "path"]
abbrev P_i11 : List Str := ["self", "path"]
theorem sc_i11 : FnScope N_i11 P_i11 (defScope s_i11) := ⟨rfl, rfl, rfl, by decide +kernel, rfl, by decide +kernel, by decide +kernel⟩

theorem ok_i11 {f : Addr} {fd : FuncData} (T : BaseTxt K mg B) (F : Fun K "__init__" "NotBare.__init__" s_i11 f fd) : FnOk P w K mg base CX0 1 f fd P_i11 (spInit K (flds 11)) :=
  F.ok sc_i11 (fun vs H Q E h => len_init h) (fun cdv A outer s H vs Q E hr h => ⟨_, pss_cons (ps_expr (pe_baseinit (by rfl) T.m T.s T.t T.r T.f (pa_cons (pv 0) (pa_cons pe_str pa_nil)))) (pss_one (ps_ost (pv 0) (pv 1))), rd1 h⟩)

abbrev s_i12 : Stmt := inClass (top 14) 0
abbrev N_i12 : List Str := ["self", "path", "reason"]
abbrev P_i12 : List Str := ["self", "path", "reason"]
theorem sc_i12 : FnScope N_i12 P_i12 (defScope s_i12) := ⟨rfl, rfl, rfl, by decide +kernel, rfl, by decide +kernel, by decide +kernel⟩

theorem ok_i12 {f : Addr} {fd : FuncData} (T : BaseTxt K mg B) (F : Fun K "__init__" "DerivationError.__init__" s_i12 f fd) : FnOk P w K mg base CX0 1 f fd P_i12 (spInit K (flds 12)) :=
  F.ok sc_i12 (fun vs H Q E h => len_init h) (fun cdv A outer s H vs Q E hr h => ⟨_, pss_cons (ps_expr (pe_baseinit (by rfl) T.m T.s T.t T.r T.f (pa_cons (pv 0) (pa_cons pe_str pa_nil)))) (pss_cons (ps_ost (pv 0) (pv 1)) (pss_one (ps_ost (pv 0) (pv 2)))), rd2 h⟩)

abbrev s_i13 : Stmt := inClass (top 15) 0
abbrev N_i13 : List Str := ["self", "path", "way"]
abbrev P_i13 : List Str := ["self", "path", "way"]
theorem sc_i13 : FnScope N_i13 P_i13 (defScope s_i13) := ⟨rfl, rfl, rfl, by decide +kernel, rfl, by decide +kernel, by decide +kernel⟩

theorem ok_i13 {f : Addr} {fd : FuncData} (T : BaseTxt K mg B) (F : Fun K "__init__" "NoStep.__init__" s_i13 f fd) : FnOk P w K mg base CX0 1 f fd P_i13 (spInit K (flds 13)) :=
  F.ok sc_i13 (fun vs H Q E h => len_init h) (fun cdv A outer s H vs Q E hr h => ⟨_, pss_cons (ps_expr (pe_baseinit (by rfl) T.m T.s T.t T.r T.f (pa_cons (pv 0) (pa_cons pe_str pa_nil)))) (pss_cons (ps_ost (pv 0) (pv 1)) (pss_one (ps_ost (pv 0) (pv 2)))), rd2 h⟩)

abbrev s_i14 : Stmt := inClass (top 16) 0
abbrev N_i14 : List Str := ["self", "name", "make_index", "open_index"]
abbrev P_i14 : List Str := ["self", "name", "make_index", "open_index"]
theorem sc_i14 : FnScope N_i14 P_i14 (defScope s_i14) := ⟨rfl, rfl, rfl, by decide +kernel, rfl, by decide +kernel, by decide +kernel⟩

theorem ok_i14 {f : Addr} {fd : FuncData} (T : BaseTxt K mg B) (F : Fun K "__init__" "NoMeeting.__init__" s_i14 f fd) : FnOk P w K mg base CX0 1 f fd P_i14 (spInit K (flds 14)) :=
  F.ok sc_i14 (fun vs H Q E h => len_init h) (fun cdv A outer s H vs Q E hr h => ⟨_, pss_cons (ps_expr (pe_baseinit (by rfl) T.m T.s T.t T.r T.f (pa_cons (pv 0) (pa_cons pe_str pa_nil)))) (pss_cons (ps_ost (pv 0) (pv 1)) (pss_cons (ps_ost (pv 0) (pv 2)) (pss_one (ps_ost (pv 0) (pv 3))))), rd3 h⟩)

abbrev s_i15 : Stmt := inClass (top 17) 0
abbrev N_i15 : List Str := ["self", "reason"]
abbrev P_i15 : List Str := ["self", "reason"]
theorem sc_i15 : FnScope N_i15 P_i15 (defScope s_i15) := ⟨rfl, rfl, rfl, by decide +kernel, rfl, by decide +kernel, by decide +kernel⟩

theorem ok_i15 {f : Addr} {fd : FuncData} (T : BaseTxt K mg B) (F : Fun K "__init__" "BadWorld.__init__" s_i15 f fd) : FnOk P w K mg base CX0 1 f fd P_i15 (spInit K (flds 15)) :=
  F.ok sc_i15 (fun vs H Q E h => len_init h) (fun cdv A outer s H vs Q E hr h => ⟨_, pss_cons (ps_expr (pe_baseinit (by rfl) T.m T.s T.t T.r T.f (pa_cons (pv 0) (pa_cons pe_str pa_nil)))) (pss_one (ps_ost (pv 0) (pv 1))), rd1 h⟩)

abbrev s_i16 : Stmt := inClass (top 18) 0
abbrev N_i16 : List Str := ["self", "limit"]
abbrev P_i16 : List Str := ["self", "limit"]
theorem sc_i16 : FnScope N_i16 P_i16 (defScope s_i16) := ⟨rfl, rfl, rfl, by decide +kernel, rfl, by decide +kernel, by decide +kernel⟩

theorem ok_i16 {f : Addr} {fd : FuncData} (T : BaseTxt K mg B) (F : Fun K "__init__" "WorldTooLarge.__init__" s_i16 f fd) : FnOk P w K mg base CX0 1 f fd P_i16 (spInit K (flds 16)) :=
  F.ok sc_i16 (fun vs H Q E h => len_init h) (fun cdv A outer s H vs Q E hr h => ⟨_, pss_cons (ps_expr (pe_baseinit (by rfl) T.m T.s T.t T.r T.f (pa_cons (pv 0) (pa_cons pe_str pa_nil)))) (pss_one (ps_ost (pv 0) (pv 1))), rd1 h⟩)

abbrev s_i17 : Stmt := inClass (top 19) 0
abbrev N_i17 : List Str := ["self", "number"]
abbrev P_i17 : List Str := ["self", "number"]
theorem sc_i17 : FnScope N_i17 P_i17 (defScope s_i17) := ⟨rfl, rfl, rfl, by decide +kernel, rfl, by decide +kernel, by decide +kernel⟩

theorem ok_i17 {f : Addr} {fd : FuncData} (T : BaseTxt K mg B) (F : Fun K "__init__" "NoGoal.__init__" s_i17 f fd) : FnOk P w K mg base CX0 1 f fd P_i17 (spInit K (flds 17)) :=
  F.ok sc_i17 (fun vs H Q E h => len_init h) (fun cdv A outer s H vs Q E hr h => ⟨_, pss_cons (ps_expr (pe_baseinit (by rfl) T.m T.s T.t T.r T.f (pa_cons (pv 0) (pa_cons pe_str pa_nil)))) (pss_one (ps_ost (pv 0) (pv 1))), rd1 h⟩)

abbrev s_i18 : Stmt := inClass (top 20) 0
abbrev N_i18 : List Str := ["self", "count"]
abbrev P_i18 : List Str := ["self", "count"]
theorem sc_i18 : FnScope N_i18 P_i18 (defScope s_i18) := ⟨rfl, rfl, rfl, by decide +kernel, rfl, by decide +kernel, by decide +kernel⟩

theorem ok_i18 {f : Addr} {fd : FuncData} (T : BaseTxt K mg B) (F : Fun K "__init__" "GoalsLeft.__init__" s_i18 f fd) : FnOk P w K mg base CX0 1 f fd P_i18 (spInit K (flds 18)) :=
  F.ok sc_i18 (fun vs H Q E h => len_init h) (fun cdv A outer s H vs Q E hr h => ⟨_, pss_cons (ps_expr (pe_baseinit (by rfl) T.m T.s T.t T.r T.f (pa_cons (pv 0) (pa_cons pe_str pa_nil)))) (pss_one (ps_ost (pv 0) (pv 1))), rd1 h⟩)

end
/-- the class x stands at C, its __init__ takes the fields fl -/
structure ClsOk (P : Program) (w : World) (K : PySem.W.Frag) (mg : Str → Option Value) (base : Heap) (x : Str) (C : Addr) (fl : List Str) : Prop where
  oex : OexC K C
  m : mg x = some (.ref C)
  nof : ∀ f ∈ fl, PySem.W.findIn K (.ref C) f = some none
  ini : ∃ fI fd ps, PySem.W.findIn K (.ref C) "__init__" = some (some (.ref fI)) ∧ PySem.W.typeIn K (.ref fI) = some (.type "function") ∧ FnOk P w K mg base CX0 1 fI fd ps (spInit K fl) ∧ Binds K fd ps []
section
variable {X : Cx} {x : Str} {C : Addr} {fl : List Str} {p pos : Pos} {e : Expr} {es : List Expr} {ta : TA}
theorem pe_cls (O : ClsOk X.prog X.w X.K X.mg X.base x C fl) (hr : Room 2 X.A) (ha : PA X (e :: es) ta) (hg : Gl X x := by rfl) (hdb : (x == ("__debug__" : Str)) = false := by decide)
    (he : starEach (e :: es) X.env = (false, eval e X.env) :: starEach es X.env := by rfl) (hpl : (backTo pos (starEach es X.env)).any (·.1) = false := by rfl) :
    PE X (.Call (.Name x p) (e :: es) [] pos) (tMkV C (spInit X.K fl) ta) := by
  obtain ⟨fI, fd, ps, h1, h2, h3, h4⟩ := O.ini
  exact pe_mkV O.oex h1 h2 h3 hr h4 hg O.m ha hdb he hpl
end
/-- the reading of a making -/
theorem rd_mk {P : Program} {w : World} {K : PySem.W.Frag} {mg : Str → Option Value} {base : Heap} {x : Str} {C : Addr} {fl : List Str} {vs : List V} {H : Hp} {Q : VK} (O : ClsOk P w K mg base x C fl) (hl : vs.length = fl.length) (hz : vs.length ≤ 1000)
    (k : ∀ a H', H a = none → Same H H' → ExcAt H' a C (fl.zip vs).reverse → Q (.ref a) H') :
    vs.length ≤ 1000 ∧ ∀ a, H a = none → spInit K fl (.ref a :: vs) (upd H a (exo a C none)) (fun v H2 => v = .non ∧ Q (.ref a) H2) E0 :=
  ⟨hz, fun a ha => ⟨a, C, vs, rfl, hl, O.oex, O.nof, upd_same, fun H' keep ex => ⟨rfl, k a H' ha (fun b o hb => keep b o (ne_of_none hb ha) (by rw [upd_ne (ne_of_none hb ha)]; exact hb)) ex⟩⟩⟩
end K65
set_option Elab.async false
set_option linter.all false
set_option maxRecDepth 100000
set_option maxHeartbeats 4000000
namespace K65
open PySem PySem.Spec PyProof.Rows L2 ExObj
/-- what the top has written of the classes: the one with number i stands at C i -/
structure TxtC (K : PySem.W.Frag) (mg : Str → Option Value) (C : Nat → Addr) (B : Addr) : Prop where
  isinstance : mg "isinstance" = none
  repr : mg "repr" = none
  range : mg "range" = none
  mB : mg "HeldError" = some (.ref B)
  mV : mg "ValueError" = none
  m : ∀ i x, Names[i]? = some x → mg x = some (.ref (C i))
  xf : ∀ i, i < 26 → XfC K (C i)
  ec : ∀ i, i < 26 → ExcC K (C i)
  nof : ∀ i, i < 26 → ∀ f ∈ (["name", "kind", "index", "path", "reason", "way", "make_index", "open_index", "limit", "number", "count"] : List Str), PySem.W.findIn K (.ref (C i)) f = some none
  kit : ∀ i j, i < 26 → j < 26 → PySem.W.kitOne K (.ref (C i)) (.ref (C j)) = some (decide (i = j))
  kB : ∀ i, i < 26 → PySem.W.kitOne K (.ref (C i)) (.ref B) = some true
  kV : ∀ i, i < 26 → PySem.W.kitOne K (.ref (C i)) (.type "ValueError") = some true
  exi : ∀ i, 19 ≤ i → i < 26 → PySem.W.excIn K (C i) [.type "ValueError", .type "Exception", .type "BaseException", .type "object"] "ValueError.__new__" = true
  kC : ∀ i, 19 ≤ i → i < 26 → PySem.W.keepIn K (.ref (C i)) = true
/-- an error with the number i, with these values of its fields -/
def ErrAt (C : Nat → Addr) (H : Hp) (e : Addr) (i : Nat) (ws : List V) : Prop := ExcAt H e (C i) ((flds i).zip ws).reverse
theorem exAt_keep {H H' : Hp} {a D : Addr} {fs : List (Str × V)} (s : Same H H') (h : ExcAt H a D fs) : ExcAt H' a D fs := by
  rcases h with ⟨e, h⟩ | ⟨dd, h, h2⟩
  · exact .inl ⟨e, s _ _ h⟩
  · exact .inr ⟨dd, s _ _ h, s _ _ h2⟩
theorem exAt_new {H : Hp} {a D q : Addr} {fs : List (Str × V)} {o : HO} (hq : H q = none) (h : ExcAt H a D fs) : ExcAt (upd H q o) a D fs := exAt_keep (same_new hq) h
theorem free_new {H : Hp} {p q : Addr} {o : HO} (h : upd H q o p = none) : H p = none := by
  by_cases e : p = q
  · rw [e, upd_same] at h; cases h
  · rw [upd_ne e] at h; exact h
theorem exAt_but {H H' : Hp} {p a D : Addr} {fs : List (Str × V)} (hp : Pool H p) (s : But p H H') (h : ExcAt H a D fs) : ExcAt H' a D fs := by
  obtain ⟨x, y, z, e⟩ := hp
  have n1 : ∀ {d}, H a = some (exo a D d) → a ≠ p := fun {d} q r => by
    rw [r, e] at q
    have q' : some (HO.lst _) = some (HO.ext _) := q
    cases q'
  have n2 : ∀ {d fs}, H d = some (exd d fs) → d ≠ p := fun {d fs} q r => by
    rw [r, e] at q
    have q' : some (HO.lst _) = some (HO.ext _) := q
    cases q'
  rcases h with ⟨f, h⟩ | ⟨dd, h, h2⟩
  · exact .inl ⟨f, s _ _ (n1 h) h⟩
  · exact .inr ⟨dd, s _ _ (n1 h) h, s _ _ (n2 h2) h2⟩
theorem flds_lt {i : Nat} (h : i < 8) : flds i = (["name"] : List Str) := (by decide +kernel : ∀ i : Nat, i < 8 → flds i = (["name"] : List Str)) i h
theorem flds_len {i : Nat} (h : i < 26) : (flds i).length = counts i := (by decide +kernel : ∀ i : Nat, i < 26 → (flds i).length = counts i) i h
def spNamed (C : Nat → Addr) : Sp := fun vs H Q _ => ∃ (i : Nat) (v : V), vs = [.int i, v] ∧ i < 8 ∧ ∀ e H', H e = none → Same H H' → ErrAt C H' e i [v] → Q (.ref e) H'
def spPlain (C : Nat → Addr) : Sp := fun vs H Q _ => ∃ (i : Nat), vs = [.int i] ∧ 19 ≤ i ∧ i < 26 ∧ ∀ e H', H e = none → Same H H' → ErrAt C H' e i [] → Q (.ref e) H'
def spMade (C : Nat → Addr) : Sp := fun vs H Q _ => ∃ (i : Nat) (L : Addr) (ws : List V), vs = [.int i, .ref L] ∧ i < 26 ∧ H L = some (.lst ws) ∧ ws.length = counts i ∧ ∀ e H', H e = none → Same H H' → ErrAt C H' e i ws → Q (.ref e) H'
def spFields (C : Nat → Addr) : Sp := fun vs H Q _ => ∃ (i : Nat) (e : Addr) (ws : List V), vs = [.int i, .ref e] ∧ i < 26 ∧ ErrAt C H e i ws ∧ ws.length = counts i ∧ ∀ L H', H L = none → Same H H' → H' L = some (.lst ws) → Q (.ref L) H'
def spMarks (C : Nat → Addr) : Sp := fun vs H Q _ => ∃ (i : Nat) (e : Addr) (ws : List V), vs = [.ref e] ∧ i < 26 ∧ ErrAt C H e i ws ∧ ∀ L H', H L = none → Same H H' → H' L = some (.lst ((List.range 26).map fun j => .bl (decide (i = j)))) → Q (.ref L) H'
def spDue (C : Nat → Addr) : Sp := fun vs H Q _ => ∃ (i : Nat) (e L : Addr) (ws : List V), vs = [.int i, .ref e, .ref L] ∧ i < 26 ∧ ErrAt C H e i ws ∧ ws.length = counts i ∧ H L = some (.lst ws) ∧ (∀ v ∈ ws, GoodV H v) ∧ ∀ H', Same H H' → Q (.bl true) H'
def spLaw (K : PySem.W.Frag) : Sp := fun vs H Q _ => ∃ (a : Addr) (ns : List Int), vs = [.ref a] ∧ SqL K H a (ns.map V.int) ∧ ns.length ≤ 63 ∧ ∀ H', Q (.bl true) H'
abbrev s_named : Stmt := top 37
abbrev N_named : List Str := ["_law_which", "_law_name"]
abbrev P_named : List Str := ["_law_which", "_law_name"]
theorem sc_named : FnScope N_named P_named (defScope s_named) := ⟨rfl, rfl, rfl, by decide +kernel, rfl, by decide +kernel, by decide +kernel⟩

abbrev s_plain : Stmt := top 38
abbrev N_plain : List Str := ["_law_which"]
abbrev P_plain : List Str := ["_law_which"]
theorem sc_plain : FnScope N_plain P_plain (defScope s_plain) := ⟨rfl, rfl, rfl, by decide +kernel, rfl, by decide +kernel, by decide +kernel⟩

abbrev s_made : Stmt := top 39
abbrev N_made : List Str := ["_law_which", "_law_values_here"]
abbrev P_made : List Str := ["_law_which", "_law_values_here"]
theorem sc_made : FnScope N_made P_made (defScope s_made) := ⟨rfl, rfl, rfl, by decide +kernel, rfl, by decide +kernel, by decide +kernel⟩

abbrev s_fields : Stmt := top 40
abbrev N_fields : List Str := ["_law_which", "_law_e"]
abbrev P_fields : List Str := ["_law_which", "_law_e"]
theorem sc_fields : FnScope N_fields P_fields (defScope s_fields) := ⟨rfl, rfl, rfl, by decide +kernel, rfl, by decide +kernel, by decide +kernel⟩

abbrev s_marks : Stmt := top 41
abbrev N_marks : List Str := ["_law_e", "_law_marks_here"]
abbrev P_marks : List Str := ["_law_e"]
theorem sc_marks : FnScope N_marks P_marks (defScope s_marks) := ⟨rfl, rfl, rfl, by decide +kernel, rfl, by decide +kernel, by decide +kernel⟩

abbrev s_is_due : Stmt := top 42
abbrev N_is_due : List Str := ["_law_which", "_law_e", "_law_values_here", "_law_told", "_law_k"]
abbrev P_is_due : List Str := ["_law_which", "_law_e", "_law_values_here"]
theorem sc_is_due : FnScope N_is_due P_is_due (defScope s_is_due) := ⟨rfl, rfl, rfl, by decide +kernel, rfl, by decide +kernel, by decide +kernel⟩

abbrev s_law : Stmt := top 43
abbrev N_law : List Str := ["_law_script", "_law_pool_here", "_law_which", "_law_values_here", "_law_e", "_law_other"]
abbrev P_law : List Str := ["_law_script"]
theorem sc_law : FnScope N_law P_law (defScope s_law) := ⟨rfl, rfl, rfl, by decide +kernel, rfl, by decide +kernel, by decide +kernel⟩

section
variable {P : Program} {w : World} {K : PySem.W.Frag} {mg : Str → Option Value} {base : Heap} {C : Nat → Addr} {B : Addr}
theorem named_ways (Cl : ∀ i x, Names[i]? = some x → i < 19 → ClsOk P w K mg base x (C i) (flds i)) {v : V} {H : Hp} {Q : VK} : ∀ i : Nat, i < 8 → (∀ e H', H e = none → Same H H' → ErrAt C H' e i [v] → Q (.ref e) H') →
    ([v].length ≤ 1000 ∧ ∀ a, H a = none → spInit K (flds i) (.ref a :: [v]) (upd H a (exo a (C i) none)) (fun v H2 => v = .non ∧ Q (.ref a) H2) E0) := fun i hi k => by
  have hn : ∃ x, Names[i]? = some x := (by decide +kernel : ∀ i : Nat, i < 8 → (Names[i]?).isSome = true) i hi |> Option.isSome_iff_exists.mp
  obtain ⟨x, hx⟩ := hn
  refine rd_mk (Cl i x hx (by omega)) ?_ (by simp) fun a H' ha s ex => k a H' ha s ex
  rw [flds_lt hi]
  rfl
theorem ok_named (Cl : ∀ i x, Names[i]? = some x → i < 19 → ClsOk P w K mg base x (C i) (flds i)) (S : Stands K mg "_law_named" s_named P_named) : Ok P w K mg base 3 "_law_named" s_named P_named (spNamed C) := by
  obtain ⟨f, fd, F, m, b⟩ := S
  refine ⟨f, fd, F, m, b, F.ok sc_named (fun vs H Q E h => ?_) (fun cdv A outer s H vs Q E hr h => ?_)⟩
  · obtain ⟨i, v, rfl, _⟩ := h
    rfl
  · have hr2 : Room 2 _ := hr
    refine ⟨_, (pss_cons (ps_if (pt_cmpR op_eq (pv 0) pe_int (nomark _)) (pss_one (ps_ret (pe_cls (Cl 0 _ rfl (by decide)) hr2 (pa_cons (pv 1) pa_nil)))) pss_nil)
(pss_cons (ps_if (pt_cmpR op_eq (pv 0) pe_int (nomark _)) (pss_one (ps_ret (pe_cls (Cl 1 _ rfl (by decide)) hr2 (pa_cons (pv 1) pa_nil)))) pss_nil)
(pss_cons (ps_if (pt_cmpR op_eq (pv 0) pe_int (nomark _)) (pss_one (ps_ret (pe_cls (Cl 2 _ rfl (by decide)) hr2 (pa_cons (pv 1) pa_nil)))) pss_nil)
(pss_cons (ps_if (pt_cmpR op_eq (pv 0) pe_int (nomark _)) (pss_one (ps_ret (pe_cls (Cl 3 _ rfl (by decide)) hr2 (pa_cons (pv 1) pa_nil)))) pss_nil)
(pss_cons (ps_if (pt_cmpR op_eq (pv 0) pe_int (nomark _)) (pss_one (ps_ret (pe_cls (Cl 4 _ rfl (by decide)) hr2 (pa_cons (pv 1) pa_nil)))) pss_nil)
(pss_cons (ps_if (pt_cmpR op_eq (pv 0) pe_int (nomark _)) (pss_one (ps_ret (pe_cls (Cl 5 _ rfl (by decide)) hr2 (pa_cons (pv 1) pa_nil)))) pss_nil)
(pss_cons (ps_if (pt_cmpR op_eq (pv 0) pe_int (nomark _)) (pss_one (ps_ret (pe_cls (Cl 6 _ rfl (by decide)) hr2 (pa_cons (pv 1) pa_nil)))) pss_nil)
(pss_one (ps_ret (pe_cls (Cl 7 _ rfl (by decide)) hr2 (pa_cons (pv 1) pa_nil))))))))))), ?_⟩
    obtain ⟨i, v, rfl, hi, k⟩ := h
    have W := named_ways Cl (v := v) i hi k
    clear k
    rcases (show i = 0 ∨ i = 1 ∨ i = 2 ∨ i = 3 ∨ i = 4 ∨ i = 5 ∨ i = 6 ∨ i = 7 by omega) with rfl | rfl | rfl | rfl | rfl | rfl | rfl | rfl
    · refine ⟨_, rfl, rfl, _, rfl, ?_⟩
      exact ⟨_, rfl, W⟩
    · iterate 2 refine ⟨_, rfl, rfl, _, rfl, ?_⟩
      exact ⟨_, rfl, W⟩
    · iterate 3 refine ⟨_, rfl, rfl, _, rfl, ?_⟩
      exact ⟨_, rfl, W⟩
    · iterate 4 refine ⟨_, rfl, rfl, _, rfl, ?_⟩
      exact ⟨_, rfl, W⟩
    · iterate 5 refine ⟨_, rfl, rfl, _, rfl, ?_⟩
      exact ⟨_, rfl, W⟩
    · iterate 6 refine ⟨_, rfl, rfl, _, rfl, ?_⟩
      exact ⟨_, rfl, W⟩
    · iterate 7 refine ⟨_, rfl, rfl, _, rfl, ?_⟩
      exact ⟨_, rfl, W⟩
    · iterate 7 refine ⟨_, rfl, rfl, _, rfl, ?_⟩
      exact ⟨_, rfl, W⟩
theorem ok_plain (T : TxtC K mg C B) (S : Stands K mg "_law_plain" s_plain P_plain) : Ok P w K mg base 3 "_law_plain" s_plain P_plain (spPlain C) := by
  obtain ⟨f, fd, F, m, b⟩ := S
  refine ⟨f, fd, F, m, b, F.ok sc_plain (fun vs H Q E h => ?_) (fun cdv A outer s H vs Q E hr h => ?_)⟩
  · obtain ⟨i, rfl, _⟩ := h
    rfl
  · refine ⟨_, (pss_cons (ps_if (pt_cmpR op_eq (pv 0) pe_int (nomark _)) (pss_one (ps_ret (pe_mk0 (T.exi 19 (by decide) (by decide)) (T.kC 19 (by decide) (by decide)) (by rfl) (T.m 19 _ rfl)))) pss_nil)
(pss_cons (ps_if (pt_cmpR op_eq (pv 0) pe_int (nomark _)) (pss_one (ps_ret (pe_mk0 (T.exi 20 (by decide) (by decide)) (T.kC 20 (by decide) (by decide)) (by rfl) (T.m 20 _ rfl)))) pss_nil)
(pss_cons (ps_if (pt_cmpR op_eq (pv 0) pe_int (nomark _)) (pss_one (ps_ret (pe_mk0 (T.exi 21 (by decide) (by decide)) (T.kC 21 (by decide) (by decide)) (by rfl) (T.m 21 _ rfl)))) pss_nil)
(pss_cons (ps_if (pt_cmpR op_eq (pv 0) pe_int (nomark _)) (pss_one (ps_ret (pe_mk0 (T.exi 22 (by decide) (by decide)) (T.kC 22 (by decide) (by decide)) (by rfl) (T.m 22 _ rfl)))) pss_nil)
(pss_cons (ps_if (pt_cmpR op_eq (pv 0) pe_int (nomark _)) (pss_one (ps_ret (pe_mk0 (T.exi 23 (by decide) (by decide)) (T.kC 23 (by decide) (by decide)) (by rfl) (T.m 23 _ rfl)))) pss_nil)
(pss_cons (ps_if (pt_cmpR op_eq (pv 0) pe_int (nomark _)) (pss_one (ps_ret (pe_mk0 (T.exi 24 (by decide) (by decide)) (T.kC 24 (by decide) (by decide)) (by rfl) (T.m 24 _ rfl)))) pss_nil)
(pss_one (ps_ret (pe_mk0 (T.exi 25 (by decide) (by decide)) (T.kC 25 (by decide) (by decide)) (by rfl) (T.m 25 _ rfl)))))))))), ?_⟩
    obtain ⟨i, rfl, h1, h2, k⟩ := h
    have hz : ((flds i).zip ([] : List V)).reverse = [] := by simp
    have W : ∀ a, H a = none → Q (.ref a) (upd H a (exo a (C i) none)) := fun a ha => k a _ ha (same_new ha) (.inl ⟨hz, upd_same⟩)
    clear k
    rcases (show i = 19 ∨ i = 20 ∨ i = 21 ∨ i = 22 ∨ i = 23 ∨ i = 24 ∨ i = 25 by omega) with rfl | rfl | rfl | rfl | rfl | rfl | rfl
    · iterate 1 refine ⟨_, rfl, rfl, _, rfl, ?_⟩
      exact W
    · iterate 2 refine ⟨_, rfl, rfl, _, rfl, ?_⟩
      exact W
    · iterate 3 refine ⟨_, rfl, rfl, _, rfl, ?_⟩
      exact W
    · iterate 4 refine ⟨_, rfl, rfl, _, rfl, ?_⟩
      exact W
    · iterate 5 refine ⟨_, rfl, rfl, _, rfl, ?_⟩
      exact W
    · iterate 6 refine ⟨_, rfl, rfl, _, rfl, ?_⟩
      exact W
    · iterate 6 refine ⟨_, rfl, rfl, _, rfl, ?_⟩
      exact W
theorem ok_made (T : TxtC K mg C B) (Cl : ∀ i x, Names[i]? = some x → i < 19 → ClsOk P w K mg base x (C i) (flds i)) (S : Stands K mg "_law_made" s_made P_made) (O_named : Ok P w K mg base 3 "_law_named" s_named P_named (spNamed C))
    (O_plain : Ok P w K mg base 3 "_law_plain" s_plain P_plain (spPlain C)) : Ok P w K mg base 4 "_law_made" s_made P_made (spMade C) := by
  obtain ⟨f, fd, F, m, b⟩ := S
  refine ⟨f, fd, F, m, b, F.ok sc_made (fun vs H Q E h => ?_) (fun cdv A outer s H vs Q E hr h => ?_)⟩
  · obtain ⟨i, L, ws, rfl, _⟩ := h
    rfl
  · have hr2 : Room 2 _ := hr.mono (by decide)
    have hr_named : Room 3 _ := hr
    have hr_plain : Room 3 _ := hr
    refine ⟨_, (pss_cons (ps_if (pt_cmpR op_lt (pv 0) pe_int (nomark _)) (pss_one (ps_ret (pe_own O_named hr_named (pa_cons (pv 0) (pa_cons (pe_ix ix_list (pv 1) pe_int (fun _ _ => rfl)) pa_nil))))) pss_nil)
(pss_cons (ps_if (pt_cmpR op_gt (pv 0) pe_int (nomark _)) (pss_one (ps_ret (pe_own O_plain hr_plain (pa_cons (pv 0) pa_nil)))) pss_nil)
(pss_cons (ps_if (pt_cmpR op_eq (pv 0) pe_int (nomark _)) (pss_one (ps_ret (pe_cls (Cl 8 _ rfl (by decide)) hr2 (pa_cons (pe_ix ix_list (pv 1) pe_int (fun _ _ => rfl)) pa_nil)))) pss_nil)
(pss_cons (ps_if (pt_cmpR op_eq (pv 0) pe_int (nomark _)) (pss_one (ps_ret (pe_cls (Cl 9 _ rfl (by decide)) hr2 (pa_cons (pe_ix ix_list (pv 1) pe_int (fun _ _ => rfl)) pa_nil)))) pss_nil)
(pss_cons (ps_if (pt_cmpR op_eq (pv 0) pe_int (nomark _)) (pss_one (ps_ret (pe_cls (Cl 10 _ rfl (by decide)) hr2 (pa_cons (pe_ix ix_list (pv 1) pe_int (fun _ _ => rfl)) pa_nil)))) pss_nil)
(pss_cons (ps_if (pt_cmpR op_eq (pv 0) pe_int (nomark _)) (pss_one (ps_ret (pe_cls (Cl 11 _ rfl (by decide)) hr2 (pa_cons (pe_ix ix_list (pv 1) pe_int (fun _ _ => rfl)) pa_nil)))) pss_nil)
(pss_cons (ps_if (pt_cmpR op_eq (pv 0) pe_int (nomark _)) (pss_one (ps_ret (pe_cls (Cl 12 _ rfl (by decide)) hr2 (pa_cons (pe_ix ix_list (pv 1) pe_int (fun _ _ => rfl)) (pa_cons (pe_ix ix_list (pv 1) pe_int (fun _ _ => rfl)) pa_nil))))) pss_nil)
(pss_cons (ps_if (pt_cmpR op_eq (pv 0) pe_int (nomark _)) (pss_one (ps_ret (pe_cls (Cl 13 _ rfl (by decide)) hr2 (pa_cons (pe_ix ix_list (pv 1) pe_int (fun _ _ => rfl)) (pa_cons (pe_ix ix_list (pv 1) pe_int (fun _ _ => rfl)) pa_nil))))) pss_nil)
(pss_cons (ps_if (pt_cmpR op_eq (pv 0) pe_int (nomark _)) (pss_one (ps_ret (pe_cls (Cl 14 _ rfl (by decide)) hr2 (pa_cons (pe_ix ix_list (pv 1) pe_int (fun _ _ => rfl)) (pa_cons (pe_ix ix_list (pv 1) pe_int (fun _ _ => rfl)) (pa_cons (pe_ix ix_list (pv 1) pe_int (fun _ _ => rfl)) pa_nil)))))) pss_nil)
(pss_cons (ps_if (pt_cmpR op_eq (pv 0) pe_int (nomark _)) (pss_one (ps_ret (pe_cls (Cl 15 _ rfl (by decide)) hr2 (pa_cons (pe_ix ix_list (pv 1) pe_int (fun _ _ => rfl)) pa_nil)))) pss_nil)
(pss_cons (ps_if (pt_cmpR op_eq (pv 0) pe_int (nomark _)) (pss_one (ps_ret (pe_cls (Cl 16 _ rfl (by decide)) hr2 (pa_cons (pe_ix ix_list (pv 1) pe_int (fun _ _ => rfl)) pa_nil)))) pss_nil)
(pss_cons (ps_if (pt_cmpR op_eq (pv 0) pe_int (nomark _)) (pss_one (ps_ret (pe_cls (Cl 17 _ rfl (by decide)) hr2 (pa_cons (pe_ix ix_list (pv 1) pe_int (fun _ _ => rfl)) pa_nil)))) pss_nil)
(pss_one (ps_ret (pe_cls (Cl 18 _ rfl (by decide)) hr2 (pa_cons (pe_ix ix_list (pv 1) pe_int (fun _ _ => rfl)) pa_nil)))))))))))))))), ?_⟩
    obtain ⟨i, L, ws, rfl, hi, hL, hl, k⟩ := h
    by_cases c1 : i < 8
    · have e1 : counts i = 1 := (by decide : ∀ i : Nat, i < 8 → counts i = 1) i c1
      rw [e1] at hl
      match ws, hl with
      | [v], _ =>
        refine ⟨_, rfl, _, _, rfl, rfl, _, rfl, ?_⟩
        refine ite2 (fun _ => ?_) (fun c => absurd (decide_eq_true (by omega)) c)
        exact ⟨_, rfl, _, rfl, L, _, _, _, rfl, rfl, SqL.of hL, (by rfl), i, v, rfl, c1, k⟩
    · by_cases c2 : 18 < i
      · have e1 : counts i = 0 := (by decide : ∀ i : Nat, i < 26 → 18 < i → counts i = 0) i hi c2
        rw [e1] at hl
        match ws, hl with
        | [], _ =>
          refine ⟨_, rfl, _, _, rfl, rfl, _, rfl, ?_⟩
          refine ite2 (fun c => absurd (of_decide_eq_true c) (by omega)) (fun _ => ?_)
          refine ⟨_, rfl, _, _, rfl, rfl, _, rfl, ?_⟩
          refine ite2 (fun _ => ?_) (fun c => absurd (decide_eq_true (by omega)) c)
          exact ⟨_, rfl, i, rfl, c2, hi, k⟩
      · rcases (show i = 8 ∨ i = 9 ∨ i = 10 ∨ i = 11 ∨ i = 12 ∨ i = 13 ∨ i = 14 ∨ i = 15 ∨ i = 16 ∨ i = 17 ∨ i = 18 by omega) with rfl | rfl | rfl | rfl | rfl | rfl | rfl | rfl | rfl | rfl | rfl
        · match ws, hl with
          | [v], _ =>
            refine ⟨_, rfl, _, _, rfl, rfl, _, rfl, ?_⟩
            refine ⟨_, rfl, _, _, rfl, rfl, _, rfl, ?_⟩
            refine ⟨_, rfl, rfl, _, rfl, ?_⟩
            refine ⟨_, rfl, L, _, _, _, rfl, rfl, SqL.of hL, (by rfl), rd_mk (Cl 8 _ rfl (by decide)) rfl (by simp) fun e H1 he s1 ex => k e H1 he s1 ex⟩
        · match ws, hl with
          | [v], _ =>
            refine ⟨_, rfl, _, _, rfl, rfl, _, rfl, ?_⟩
            refine ⟨_, rfl, _, _, rfl, rfl, _, rfl, ?_⟩
            refine ⟨_, rfl, rfl, _, rfl, ?_⟩
            refine ⟨_, rfl, rfl, _, rfl, ?_⟩
            refine ⟨_, rfl, L, _, _, _, rfl, rfl, SqL.of hL, (by rfl), rd_mk (Cl 9 _ rfl (by decide)) rfl (by simp) fun e H1 he s1 ex => k e H1 he s1 ex⟩
        · match ws, hl with
          | [v], _ =>
            refine ⟨_, rfl, _, _, rfl, rfl, _, rfl, ?_⟩
            refine ⟨_, rfl, _, _, rfl, rfl, _, rfl, ?_⟩
            refine ⟨_, rfl, rfl, _, rfl, ?_⟩
            refine ⟨_, rfl, rfl, _, rfl, ?_⟩
            refine ⟨_, rfl, rfl, _, rfl, ?_⟩
            refine ⟨_, rfl, L, _, _, _, rfl, rfl, SqL.of hL, (by rfl), rd_mk (Cl 10 _ rfl (by decide)) rfl (by simp) fun e H1 he s1 ex => k e H1 he s1 ex⟩
        · match ws, hl with
          | [v], _ =>
            refine ⟨_, rfl, _, _, rfl, rfl, _, rfl, ?_⟩
            refine ⟨_, rfl, _, _, rfl, rfl, _, rfl, ?_⟩
            refine ⟨_, rfl, rfl, _, rfl, ?_⟩
            refine ⟨_, rfl, rfl, _, rfl, ?_⟩
            refine ⟨_, rfl, rfl, _, rfl, ?_⟩
            refine ⟨_, rfl, rfl, _, rfl, ?_⟩
            refine ⟨_, rfl, L, _, _, _, rfl, rfl, SqL.of hL, (by rfl), rd_mk (Cl 11 _ rfl (by decide)) rfl (by simp) fun e H1 he s1 ex => k e H1 he s1 ex⟩
        · match ws, hl with
          | [v, v2], _ =>
            refine ⟨_, rfl, _, _, rfl, rfl, _, rfl, ?_⟩
            refine ⟨_, rfl, _, _, rfl, rfl, _, rfl, ?_⟩
            refine ⟨_, rfl, rfl, _, rfl, ?_⟩
            refine ⟨_, rfl, rfl, _, rfl, ?_⟩
            refine ⟨_, rfl, rfl, _, rfl, ?_⟩
            refine ⟨_, rfl, rfl, _, rfl, ?_⟩
            refine ⟨_, rfl, rfl, _, rfl, ?_⟩
            refine ⟨_, rfl, L, _, _, _, rfl, rfl, SqL.of hL, (by rfl), _, rfl, L, _, _, _, rfl, rfl, SqL.of hL, (by rfl), rd_mk (Cl 12 _ rfl (by decide)) rfl (by simp) fun e H1 he s1 ex => k e H1 he s1 ex⟩
        · match ws, hl with
          | [v, v2], _ =>
            refine ⟨_, rfl, _, _, rfl, rfl, _, rfl, ?_⟩
            refine ⟨_, rfl, _, _, rfl, rfl, _, rfl, ?_⟩
            refine ⟨_, rfl, rfl, _, rfl, ?_⟩
            refine ⟨_, rfl, rfl, _, rfl, ?_⟩
            refine ⟨_, rfl, rfl, _, rfl, ?_⟩
            refine ⟨_, rfl, rfl, _, rfl, ?_⟩
            refine ⟨_, rfl, rfl, _, rfl, ?_⟩
            refine ⟨_, rfl, rfl, _, rfl, ?_⟩
            refine ⟨_, rfl, L, _, _, _, rfl, rfl, SqL.of hL, (by rfl), _, rfl, L, _, _, _, rfl, rfl, SqL.of hL, (by rfl), rd_mk (Cl 13 _ rfl (by decide)) rfl (by simp) fun e H1 he s1 ex => k e H1 he s1 ex⟩
        · match ws, hl with
          | [v, v2, v3], _ =>
            refine ⟨_, rfl, _, _, rfl, rfl, _, rfl, ?_⟩
            refine ⟨_, rfl, _, _, rfl, rfl, _, rfl, ?_⟩
            refine ⟨_, rfl, rfl, _, rfl, ?_⟩
            refine ⟨_, rfl, rfl, _, rfl, ?_⟩
            refine ⟨_, rfl, rfl, _, rfl, ?_⟩
            refine ⟨_, rfl, rfl, _, rfl, ?_⟩
            refine ⟨_, rfl, rfl, _, rfl, ?_⟩
            refine ⟨_, rfl, rfl, _, rfl, ?_⟩
            refine ⟨_, rfl, rfl, _, rfl, ?_⟩
            refine ⟨_, rfl, L, _, _, _, rfl, rfl, SqL.of hL, (by rfl), _, rfl, L, _, _, _, rfl, rfl, SqL.of hL, (by rfl), _, rfl, L, _, _, _, rfl, rfl, SqL.of hL, (by rfl), rd_mk (Cl 14 _ rfl (by decide)) rfl (by simp) fun e H1 he s1 ex => k e H1 he s1 ex⟩
        · match ws, hl with
          | [v], _ =>
            refine ⟨_, rfl, _, _, rfl, rfl, _, rfl, ?_⟩
            refine ⟨_, rfl, _, _, rfl, rfl, _, rfl, ?_⟩
            refine ⟨_, rfl, rfl, _, rfl, ?_⟩
            refine ⟨_, rfl, rfl, _, rfl, ?_⟩
            refine ⟨_, rfl, rfl, _, rfl, ?_⟩
            refine ⟨_, rfl, rfl, _, rfl, ?_⟩
            refine ⟨_, rfl, rfl, _, rfl, ?_⟩
            refine ⟨_, rfl, rfl, _, rfl, ?_⟩
            refine ⟨_, rfl, rfl, _, rfl, ?_⟩
            refine ⟨_, rfl, rfl, _, rfl, ?_⟩
            refine ⟨_, rfl, L, _, _, _, rfl, rfl, SqL.of hL, (by rfl), rd_mk (Cl 15 _ rfl (by decide)) rfl (by simp) fun e H1 he s1 ex => k e H1 he s1 ex⟩
        · match ws, hl with
          | [v], _ =>
            refine ⟨_, rfl, _, _, rfl, rfl, _, rfl, ?_⟩
            refine ⟨_, rfl, _, _, rfl, rfl, _, rfl, ?_⟩
            refine ⟨_, rfl, rfl, _, rfl, ?_⟩
            refine ⟨_, rfl, rfl, _, rfl, ?_⟩
            refine ⟨_, rfl, rfl, _, rfl, ?_⟩
            refine ⟨_, rfl, rfl, _, rfl, ?_⟩
            refine ⟨_, rfl, rfl, _, rfl, ?_⟩
            refine ⟨_, rfl, rfl, _, rfl, ?_⟩
            refine ⟨_, rfl, rfl, _, rfl, ?_⟩
            refine ⟨_, rfl, rfl, _, rfl, ?_⟩
            refine ⟨_, rfl, rfl, _, rfl, ?_⟩
            refine ⟨_, rfl, L, _, _, _, rfl, rfl, SqL.of hL, (by rfl), rd_mk (Cl 16 _ rfl (by decide)) rfl (by simp) fun e H1 he s1 ex => k e H1 he s1 ex⟩
        · match ws, hl with
          | [v], _ =>
            refine ⟨_, rfl, _, _, rfl, rfl, _, rfl, ?_⟩
            refine ⟨_, rfl, _, _, rfl, rfl, _, rfl, ?_⟩
            refine ⟨_, rfl, rfl, _, rfl, ?_⟩
            refine ⟨_, rfl, rfl, _, rfl, ?_⟩
            refine ⟨_, rfl, rfl, _, rfl, ?_⟩
            refine ⟨_, rfl, rfl, _, rfl, ?_⟩
            refine ⟨_, rfl, rfl, _, rfl, ?_⟩
            refine ⟨_, rfl, rfl, _, rfl, ?_⟩
            refine ⟨_, rfl, rfl, _, rfl, ?_⟩
            refine ⟨_, rfl, rfl, _, rfl, ?_⟩
            refine ⟨_, rfl, rfl, _, rfl, ?_⟩
            refine ⟨_, rfl, rfl, _, rfl, ?_⟩
            refine ⟨_, rfl, L, _, _, _, rfl, rfl, SqL.of hL, (by rfl), rd_mk (Cl 17 _ rfl (by decide)) rfl (by simp) fun e H1 he s1 ex => k e H1 he s1 ex⟩
        · match ws, hl with
          | [v], _ =>
            refine ⟨_, rfl, _, _, rfl, rfl, _, rfl, ?_⟩
            refine ⟨_, rfl, _, _, rfl, rfl, _, rfl, ?_⟩
            refine ⟨_, rfl, rfl, _, rfl, ?_⟩
            refine ⟨_, rfl, rfl, _, rfl, ?_⟩
            refine ⟨_, rfl, rfl, _, rfl, ?_⟩
            refine ⟨_, rfl, rfl, _, rfl, ?_⟩
            refine ⟨_, rfl, rfl, _, rfl, ?_⟩
            refine ⟨_, rfl, rfl, _, rfl, ?_⟩
            refine ⟨_, rfl, rfl, _, rfl, ?_⟩
            refine ⟨_, rfl, rfl, _, rfl, ?_⟩
            refine ⟨_, rfl, rfl, _, rfl, ?_⟩
            refine ⟨_, rfl, rfl, _, rfl, ?_⟩
            refine ⟨_, rfl, L, _, _, _, rfl, rfl, SqL.of hL, (by rfl), rd_mk (Cl 18 _ rfl (by decide)) rfl (by simp) fun e H1 he s1 ex => k e H1 he s1 ex⟩
theorem ok_fields (T : TxtC K mg C B) (S : Stands K mg "_law_fields" s_fields P_fields) : Ok P w K mg base 1 "_law_fields" s_fields P_fields (spFields C) := by
  obtain ⟨f, fd, F, m, b⟩ := S
  refine ⟨f, fd, F, m, b, F.ok sc_fields (fun vs H Q E h => ?_) (fun cdv A outer s H vs Q E hr h => ?_)⟩
  · obtain ⟨i, e, ws, rfl, _⟩ := h
    rfl
  · refine ⟨_, (pss_cons (ps_if (pt_cmpR op_lt (pv 0) pe_int (nomark _)) (pss_one (ps_ret (pe_lst (pa_cons (pe_xa (pv 1)) pa_nil)))) pss_nil)
(pss_cons (ps_if (pt_cmpR op_eq (pv 0) pe_int (nomark _)) (pss_one (ps_ret (pe_lst (pa_cons (pe_xa (pv 1)) pa_nil)))) pss_nil)
(pss_cons (ps_if (pt_cmpR op_eq (pv 0) pe_int (nomark _)) (pss_one (ps_ret (pe_lst (pa_cons (pe_xa (pv 1)) pa_nil)))) pss_nil)
(pss_cons (ps_if (pt_cmpR op_in_seq (pv 0) (pe_tup (pa_cons pe_int (pa_cons pe_int pa_nil))) (by rfl)) (pss_one (ps_ret (pe_lst (pa_cons (pe_xa (pv 1)) pa_nil)))) pss_nil)
(pss_cons (ps_if (pt_cmpR op_eq (pv 0) pe_int (nomark _)) (pss_one (ps_ret (pe_lst (pa_cons (pe_xa (pv 1)) (pa_cons (pe_xa (pv 1)) pa_nil))))) pss_nil)
(pss_cons (ps_if (pt_cmpR op_eq (pv 0) pe_int (nomark _)) (pss_one (ps_ret (pe_lst (pa_cons (pe_xa (pv 1)) (pa_cons (pe_xa (pv 1)) pa_nil))))) pss_nil)
(pss_cons (ps_if (pt_cmpR op_eq (pv 0) pe_int (nomark _)) (pss_one (ps_ret (pe_lst (pa_cons (pe_xa (pv 1)) (pa_cons (pe_xa (pv 1)) (pa_cons (pe_xa (pv 1)) pa_nil)))))) pss_nil)
(pss_cons (ps_if (pt_cmpR op_eq (pv 0) pe_int (nomark _)) (pss_one (ps_ret (pe_lst (pa_cons (pe_xa (pv 1)) pa_nil)))) pss_nil)
(pss_cons (ps_if (pt_cmpR op_eq (pv 0) pe_int (nomark _)) (pss_one (ps_ret (pe_lst (pa_cons (pe_xa (pv 1)) pa_nil)))) pss_nil)
(pss_cons (ps_if (pt_cmpR op_eq (pv 0) pe_int (nomark _)) (pss_one (ps_ret (pe_lst (pa_cons (pe_xa (pv 1)) pa_nil)))) pss_nil)
(pss_cons (ps_if (pt_cmpR op_eq (pv 0) pe_int (nomark _)) (pss_one (ps_ret (pe_lst (pa_cons (pe_xa (pv 1)) pa_nil)))) pss_nil)
(pss_one (ps_ret (pe_lst pa_nil)))))))))))))), ?_⟩
    obtain ⟨i, e, ws, rfl, hi, hE, hl, k⟩ := h
    unfold ErrAt at hE
    by_cases c1 : i < 8
    · have e1 : counts i = 1 := (by decide : ∀ i : Nat, i < 8 → counts i = 1) i c1
      rw [e1] at hl
      match ws, hl with
      | [v], _ =>
        rw [flds_lt c1] at hE
        refine ⟨_, rfl, _, _, rfl, rfl, _, rfl, ?_⟩
        refine ite2 (fun _ => ?_) (fun c => absurd (decide_eq_true (by omega)) c)
        exact ⟨_, rfl, e, C i, _, _, rfl, T.xf i hi, T.nof i hi "name" (by decide +kernel), hE, (by rfl), (by show 1 ≤ sizeLine; decide), fun l hl => k l _ hl (same_new hl) upd_same⟩
    · by_cases c2 : 18 < i
      · have e1 : counts i = 0 := (by decide : ∀ i : Nat, i < 26 → 18 < i → counts i = 0) i hi c2
        rw [e1] at hl
        match ws, hl with
        | [], _ =>
          rcases (show i = 19 ∨ i = 20 ∨ i = 21 ∨ i = 22 ∨ i = 23 ∨ i = 24 ∨ i = 25 by omega) with rfl | rfl | rfl | rfl | rfl | rfl | rfl
          all_goals
            refine ⟨_, rfl, _, _, rfl, rfl, _, rfl, ?_⟩
            iterate 2 refine ⟨_, rfl, rfl, _, rfl, ?_⟩
            refine ⟨_, rfl, (by show 2 ≤ sizeLine; decide), fun t ht => ⟨t, _, rfl, .inr (SqT.of upd_same), rfl, rfl, _, rfl, ?_⟩⟩
            iterate 7 refine ⟨_, rfl, rfl, _, rfl, ?_⟩
            exact ⟨Nat.zero_le _, fun l hl => k l _ (free_new hl) (same_trans (same_new ht) (same_new hl)) upd_same⟩
      · rcases (show i = 8 ∨ i = 9 ∨ i = 10 ∨ i = 11 ∨ i = 12 ∨ i = 13 ∨ i = 14 ∨ i = 15 ∨ i = 16 ∨ i = 17 ∨ i = 18 by omega) with rfl | rfl | rfl | rfl | rfl | rfl | rfl | rfl | rfl | rfl | rfl
        · match ws, hl with
          | [v], _ =>
            refine ⟨_, rfl, _, _, rfl, rfl, _, rfl, ?_⟩
            refine ⟨_, rfl, rfl, _, rfl, ?_⟩
            refine ⟨_, rfl, e, C 8, _, _, rfl, T.xf 8 (by decide), T.nof 8 (by decide) "kind" (by decide +kernel), hE, (by rfl), (by show 1 ≤ sizeLine; decide), fun l hl => k l _ ?_ ?_ upd_same⟩
            · exact hl
            · exact same_new hl
        · match ws, hl with
          | [v], _ =>
            refine ⟨_, rfl, _, _, rfl, rfl, _, rfl, ?_⟩
            refine ⟨_, rfl, rfl, _, rfl, ?_⟩
            refine ⟨_, rfl, rfl, _, rfl, ?_⟩
            refine ⟨_, rfl, e, C 9, _, _, rfl, T.xf 9 (by decide), T.nof 9 (by decide) "index" (by decide +kernel), hE, (by rfl), (by show 1 ≤ sizeLine; decide), fun l hl => k l _ ?_ ?_ upd_same⟩
            · exact hl
            · exact same_new hl
        · match ws, hl with
          | [v], _ =>
            refine ⟨_, rfl, _, _, rfl, rfl, _, rfl, ?_⟩
            refine ⟨_, rfl, rfl, _, rfl, ?_⟩
            refine ⟨_, rfl, rfl, _, rfl, ?_⟩
            refine ⟨_, rfl, (by show 2 ≤ sizeLine; decide), fun t ht => ⟨t, _, rfl, .inr (SqT.of upd_same), rfl, rfl, _, rfl, ?_⟩⟩
            refine ⟨_, rfl, e, C 10, _, _, rfl, T.xf 10 (by decide), T.nof 10 (by decide) "path" (by decide +kernel), (exAt_new ht hE), (by rfl), (by show 1 ≤ sizeLine; decide), fun l hl => k l _ ?_ ?_ upd_same⟩
            · exact free_new hl
            · exact same_trans (same_new ht) (same_new hl)
        · match ws, hl with
          | [v], _ =>
            refine ⟨_, rfl, _, _, rfl, rfl, _, rfl, ?_⟩
            refine ⟨_, rfl, rfl, _, rfl, ?_⟩
            refine ⟨_, rfl, rfl, _, rfl, ?_⟩
            refine ⟨_, rfl, (by show 2 ≤ sizeLine; decide), fun t ht => ⟨t, _, rfl, .inr (SqT.of upd_same), rfl, rfl, _, rfl, ?_⟩⟩
            refine ⟨_, rfl, e, C 11, _, _, rfl, T.xf 11 (by decide), T.nof 11 (by decide) "path" (by decide +kernel), (exAt_new ht hE), (by rfl), (by show 1 ≤ sizeLine; decide), fun l hl => k l _ ?_ ?_ upd_same⟩
            · exact free_new hl
            · exact same_trans (same_new ht) (same_new hl)
        · match ws, hl with
          | [v, v2], _ =>
            refine ⟨_, rfl, _, _, rfl, rfl, _, rfl, ?_⟩
            refine ⟨_, rfl, rfl, _, rfl, ?_⟩
            refine ⟨_, rfl, rfl, _, rfl, ?_⟩
            refine ⟨_, rfl, (by show 2 ≤ sizeLine; decide), fun t ht => ⟨t, _, rfl, .inr (SqT.of upd_same), rfl, rfl, _, rfl, ?_⟩⟩
            refine ⟨_, rfl, rfl, _, rfl, ?_⟩
            refine ⟨_, rfl, e, C 12, _, _, rfl, T.xf 12 (by decide), T.nof 12 (by decide) "path" (by decide +kernel), (exAt_new ht hE), (by rfl), _, rfl, e, C 12, _, _, rfl, T.xf 12 (by decide), T.nof 12 (by decide) "reason" (by decide +kernel), (exAt_new ht hE), (by rfl), (by show 2 ≤ sizeLine; decide), fun l hl => k l _ ?_ ?_ upd_same⟩
            · exact free_new hl
            · exact same_trans (same_new ht) (same_new hl)
        · match ws, hl with
          | [v, v2], _ =>
            refine ⟨_, rfl, _, _, rfl, rfl, _, rfl, ?_⟩
            refine ⟨_, rfl, rfl, _, rfl, ?_⟩
            refine ⟨_, rfl, rfl, _, rfl, ?_⟩
            refine ⟨_, rfl, (by show 2 ≤ sizeLine; decide), fun t ht => ⟨t, _, rfl, .inr (SqT.of upd_same), rfl, rfl, _, rfl, ?_⟩⟩
            refine ⟨_, rfl, rfl, _, rfl, ?_⟩
            refine ⟨_, rfl, rfl, _, rfl, ?_⟩
            refine ⟨_, rfl, e, C 13, _, _, rfl, T.xf 13 (by decide), T.nof 13 (by decide) "path" (by decide +kernel), (exAt_new ht hE), (by rfl), _, rfl, e, C 13, _, _, rfl, T.xf 13 (by decide), T.nof 13 (by decide) "way" (by decide +kernel), (exAt_new ht hE), (by rfl), (by show 2 ≤ sizeLine; decide), fun l hl => k l _ ?_ ?_ upd_same⟩
            · exact free_new hl
            · exact same_trans (same_new ht) (same_new hl)
        · match ws, hl with
          | [v, v2, v3], _ =>
            refine ⟨_, rfl, _, _, rfl, rfl, _, rfl, ?_⟩
            refine ⟨_, rfl, rfl, _, rfl, ?_⟩
            refine ⟨_, rfl, rfl, _, rfl, ?_⟩
            refine ⟨_, rfl, (by show 2 ≤ sizeLine; decide), fun t ht => ⟨t, _, rfl, .inr (SqT.of upd_same), rfl, rfl, _, rfl, ?_⟩⟩
            refine ⟨_, rfl, rfl, _, rfl, ?_⟩
            refine ⟨_, rfl, rfl, _, rfl, ?_⟩
            refine ⟨_, rfl, rfl, _, rfl, ?_⟩
            refine ⟨_, rfl, e, C 14, _, _, rfl, T.xf 14 (by decide), T.nof 14 (by decide) "name" (by decide +kernel), (exAt_new ht hE), (by rfl), _, rfl, e, C 14, _, _, rfl, T.xf 14 (by decide), T.nof 14 (by decide) "make_index" (by decide +kernel), (exAt_new ht hE), (by rfl), _, rfl, e, C 14, _, _, rfl, T.xf 14 (by decide), T.nof 14 (by decide) "open_index" (by decide +kernel), (exAt_new ht hE), (by rfl), (by show 3 ≤ sizeLine; decide), fun l hl => k l _ ?_ ?_ upd_same⟩
            · exact free_new hl
            · exact same_trans (same_new ht) (same_new hl)
        · match ws, hl with
          | [v], _ =>
            refine ⟨_, rfl, _, _, rfl, rfl, _, rfl, ?_⟩
            refine ⟨_, rfl, rfl, _, rfl, ?_⟩
            refine ⟨_, rfl, rfl, _, rfl, ?_⟩
            refine ⟨_, rfl, (by show 2 ≤ sizeLine; decide), fun t ht => ⟨t, _, rfl, .inr (SqT.of upd_same), rfl, rfl, _, rfl, ?_⟩⟩
            refine ⟨_, rfl, rfl, _, rfl, ?_⟩
            refine ⟨_, rfl, rfl, _, rfl, ?_⟩
            refine ⟨_, rfl, rfl, _, rfl, ?_⟩
            refine ⟨_, rfl, rfl, _, rfl, ?_⟩
            refine ⟨_, rfl, e, C 15, _, _, rfl, T.xf 15 (by decide), T.nof 15 (by decide) "reason" (by decide +kernel), (exAt_new ht hE), (by rfl), (by show 1 ≤ sizeLine; decide), fun l hl => k l _ ?_ ?_ upd_same⟩
            · exact free_new hl
            · exact same_trans (same_new ht) (same_new hl)
        · match ws, hl with
          | [v], _ =>
            refine ⟨_, rfl, _, _, rfl, rfl, _, rfl, ?_⟩
            refine ⟨_, rfl, rfl, _, rfl, ?_⟩
            refine ⟨_, rfl, rfl, _, rfl, ?_⟩
            refine ⟨_, rfl, (by show 2 ≤ sizeLine; decide), fun t ht => ⟨t, _, rfl, .inr (SqT.of upd_same), rfl, rfl, _, rfl, ?_⟩⟩
            refine ⟨_, rfl, rfl, _, rfl, ?_⟩
            refine ⟨_, rfl, rfl, _, rfl, ?_⟩
            refine ⟨_, rfl, rfl, _, rfl, ?_⟩
            refine ⟨_, rfl, rfl, _, rfl, ?_⟩
            refine ⟨_, rfl, rfl, _, rfl, ?_⟩
            refine ⟨_, rfl, e, C 16, _, _, rfl, T.xf 16 (by decide), T.nof 16 (by decide) "limit" (by decide +kernel), (exAt_new ht hE), (by rfl), (by show 1 ≤ sizeLine; decide), fun l hl => k l _ ?_ ?_ upd_same⟩
            · exact free_new hl
            · exact same_trans (same_new ht) (same_new hl)
        · match ws, hl with
          | [v], _ =>
            refine ⟨_, rfl, _, _, rfl, rfl, _, rfl, ?_⟩
            refine ⟨_, rfl, rfl, _, rfl, ?_⟩
            refine ⟨_, rfl, rfl, _, rfl, ?_⟩
            refine ⟨_, rfl, (by show 2 ≤ sizeLine; decide), fun t ht => ⟨t, _, rfl, .inr (SqT.of upd_same), rfl, rfl, _, rfl, ?_⟩⟩
            refine ⟨_, rfl, rfl, _, rfl, ?_⟩
            refine ⟨_, rfl, rfl, _, rfl, ?_⟩
            refine ⟨_, rfl, rfl, _, rfl, ?_⟩
            refine ⟨_, rfl, rfl, _, rfl, ?_⟩
            refine ⟨_, rfl, rfl, _, rfl, ?_⟩
            refine ⟨_, rfl, rfl, _, rfl, ?_⟩
            refine ⟨_, rfl, e, C 17, _, _, rfl, T.xf 17 (by decide), T.nof 17 (by decide) "number" (by decide +kernel), (exAt_new ht hE), (by rfl), (by show 1 ≤ sizeLine; decide), fun l hl => k l _ ?_ ?_ upd_same⟩
            · exact free_new hl
            · exact same_trans (same_new ht) (same_new hl)
        · match ws, hl with
          | [v], _ =>
            refine ⟨_, rfl, _, _, rfl, rfl, _, rfl, ?_⟩
            refine ⟨_, rfl, rfl, _, rfl, ?_⟩
            refine ⟨_, rfl, rfl, _, rfl, ?_⟩
            refine ⟨_, rfl, (by show 2 ≤ sizeLine; decide), fun t ht => ⟨t, _, rfl, .inr (SqT.of upd_same), rfl, rfl, _, rfl, ?_⟩⟩
            refine ⟨_, rfl, rfl, _, rfl, ?_⟩
            refine ⟨_, rfl, rfl, _, rfl, ?_⟩
            refine ⟨_, rfl, rfl, _, rfl, ?_⟩
            refine ⟨_, rfl, rfl, _, rfl, ?_⟩
            refine ⟨_, rfl, rfl, _, rfl, ?_⟩
            refine ⟨_, rfl, rfl, _, rfl, ?_⟩
            refine ⟨_, rfl, rfl, _, rfl, ?_⟩
            refine ⟨_, rfl, e, C 18, _, _, rfl, T.xf 18 (by decide), T.nof 18 (by decide) "count" (by decide +kernel), (exAt_new ht hE), (by rfl), (by show 1 ≤ sizeLine; decide), fun l hl => k l _ ?_ ?_ upd_same⟩
            · exact free_new hl
            · exact same_trans (same_new ht) (same_new hl)
theorem ok_marks (T : TxtC K mg C B) (S : Stands K mg "_law_marks" s_marks P_marks) : Ok P w K mg base 1 "_law_marks" s_marks P_marks (spMarks C) := by
  obtain ⟨f, fd, F, m, b⟩ := S
  refine ⟨f, fd, F, m, b, F.ok sc_marks (fun vs H Q E h => ?_) (fun cdv A outer s H vs Q E hr h => ?_)⟩
  · obtain ⟨i, e, ws, rfl, _⟩ := h
    rfl
  · refine ⟨_, (pss_cons (ps_set (i := 1) sc_marks.nd rfl (Or.inl rfl) (pe_lst (pa_cons (pe_callB call_isX (by rfl) T.isinstance (by decide +kernel) (pa_cons (pv 0) (pa_cons (pe_glob (v := .ref (C 0)) (by rfl) (T.m 0 _ rfl) rfl) pa_nil))) (pa_cons (pe_callB call_isX (by rfl) T.isinstance (by decide +kernel) (pa_cons (pv 0) (pa_cons (pe_glob (v := .ref (C 1)) (by rfl) (T.m 1 _ rfl) rfl) pa_nil))) (pa_cons (pe_callB call_isX (by rfl) T.isinstance (by decide +kernel) (pa_cons (pv 0) (pa_cons (pe_glob (v := .ref (C 2)) (by rfl) (T.m 2 _ rfl) rfl) pa_nil))) (pa_cons (pe_callB call_isX (by rfl) T.isinstance (by decide +kernel) (pa_cons (pv 0) (pa_cons (pe_glob (v := .ref (C 3)) (by rfl) (T.m 3 _ rfl) rfl) pa_nil))) pa_nil))))))
(pss_cons (ps_set (i := 1) sc_marks.nd rfl (Or.inl rfl) (pe_op op_cat (pv 1) (pe_lst (pa_cons (pe_callB call_isX (by rfl) T.isinstance (by decide +kernel) (pa_cons (pv 0) (pa_cons (pe_glob (v := .ref (C 4)) (by rfl) (T.m 4 _ rfl) rfl) pa_nil))) (pa_cons (pe_callB call_isX (by rfl) T.isinstance (by decide +kernel) (pa_cons (pv 0) (pa_cons (pe_glob (v := .ref (C 5)) (by rfl) (T.m 5 _ rfl) rfl) pa_nil))) (pa_cons (pe_callB call_isX (by rfl) T.isinstance (by decide +kernel) (pa_cons (pv 0) (pa_cons (pe_glob (v := .ref (C 6)) (by rfl) (T.m 6 _ rfl) rfl) pa_nil))) (pa_cons (pe_callB call_isX (by rfl) T.isinstance (by decide +kernel) (pa_cons (pv 0) (pa_cons (pe_glob (v := .ref (C 7)) (by rfl) (T.m 7 _ rfl) rfl) pa_nil))) pa_nil)))))))
(pss_cons (ps_set (i := 1) sc_marks.nd rfl (Or.inl rfl) (pe_op op_cat (pv 1) (pe_lst (pa_cons (pe_callB call_isX (by rfl) T.isinstance (by decide +kernel) (pa_cons (pv 0) (pa_cons (pe_glob (v := .ref (C 8)) (by rfl) (T.m 8 _ rfl) rfl) pa_nil))) (pa_cons (pe_callB call_isX (by rfl) T.isinstance (by decide +kernel) (pa_cons (pv 0) (pa_cons (pe_glob (v := .ref (C 9)) (by rfl) (T.m 9 _ rfl) rfl) pa_nil))) (pa_cons (pe_callB call_isX (by rfl) T.isinstance (by decide +kernel) (pa_cons (pv 0) (pa_cons (pe_glob (v := .ref (C 10)) (by rfl) (T.m 10 _ rfl) rfl) pa_nil))) (pa_cons (pe_callB call_isX (by rfl) T.isinstance (by decide +kernel) (pa_cons (pv 0) (pa_cons (pe_glob (v := .ref (C 11)) (by rfl) (T.m 11 _ rfl) rfl) pa_nil))) pa_nil)))))))
(pss_cons (ps_set (i := 1) sc_marks.nd rfl (Or.inl rfl) (pe_op op_cat (pv 1) (pe_lst (pa_cons (pe_callB call_isX (by rfl) T.isinstance (by decide +kernel) (pa_cons (pv 0) (pa_cons (pe_glob (v := .ref (C 12)) (by rfl) (T.m 12 _ rfl) rfl) pa_nil))) (pa_cons (pe_callB call_isX (by rfl) T.isinstance (by decide +kernel) (pa_cons (pv 0) (pa_cons (pe_glob (v := .ref (C 13)) (by rfl) (T.m 13 _ rfl) rfl) pa_nil))) (pa_cons (pe_callB call_isX (by rfl) T.isinstance (by decide +kernel) (pa_cons (pv 0) (pa_cons (pe_glob (v := .ref (C 14)) (by rfl) (T.m 14 _ rfl) rfl) pa_nil))) pa_nil))))))
(pss_cons (ps_set (i := 1) sc_marks.nd rfl (Or.inl rfl) (pe_op op_cat (pv 1) (pe_lst (pa_cons (pe_callB call_isX (by rfl) T.isinstance (by decide +kernel) (pa_cons (pv 0) (pa_cons (pe_glob (v := .ref (C 15)) (by rfl) (T.m 15 _ rfl) rfl) pa_nil))) (pa_cons (pe_callB call_isX (by rfl) T.isinstance (by decide +kernel) (pa_cons (pv 0) (pa_cons (pe_glob (v := .ref (C 16)) (by rfl) (T.m 16 _ rfl) rfl) pa_nil))) (pa_cons (pe_callB call_isX (by rfl) T.isinstance (by decide +kernel) (pa_cons (pv 0) (pa_cons (pe_glob (v := .ref (C 17)) (by rfl) (T.m 17 _ rfl) rfl) pa_nil))) pa_nil))))))
(pss_cons (ps_set (i := 1) sc_marks.nd rfl (Or.inl rfl) (pe_op op_cat (pv 1) (pe_lst (pa_cons (pe_callB call_isX (by rfl) T.isinstance (by decide +kernel) (pa_cons (pv 0) (pa_cons (pe_glob (v := .ref (C 18)) (by rfl) (T.m 18 _ rfl) rfl) pa_nil))) (pa_cons (pe_callB call_isX (by rfl) T.isinstance (by decide +kernel) (pa_cons (pv 0) (pa_cons (pe_glob (v := .ref (C 19)) (by rfl) (T.m 19 _ rfl) rfl) pa_nil))) (pa_cons (pe_callB call_isX (by rfl) T.isinstance (by decide +kernel) (pa_cons (pv 0) (pa_cons (pe_glob (v := .ref (C 20)) (by rfl) (T.m 20 _ rfl) rfl) pa_nil))) pa_nil))))))
(pss_cons (ps_set (i := 1) sc_marks.nd rfl (Or.inl rfl) (pe_op op_cat (pv 1) (pe_lst (pa_cons (pe_callB call_isX (by rfl) T.isinstance (by decide +kernel) (pa_cons (pv 0) (pa_cons (pe_glob (v := .ref (C 21)) (by rfl) (T.m 21 _ rfl) rfl) pa_nil))) (pa_cons (pe_callB call_isX (by rfl) T.isinstance (by decide +kernel) (pa_cons (pv 0) (pa_cons (pe_glob (v := .ref (C 22)) (by rfl) (T.m 22 _ rfl) rfl) pa_nil))) (pa_cons (pe_callB call_isX (by rfl) T.isinstance (by decide +kernel) (pa_cons (pv 0) (pa_cons (pe_glob (v := .ref (C 23)) (by rfl) (T.m 23 _ rfl) rfl) pa_nil))) pa_nil))))))
(pss_one (ps_ret (pe_op op_cat (pv 1) (pe_lst (pa_cons (pe_callB call_isX (by rfl) T.isinstance (by decide +kernel) (pa_cons (pv 0) (pa_cons (pe_glob (v := .ref (C 24)) (by rfl) (T.m 24 _ rfl) rfl) pa_nil))) (pa_cons (pe_callB call_isX (by rfl) T.isinstance (by decide +kernel) (pa_cons (pv 0) (pa_cons (pe_glob (v := .ref (C 25)) (by rfl) (T.m 25 _ rfl) rfl) pa_nil))) pa_nil))))))))))))), ?_⟩
    obtain ⟨i, e, ws, rfl, hi, hE, k⟩ := h
    unfold ErrAt at hE
    refine ⟨_, rfl, e, C i, _, _, _, _, rfl, T.ec i hi, hE, (fun _ h => h), T.kit i 0 hi (by decide), _, rfl, e, C i, _, _, _, _, rfl, T.ec i hi, hE, (fun _ h => h), T.kit i 1 hi (by decide), _, rfl, e, C i, _, _, _, _, rfl, T.ec i hi, hE, (fun _ h => h), T.kit i 2 hi (by decide), _, rfl, e, C i, _, _, _, _, rfl, T.ec i hi, hE, (fun _ h => h), T.kit i 3 hi (by decide), (by show 4 ≤ sizeLine; decide), fun l0 hl0 => ?_⟩
    have s0 : Same H (upd H l0 (.lst [V.bl (decide (i = 0)), V.bl (decide (i = 1)), V.bl (decide (i = 2)), V.bl (decide (i = 3))])) := same_new hl0
    have m0 : (upd H l0 (.lst [V.bl (decide (i = 0)), V.bl (decide (i = 1)), V.bl (decide (i = 2)), V.bl (decide (i = 3))])) l0 = some (.lst [V.bl (decide (i = 0)), V.bl (decide (i = 1)), V.bl (decide (i = 2)), V.bl (decide (i = 3))]) := upd_same
    refine ⟨_, rfl, _, rfl, e, C i, _, _, _, _, rfl, T.ec i hi, (exAt_keep s0 hE), (fun _ h => h), T.kit i 4 hi (by decide), _, rfl, e, C i, _, _, _, _, rfl, T.ec i hi, (exAt_keep s0 hE), (fun _ h => h), T.kit i 5 hi (by decide), _, rfl, e, C i, _, _, _, _, rfl, T.ec i hi, (exAt_keep s0 hE), (fun _ h => h), T.kit i 6 hi (by decide), _, rfl, e, C i, _, _, _, _, rfl, T.ec i hi, (exAt_keep s0 hE), (fun _ h => h), T.kit i 7 hi (by decide), (by show 4 ≤ sizeLine; decide), fun q1 hq1 => ?_⟩
    refine ⟨l0, q1, _, _, rfl, rfl, same_new hq1 _ _ m0, upd_same, (by show 4 + 4 ≤ sizeLine; decide), fun l1 hl1 => ?_⟩
    have s1 : Same H (upd (upd (upd H l0 (.lst [V.bl (decide (i = 0)), V.bl (decide (i = 1)), V.bl (decide (i = 2)), V.bl (decide (i = 3))])) q1 (.lst [V.bl (decide (i = 4)), V.bl (decide (i = 5)), V.bl (decide (i = 6)), V.bl (decide (i = 7))])) l1 (.lst ([V.bl (decide (i = 0)), V.bl (decide (i = 1)), V.bl (decide (i = 2)), V.bl (decide (i = 3))] ++ [V.bl (decide (i = 4)), V.bl (decide (i = 5)), V.bl (decide (i = 6)), V.bl (decide (i = 7))]))) := same_trans (same_trans s0 (same_new hq1)) (same_new hl1)
    have m1 : (upd (upd (upd H l0 (.lst [V.bl (decide (i = 0)), V.bl (decide (i = 1)), V.bl (decide (i = 2)), V.bl (decide (i = 3))])) q1 (.lst [V.bl (decide (i = 4)), V.bl (decide (i = 5)), V.bl (decide (i = 6)), V.bl (decide (i = 7))])) l1 (.lst ([V.bl (decide (i = 0)), V.bl (decide (i = 1)), V.bl (decide (i = 2)), V.bl (decide (i = 3))] ++ [V.bl (decide (i = 4)), V.bl (decide (i = 5)), V.bl (decide (i = 6)), V.bl (decide (i = 7))]))) l1 = some (.lst ([V.bl (decide (i = 0)), V.bl (decide (i = 1)), V.bl (decide (i = 2)), V.bl (decide (i = 3))] ++ [V.bl (decide (i = 4)), V.bl (decide (i = 5)), V.bl (decide (i = 6)), V.bl (decide (i = 7))])) := upd_same
    refine ⟨_, rfl, _, rfl, e, C i, _, _, _, _, rfl, T.ec i hi, (exAt_keep s1 hE), (fun _ h => h), T.kit i 8 hi (by decide), _, rfl, e, C i, _, _, _, _, rfl, T.ec i hi, (exAt_keep s1 hE), (fun _ h => h), T.kit i 9 hi (by decide), _, rfl, e, C i, _, _, _, _, rfl, T.ec i hi, (exAt_keep s1 hE), (fun _ h => h), T.kit i 10 hi (by decide), _, rfl, e, C i, _, _, _, _, rfl, T.ec i hi, (exAt_keep s1 hE), (fun _ h => h), T.kit i 11 hi (by decide), (by show 4 ≤ sizeLine; decide), fun q2 hq2 => ?_⟩
    refine ⟨l1, q2, _, _, rfl, rfl, same_new hq2 _ _ m1, upd_same, (by show 8 + 4 ≤ sizeLine; decide), fun l2 hl2 => ?_⟩
    have s2 : Same H (upd (upd (upd (upd (upd H l0 (.lst [V.bl (decide (i = 0)), V.bl (decide (i = 1)), V.bl (decide (i = 2)), V.bl (decide (i = 3))])) q1 (.lst [V.bl (decide (i = 4)), V.bl (decide (i = 5)), V.bl (decide (i = 6)), V.bl (decide (i = 7))])) l1 (.lst ([V.bl (decide (i = 0)), V.bl (decide (i = 1)), V.bl (decide (i = 2)), V.bl (decide (i = 3))] ++ [V.bl (decide (i = 4)), V.bl (decide (i = 5)), V.bl (decide (i = 6)), V.bl (decide (i = 7))]))) q2 (.lst [V.bl (decide (i = 8)), V.bl (decide (i = 9)), V.bl (decide (i = 10)), V.bl (decide (i = 11))])) l2 (.lst (([V.bl (decide (i = 0)), V.bl (decide (i = 1)), V.bl (decide (i = 2)), V.bl (decide (i = 3))] ++ [V.bl (decide (i = 4)), V.bl (decide (i = 5)), V.bl (decide (i = 6)), V.bl (decide (i = 7))]) ++ [V.bl (decide (i = 8)), V.bl (decide (i = 9)), V.bl (decide (i = 10)), V.bl (decide (i = 11))]))) := same_trans (same_trans s1 (same_new hq2)) (same_new hl2)
    have m2 : (upd (upd (upd (upd (upd H l0 (.lst [V.bl (decide (i = 0)), V.bl (decide (i = 1)), V.bl (decide (i = 2)), V.bl (decide (i = 3))])) q1 (.lst [V.bl (decide (i = 4)), V.bl (decide (i = 5)), V.bl (decide (i = 6)), V.bl (decide (i = 7))])) l1 (.lst ([V.bl (decide (i = 0)), V.bl (decide (i = 1)), V.bl (decide (i = 2)), V.bl (decide (i = 3))] ++ [V.bl (decide (i = 4)), V.bl (decide (i = 5)), V.bl (decide (i = 6)), V.bl (decide (i = 7))]))) q2 (.lst [V.bl (decide (i = 8)), V.bl (decide (i = 9)), V.bl (decide (i = 10)), V.bl (decide (i = 11))])) l2 (.lst (([V.bl (decide (i = 0)), V.bl (decide (i = 1)), V.bl (decide (i = 2)), V.bl (decide (i = 3))] ++ [V.bl (decide (i = 4)), V.bl (decide (i = 5)), V.bl (decide (i = 6)), V.bl (decide (i = 7))]) ++ [V.bl (decide (i = 8)), V.bl (decide (i = 9)), V.bl (decide (i = 10)), V.bl (decide (i = 11))]))) l2 = some (.lst (([V.bl (decide (i = 0)), V.bl (decide (i = 1)), V.bl (decide (i = 2)), V.bl (decide (i = 3))] ++ [V.bl (decide (i = 4)), V.bl (decide (i = 5)), V.bl (decide (i = 6)), V.bl (decide (i = 7))]) ++ [V.bl (decide (i = 8)), V.bl (decide (i = 9)), V.bl (decide (i = 10)), V.bl (decide (i = 11))])) := upd_same
    refine ⟨_, rfl, _, rfl, e, C i, _, _, _, _, rfl, T.ec i hi, (exAt_keep s2 hE), (fun _ h => h), T.kit i 12 hi (by decide), _, rfl, e, C i, _, _, _, _, rfl, T.ec i hi, (exAt_keep s2 hE), (fun _ h => h), T.kit i 13 hi (by decide), _, rfl, e, C i, _, _, _, _, rfl, T.ec i hi, (exAt_keep s2 hE), (fun _ h => h), T.kit i 14 hi (by decide), (by show 3 ≤ sizeLine; decide), fun q3 hq3 => ?_⟩
    refine ⟨l2, q3, _, _, rfl, rfl, same_new hq3 _ _ m2, upd_same, (by show 12 + 3 ≤ sizeLine; decide), fun l3 hl3 => ?_⟩
    have s3 : Same H (upd (upd (upd (upd (upd (upd (upd H l0 (.lst [V.bl (decide (i = 0)), V.bl (decide (i = 1)), V.bl (decide (i = 2)), V.bl (decide (i = 3))])) q1 (.lst [V.bl (decide (i = 4)), V.bl (decide (i = 5)), V.bl (decide (i = 6)), V.bl (decide (i = 7))])) l1 (.lst ([V.bl (decide (i = 0)), V.bl (decide (i = 1)), V.bl (decide (i = 2)), V.bl (decide (i = 3))] ++ [V.bl (decide (i = 4)), V.bl (decide (i = 5)), V.bl (decide (i = 6)), V.bl (decide (i = 7))]))) q2 (.lst [V.bl (decide (i = 8)), V.bl (decide (i = 9)), V.bl (decide (i = 10)), V.bl (decide (i = 11))])) l2 (.lst (([V.bl (decide (i = 0)), V.bl (decide (i = 1)), V.bl (decide (i = 2)), V.bl (decide (i = 3))] ++ [V.bl (decide (i = 4)), V.bl (decide (i = 5)), V.bl (decide (i = 6)), V.bl (decide (i = 7))]) ++ [V.bl (decide (i = 8)), V.bl (decide (i = 9)), V.bl (decide (i = 10)), V.bl (decide (i = 11))]))) q3 (.lst [V.bl (decide (i = 12)), V.bl (decide (i = 13)), V.bl (decide (i = 14))])) l3 (.lst ((([V.bl (decide (i = 0)), V.bl (decide (i = 1)), V.bl (decide (i = 2)), V.bl (decide (i = 3))] ++ [V.bl (decide (i = 4)), V.bl (decide (i = 5)), V.bl (decide (i = 6)), V.bl (decide (i = 7))]) ++ [V.bl (decide (i = 8)), V.bl (decide (i = 9)), V.bl (decide (i = 10)), V.bl (decide (i = 11))]) ++ [V.bl (decide (i = 12)), V.bl (decide (i = 13)), V.bl (decide (i = 14))]))) := same_trans (same_trans s2 (same_new hq3)) (same_new hl3)
    have m3 : (upd (upd (upd (upd (upd (upd (upd H l0 (.lst [V.bl (decide (i = 0)), V.bl (decide (i = 1)), V.bl (decide (i = 2)), V.bl (decide (i = 3))])) q1 (.lst [V.bl (decide (i = 4)), V.bl (decide (i = 5)), V.bl (decide (i = 6)), V.bl (decide (i = 7))])) l1 (.lst ([V.bl (decide (i = 0)), V.bl (decide (i = 1)), V.bl (decide (i = 2)), V.bl (decide (i = 3))] ++ [V.bl (decide (i = 4)), V.bl (decide (i = 5)), V.bl (decide (i = 6)), V.bl (decide (i = 7))]))) q2 (.lst [V.bl (decide (i = 8)), V.bl (decide (i = 9)), V.bl (decide (i = 10)), V.bl (decide (i = 11))])) l2 (.lst (([V.bl (decide (i = 0)), V.bl (decide (i = 1)), V.bl (decide (i = 2)), V.bl (decide (i = 3))] ++ [V.bl (decide (i = 4)), V.bl (decide (i = 5)), V.bl (decide (i = 6)), V.bl (decide (i = 7))]) ++ [V.bl (decide (i = 8)), V.bl (decide (i = 9)), V.bl (decide (i = 10)), V.bl (decide (i = 11))]))) q3 (.lst [V.bl (decide (i = 12)), V.bl (decide (i = 13)), V.bl (decide (i = 14))])) l3 (.lst ((([V.bl (decide (i = 0)), V.bl (decide (i = 1)), V.bl (decide (i = 2)), V.bl (decide (i = 3))] ++ [V.bl (decide (i = 4)), V.bl (decide (i = 5)), V.bl (decide (i = 6)), V.bl (decide (i = 7))]) ++ [V.bl (decide (i = 8)), V.bl (decide (i = 9)), V.bl (decide (i = 10)), V.bl (decide (i = 11))]) ++ [V.bl (decide (i = 12)), V.bl (decide (i = 13)), V.bl (decide (i = 14))]))) l3 = some (.lst ((([V.bl (decide (i = 0)), V.bl (decide (i = 1)), V.bl (decide (i = 2)), V.bl (decide (i = 3))] ++ [V.bl (decide (i = 4)), V.bl (decide (i = 5)), V.bl (decide (i = 6)), V.bl (decide (i = 7))]) ++ [V.bl (decide (i = 8)), V.bl (decide (i = 9)), V.bl (decide (i = 10)), V.bl (decide (i = 11))]) ++ [V.bl (decide (i = 12)), V.bl (decide (i = 13)), V.bl (decide (i = 14))])) := upd_same
    refine ⟨_, rfl, _, rfl, e, C i, _, _, _, _, rfl, T.ec i hi, (exAt_keep s3 hE), (fun _ h => h), T.kit i 15 hi (by decide), _, rfl, e, C i, _, _, _, _, rfl, T.ec i hi, (exAt_keep s3 hE), (fun _ h => h), T.kit i 16 hi (by decide), _, rfl, e, C i, _, _, _, _, rfl, T.ec i hi, (exAt_keep s3 hE), (fun _ h => h), T.kit i 17 hi (by decide), (by show 3 ≤ sizeLine; decide), fun q4 hq4 => ?_⟩
    refine ⟨l3, q4, _, _, rfl, rfl, same_new hq4 _ _ m3, upd_same, (by show 15 + 3 ≤ sizeLine; decide), fun l4 hl4 => ?_⟩
    have s4 : Same H (upd (upd (upd (upd (upd (upd (upd (upd (upd H l0 (.lst [V.bl (decide (i = 0)), V.bl (decide (i = 1)), V.bl (decide (i = 2)), V.bl (decide (i = 3))])) q1 (.lst [V.bl (decide (i = 4)), V.bl (decide (i = 5)), V.bl (decide (i = 6)), V.bl (decide (i = 7))])) l1 (.lst ([V.bl (decide (i = 0)), V.bl (decide (i = 1)), V.bl (decide (i = 2)), V.bl (decide (i = 3))] ++ [V.bl (decide (i = 4)), V.bl (decide (i = 5)), V.bl (decide (i = 6)), V.bl (decide (i = 7))]))) q2 (.lst [V.bl (decide (i = 8)), V.bl (decide (i = 9)), V.bl (decide (i = 10)), V.bl (decide (i = 11))])) l2 (.lst (([V.bl (decide (i = 0)), V.bl (decide (i = 1)), V.bl (decide (i = 2)), V.bl (decide (i = 3))] ++ [V.bl (decide (i = 4)), V.bl (decide (i = 5)), V.bl (decide (i = 6)), V.bl (decide (i = 7))]) ++ [V.bl (decide (i = 8)), V.bl (decide (i = 9)), V.bl (decide (i = 10)), V.bl (decide (i = 11))]))) q3 (.lst [V.bl (decide (i = 12)), V.bl (decide (i = 13)), V.bl (decide (i = 14))])) l3 (.lst ((([V.bl (decide (i = 0)), V.bl (decide (i = 1)), V.bl (decide (i = 2)), V.bl (decide (i = 3))] ++ [V.bl (decide (i = 4)), V.bl (decide (i = 5)), V.bl (decide (i = 6)), V.bl (decide (i = 7))]) ++ [V.bl (decide (i = 8)), V.bl (decide (i = 9)), V.bl (decide (i = 10)), V.bl (decide (i = 11))]) ++ [V.bl (decide (i = 12)), V.bl (decide (i = 13)), V.bl (decide (i = 14))]))) q4 (.lst [V.bl (decide (i = 15)), V.bl (decide (i = 16)), V.bl (decide (i = 17))])) l4 (.lst (((([V.bl (decide (i = 0)), V.bl (decide (i = 1)), V.bl (decide (i = 2)), V.bl (decide (i = 3))] ++ [V.bl (decide (i = 4)), V.bl (decide (i = 5)), V.bl (decide (i = 6)), V.bl (decide (i = 7))]) ++ [V.bl (decide (i = 8)), V.bl (decide (i = 9)), V.bl (decide (i = 10)), V.bl (decide (i = 11))]) ++ [V.bl (decide (i = 12)), V.bl (decide (i = 13)), V.bl (decide (i = 14))]) ++ [V.bl (decide (i = 15)), V.bl (decide (i = 16)), V.bl (decide (i = 17))]))) := same_trans (same_trans s3 (same_new hq4)) (same_new hl4)
    have m4 : (upd (upd (upd (upd (upd (upd (upd (upd (upd H l0 (.lst [V.bl (decide (i = 0)), V.bl (decide (i = 1)), V.bl (decide (i = 2)), V.bl (decide (i = 3))])) q1 (.lst [V.bl (decide (i = 4)), V.bl (decide (i = 5)), V.bl (decide (i = 6)), V.bl (decide (i = 7))])) l1 (.lst ([V.bl (decide (i = 0)), V.bl (decide (i = 1)), V.bl (decide (i = 2)), V.bl (decide (i = 3))] ++ [V.bl (decide (i = 4)), V.bl (decide (i = 5)), V.bl (decide (i = 6)), V.bl (decide (i = 7))]))) q2 (.lst [V.bl (decide (i = 8)), V.bl (decide (i = 9)), V.bl (decide (i = 10)), V.bl (decide (i = 11))])) l2 (.lst (([V.bl (decide (i = 0)), V.bl (decide (i = 1)), V.bl (decide (i = 2)), V.bl (decide (i = 3))] ++ [V.bl (decide (i = 4)), V.bl (decide (i = 5)), V.bl (decide (i = 6)), V.bl (decide (i = 7))]) ++ [V.bl (decide (i = 8)), V.bl (decide (i = 9)), V.bl (decide (i = 10)), V.bl (decide (i = 11))]))) q3 (.lst [V.bl (decide (i = 12)), V.bl (decide (i = 13)), V.bl (decide (i = 14))])) l3 (.lst ((([V.bl (decide (i = 0)), V.bl (decide (i = 1)), V.bl (decide (i = 2)), V.bl (decide (i = 3))] ++ [V.bl (decide (i = 4)), V.bl (decide (i = 5)), V.bl (decide (i = 6)), V.bl (decide (i = 7))]) ++ [V.bl (decide (i = 8)), V.bl (decide (i = 9)), V.bl (decide (i = 10)), V.bl (decide (i = 11))]) ++ [V.bl (decide (i = 12)), V.bl (decide (i = 13)), V.bl (decide (i = 14))]))) q4 (.lst [V.bl (decide (i = 15)), V.bl (decide (i = 16)), V.bl (decide (i = 17))])) l4 (.lst (((([V.bl (decide (i = 0)), V.bl (decide (i = 1)), V.bl (decide (i = 2)), V.bl (decide (i = 3))] ++ [V.bl (decide (i = 4)), V.bl (decide (i = 5)), V.bl (decide (i = 6)), V.bl (decide (i = 7))]) ++ [V.bl (decide (i = 8)), V.bl (decide (i = 9)), V.bl (decide (i = 10)), V.bl (decide (i = 11))]) ++ [V.bl (decide (i = 12)), V.bl (decide (i = 13)), V.bl (decide (i = 14))]) ++ [V.bl (decide (i = 15)), V.bl (decide (i = 16)), V.bl (decide (i = 17))]))) l4 = some (.lst (((([V.bl (decide (i = 0)), V.bl (decide (i = 1)), V.bl (decide (i = 2)), V.bl (decide (i = 3))] ++ [V.bl (decide (i = 4)), V.bl (decide (i = 5)), V.bl (decide (i = 6)), V.bl (decide (i = 7))]) ++ [V.bl (decide (i = 8)), V.bl (decide (i = 9)), V.bl (decide (i = 10)), V.bl (decide (i = 11))]) ++ [V.bl (decide (i = 12)), V.bl (decide (i = 13)), V.bl (decide (i = 14))]) ++ [V.bl (decide (i = 15)), V.bl (decide (i = 16)), V.bl (decide (i = 17))])) := upd_same
    refine ⟨_, rfl, _, rfl, e, C i, _, _, _, _, rfl, T.ec i hi, (exAt_keep s4 hE), (fun _ h => h), T.kit i 18 hi (by decide), _, rfl, e, C i, _, _, _, _, rfl, T.ec i hi, (exAt_keep s4 hE), (fun _ h => h), T.kit i 19 hi (by decide), _, rfl, e, C i, _, _, _, _, rfl, T.ec i hi, (exAt_keep s4 hE), (fun _ h => h), T.kit i 20 hi (by decide), (by show 3 ≤ sizeLine; decide), fun q5 hq5 => ?_⟩
    refine ⟨l4, q5, _, _, rfl, rfl, same_new hq5 _ _ m4, upd_same, (by show 18 + 3 ≤ sizeLine; decide), fun l5 hl5 => ?_⟩
    have s5 : Same H (upd (upd (upd (upd (upd (upd (upd (upd (upd (upd (upd H l0 (.lst [V.bl (decide (i = 0)), V.bl (decide (i = 1)), V.bl (decide (i = 2)), V.bl (decide (i = 3))])) q1 (.lst [V.bl (decide (i = 4)), V.bl (decide (i = 5)), V.bl (decide (i = 6)), V.bl (decide (i = 7))])) l1 (.lst ([V.bl (decide (i = 0)), V.bl (decide (i = 1)), V.bl (decide (i = 2)), V.bl (decide (i = 3))] ++ [V.bl (decide (i = 4)), V.bl (decide (i = 5)), V.bl (decide (i = 6)), V.bl (decide (i = 7))]))) q2 (.lst [V.bl (decide (i = 8)), V.bl (decide (i = 9)), V.bl (decide (i = 10)), V.bl (decide (i = 11))])) l2 (.lst (([V.bl (decide (i = 0)), V.bl (decide (i = 1)), V.bl (decide (i = 2)), V.bl (decide (i = 3))] ++ [V.bl (decide (i = 4)), V.bl (decide (i = 5)), V.bl (decide (i = 6)), V.bl (decide (i = 7))]) ++ [V.bl (decide (i = 8)), V.bl (decide (i = 9)), V.bl (decide (i = 10)), V.bl (decide (i = 11))]))) q3 (.lst [V.bl (decide (i = 12)), V.bl (decide (i = 13)), V.bl (decide (i = 14))])) l3 (.lst ((([V.bl (decide (i = 0)), V.bl (decide (i = 1)), V.bl (decide (i = 2)), V.bl (decide (i = 3))] ++ [V.bl (decide (i = 4)), V.bl (decide (i = 5)), V.bl (decide (i = 6)), V.bl (decide (i = 7))]) ++ [V.bl (decide (i = 8)), V.bl (decide (i = 9)), V.bl (decide (i = 10)), V.bl (decide (i = 11))]) ++ [V.bl (decide (i = 12)), V.bl (decide (i = 13)), V.bl (decide (i = 14))]))) q4 (.lst [V.bl (decide (i = 15)), V.bl (decide (i = 16)), V.bl (decide (i = 17))])) l4 (.lst (((([V.bl (decide (i = 0)), V.bl (decide (i = 1)), V.bl (decide (i = 2)), V.bl (decide (i = 3))] ++ [V.bl (decide (i = 4)), V.bl (decide (i = 5)), V.bl (decide (i = 6)), V.bl (decide (i = 7))]) ++ [V.bl (decide (i = 8)), V.bl (decide (i = 9)), V.bl (decide (i = 10)), V.bl (decide (i = 11))]) ++ [V.bl (decide (i = 12)), V.bl (decide (i = 13)), V.bl (decide (i = 14))]) ++ [V.bl (decide (i = 15)), V.bl (decide (i = 16)), V.bl (decide (i = 17))]))) q5 (.lst [V.bl (decide (i = 18)), V.bl (decide (i = 19)), V.bl (decide (i = 20))])) l5 (.lst ((((([V.bl (decide (i = 0)), V.bl (decide (i = 1)), V.bl (decide (i = 2)), V.bl (decide (i = 3))] ++ [V.bl (decide (i = 4)), V.bl (decide (i = 5)), V.bl (decide (i = 6)), V.bl (decide (i = 7))]) ++ [V.bl (decide (i = 8)), V.bl (decide (i = 9)), V.bl (decide (i = 10)), V.bl (decide (i = 11))]) ++ [V.bl (decide (i = 12)), V.bl (decide (i = 13)), V.bl (decide (i = 14))]) ++ [V.bl (decide (i = 15)), V.bl (decide (i = 16)), V.bl (decide (i = 17))]) ++ [V.bl (decide (i = 18)), V.bl (decide (i = 19)), V.bl (decide (i = 20))]))) := same_trans (same_trans s4 (same_new hq5)) (same_new hl5)
    have m5 : (upd (upd (upd (upd (upd (upd (upd (upd (upd (upd (upd H l0 (.lst [V.bl (decide (i = 0)), V.bl (decide (i = 1)), V.bl (decide (i = 2)), V.bl (decide (i = 3))])) q1 (.lst [V.bl (decide (i = 4)), V.bl (decide (i = 5)), V.bl (decide (i = 6)), V.bl (decide (i = 7))])) l1 (.lst ([V.bl (decide (i = 0)), V.bl (decide (i = 1)), V.bl (decide (i = 2)), V.bl (decide (i = 3))] ++ [V.bl (decide (i = 4)), V.bl (decide (i = 5)), V.bl (decide (i = 6)), V.bl (decide (i = 7))]))) q2 (.lst [V.bl (decide (i = 8)), V.bl (decide (i = 9)), V.bl (decide (i = 10)), V.bl (decide (i = 11))])) l2 (.lst (([V.bl (decide (i = 0)), V.bl (decide (i = 1)), V.bl (decide (i = 2)), V.bl (decide (i = 3))] ++ [V.bl (decide (i = 4)), V.bl (decide (i = 5)), V.bl (decide (i = 6)), V.bl (decide (i = 7))]) ++ [V.bl (decide (i = 8)), V.bl (decide (i = 9)), V.bl (decide (i = 10)), V.bl (decide (i = 11))]))) q3 (.lst [V.bl (decide (i = 12)), V.bl (decide (i = 13)), V.bl (decide (i = 14))])) l3 (.lst ((([V.bl (decide (i = 0)), V.bl (decide (i = 1)), V.bl (decide (i = 2)), V.bl (decide (i = 3))] ++ [V.bl (decide (i = 4)), V.bl (decide (i = 5)), V.bl (decide (i = 6)), V.bl (decide (i = 7))]) ++ [V.bl (decide (i = 8)), V.bl (decide (i = 9)), V.bl (decide (i = 10)), V.bl (decide (i = 11))]) ++ [V.bl (decide (i = 12)), V.bl (decide (i = 13)), V.bl (decide (i = 14))]))) q4 (.lst [V.bl (decide (i = 15)), V.bl (decide (i = 16)), V.bl (decide (i = 17))])) l4 (.lst (((([V.bl (decide (i = 0)), V.bl (decide (i = 1)), V.bl (decide (i = 2)), V.bl (decide (i = 3))] ++ [V.bl (decide (i = 4)), V.bl (decide (i = 5)), V.bl (decide (i = 6)), V.bl (decide (i = 7))]) ++ [V.bl (decide (i = 8)), V.bl (decide (i = 9)), V.bl (decide (i = 10)), V.bl (decide (i = 11))]) ++ [V.bl (decide (i = 12)), V.bl (decide (i = 13)), V.bl (decide (i = 14))]) ++ [V.bl (decide (i = 15)), V.bl (decide (i = 16)), V.bl (decide (i = 17))]))) q5 (.lst [V.bl (decide (i = 18)), V.bl (decide (i = 19)), V.bl (decide (i = 20))])) l5 (.lst ((((([V.bl (decide (i = 0)), V.bl (decide (i = 1)), V.bl (decide (i = 2)), V.bl (decide (i = 3))] ++ [V.bl (decide (i = 4)), V.bl (decide (i = 5)), V.bl (decide (i = 6)), V.bl (decide (i = 7))]) ++ [V.bl (decide (i = 8)), V.bl (decide (i = 9)), V.bl (decide (i = 10)), V.bl (decide (i = 11))]) ++ [V.bl (decide (i = 12)), V.bl (decide (i = 13)), V.bl (decide (i = 14))]) ++ [V.bl (decide (i = 15)), V.bl (decide (i = 16)), V.bl (decide (i = 17))]) ++ [V.bl (decide (i = 18)), V.bl (decide (i = 19)), V.bl (decide (i = 20))]))) l5 = some (.lst ((((([V.bl (decide (i = 0)), V.bl (decide (i = 1)), V.bl (decide (i = 2)), V.bl (decide (i = 3))] ++ [V.bl (decide (i = 4)), V.bl (decide (i = 5)), V.bl (decide (i = 6)), V.bl (decide (i = 7))]) ++ [V.bl (decide (i = 8)), V.bl (decide (i = 9)), V.bl (decide (i = 10)), V.bl (decide (i = 11))]) ++ [V.bl (decide (i = 12)), V.bl (decide (i = 13)), V.bl (decide (i = 14))]) ++ [V.bl (decide (i = 15)), V.bl (decide (i = 16)), V.bl (decide (i = 17))]) ++ [V.bl (decide (i = 18)), V.bl (decide (i = 19)), V.bl (decide (i = 20))])) := upd_same
    refine ⟨_, rfl, _, rfl, e, C i, _, _, _, _, rfl, T.ec i hi, (exAt_keep s5 hE), (fun _ h => h), T.kit i 21 hi (by decide), _, rfl, e, C i, _, _, _, _, rfl, T.ec i hi, (exAt_keep s5 hE), (fun _ h => h), T.kit i 22 hi (by decide), _, rfl, e, C i, _, _, _, _, rfl, T.ec i hi, (exAt_keep s5 hE), (fun _ h => h), T.kit i 23 hi (by decide), (by show 3 ≤ sizeLine; decide), fun q6 hq6 => ?_⟩
    refine ⟨l5, q6, _, _, rfl, rfl, same_new hq6 _ _ m5, upd_same, (by show 21 + 3 ≤ sizeLine; decide), fun l6 hl6 => ?_⟩
    have s6 : Same H (upd (upd (upd (upd (upd (upd (upd (upd (upd (upd (upd (upd (upd H l0 (.lst [V.bl (decide (i = 0)), V.bl (decide (i = 1)), V.bl (decide (i = 2)), V.bl (decide (i = 3))])) q1 (.lst [V.bl (decide (i = 4)), V.bl (decide (i = 5)), V.bl (decide (i = 6)), V.bl (decide (i = 7))])) l1 (.lst ([V.bl (decide (i = 0)), V.bl (decide (i = 1)), V.bl (decide (i = 2)), V.bl (decide (i = 3))] ++ [V.bl (decide (i = 4)), V.bl (decide (i = 5)), V.bl (decide (i = 6)), V.bl (decide (i = 7))]))) q2 (.lst [V.bl (decide (i = 8)), V.bl (decide (i = 9)), V.bl (decide (i = 10)), V.bl (decide (i = 11))])) l2 (.lst (([V.bl (decide (i = 0)), V.bl (decide (i = 1)), V.bl (decide (i = 2)), V.bl (decide (i = 3))] ++ [V.bl (decide (i = 4)), V.bl (decide (i = 5)), V.bl (decide (i = 6)), V.bl (decide (i = 7))]) ++ [V.bl (decide (i = 8)), V.bl (decide (i = 9)), V.bl (decide (i = 10)), V.bl (decide (i = 11))]))) q3 (.lst [V.bl (decide (i = 12)), V.bl (decide (i = 13)), V.bl (decide (i = 14))])) l3 (.lst ((([V.bl (decide (i = 0)), V.bl (decide (i = 1)), V.bl (decide (i = 2)), V.bl (decide (i = 3))] ++ [V.bl (decide (i = 4)), V.bl (decide (i = 5)), V.bl (decide (i = 6)), V.bl (decide (i = 7))]) ++ [V.bl (decide (i = 8)), V.bl (decide (i = 9)), V.bl (decide (i = 10)), V.bl (decide (i = 11))]) ++ [V.bl (decide (i = 12)), V.bl (decide (i = 13)), V.bl (decide (i = 14))]))) q4 (.lst [V.bl (decide (i = 15)), V.bl (decide (i = 16)), V.bl (decide (i = 17))])) l4 (.lst (((([V.bl (decide (i = 0)), V.bl (decide (i = 1)), V.bl (decide (i = 2)), V.bl (decide (i = 3))] ++ [V.bl (decide (i = 4)), V.bl (decide (i = 5)), V.bl (decide (i = 6)), V.bl (decide (i = 7))]) ++ [V.bl (decide (i = 8)), V.bl (decide (i = 9)), V.bl (decide (i = 10)), V.bl (decide (i = 11))]) ++ [V.bl (decide (i = 12)), V.bl (decide (i = 13)), V.bl (decide (i = 14))]) ++ [V.bl (decide (i = 15)), V.bl (decide (i = 16)), V.bl (decide (i = 17))]))) q5 (.lst [V.bl (decide (i = 18)), V.bl (decide (i = 19)), V.bl (decide (i = 20))])) l5 (.lst ((((([V.bl (decide (i = 0)), V.bl (decide (i = 1)), V.bl (decide (i = 2)), V.bl (decide (i = 3))] ++ [V.bl (decide (i = 4)), V.bl (decide (i = 5)), V.bl (decide (i = 6)), V.bl (decide (i = 7))]) ++ [V.bl (decide (i = 8)), V.bl (decide (i = 9)), V.bl (decide (i = 10)), V.bl (decide (i = 11))]) ++ [V.bl (decide (i = 12)), V.bl (decide (i = 13)), V.bl (decide (i = 14))]) ++ [V.bl (decide (i = 15)), V.bl (decide (i = 16)), V.bl (decide (i = 17))]) ++ [V.bl (decide (i = 18)), V.bl (decide (i = 19)), V.bl (decide (i = 20))]))) q6 (.lst [V.bl (decide (i = 21)), V.bl (decide (i = 22)), V.bl (decide (i = 23))])) l6 (.lst (((((([V.bl (decide (i = 0)), V.bl (decide (i = 1)), V.bl (decide (i = 2)), V.bl (decide (i = 3))] ++ [V.bl (decide (i = 4)), V.bl (decide (i = 5)), V.bl (decide (i = 6)), V.bl (decide (i = 7))]) ++ [V.bl (decide (i = 8)), V.bl (decide (i = 9)), V.bl (decide (i = 10)), V.bl (decide (i = 11))]) ++ [V.bl (decide (i = 12)), V.bl (decide (i = 13)), V.bl (decide (i = 14))]) ++ [V.bl (decide (i = 15)), V.bl (decide (i = 16)), V.bl (decide (i = 17))]) ++ [V.bl (decide (i = 18)), V.bl (decide (i = 19)), V.bl (decide (i = 20))]) ++ [V.bl (decide (i = 21)), V.bl (decide (i = 22)), V.bl (decide (i = 23))]))) := same_trans (same_trans s5 (same_new hq6)) (same_new hl6)
    have m6 : (upd (upd (upd (upd (upd (upd (upd (upd (upd (upd (upd (upd (upd H l0 (.lst [V.bl (decide (i = 0)), V.bl (decide (i = 1)), V.bl (decide (i = 2)), V.bl (decide (i = 3))])) q1 (.lst [V.bl (decide (i = 4)), V.bl (decide (i = 5)), V.bl (decide (i = 6)), V.bl (decide (i = 7))])) l1 (.lst ([V.bl (decide (i = 0)), V.bl (decide (i = 1)), V.bl (decide (i = 2)), V.bl (decide (i = 3))] ++ [V.bl (decide (i = 4)), V.bl (decide (i = 5)), V.bl (decide (i = 6)), V.bl (decide (i = 7))]))) q2 (.lst [V.bl (decide (i = 8)), V.bl (decide (i = 9)), V.bl (decide (i = 10)), V.bl (decide (i = 11))])) l2 (.lst (([V.bl (decide (i = 0)), V.bl (decide (i = 1)), V.bl (decide (i = 2)), V.bl (decide (i = 3))] ++ [V.bl (decide (i = 4)), V.bl (decide (i = 5)), V.bl (decide (i = 6)), V.bl (decide (i = 7))]) ++ [V.bl (decide (i = 8)), V.bl (decide (i = 9)), V.bl (decide (i = 10)), V.bl (decide (i = 11))]))) q3 (.lst [V.bl (decide (i = 12)), V.bl (decide (i = 13)), V.bl (decide (i = 14))])) l3 (.lst ((([V.bl (decide (i = 0)), V.bl (decide (i = 1)), V.bl (decide (i = 2)), V.bl (decide (i = 3))] ++ [V.bl (decide (i = 4)), V.bl (decide (i = 5)), V.bl (decide (i = 6)), V.bl (decide (i = 7))]) ++ [V.bl (decide (i = 8)), V.bl (decide (i = 9)), V.bl (decide (i = 10)), V.bl (decide (i = 11))]) ++ [V.bl (decide (i = 12)), V.bl (decide (i = 13)), V.bl (decide (i = 14))]))) q4 (.lst [V.bl (decide (i = 15)), V.bl (decide (i = 16)), V.bl (decide (i = 17))])) l4 (.lst (((([V.bl (decide (i = 0)), V.bl (decide (i = 1)), V.bl (decide (i = 2)), V.bl (decide (i = 3))] ++ [V.bl (decide (i = 4)), V.bl (decide (i = 5)), V.bl (decide (i = 6)), V.bl (decide (i = 7))]) ++ [V.bl (decide (i = 8)), V.bl (decide (i = 9)), V.bl (decide (i = 10)), V.bl (decide (i = 11))]) ++ [V.bl (decide (i = 12)), V.bl (decide (i = 13)), V.bl (decide (i = 14))]) ++ [V.bl (decide (i = 15)), V.bl (decide (i = 16)), V.bl (decide (i = 17))]))) q5 (.lst [V.bl (decide (i = 18)), V.bl (decide (i = 19)), V.bl (decide (i = 20))])) l5 (.lst ((((([V.bl (decide (i = 0)), V.bl (decide (i = 1)), V.bl (decide (i = 2)), V.bl (decide (i = 3))] ++ [V.bl (decide (i = 4)), V.bl (decide (i = 5)), V.bl (decide (i = 6)), V.bl (decide (i = 7))]) ++ [V.bl (decide (i = 8)), V.bl (decide (i = 9)), V.bl (decide (i = 10)), V.bl (decide (i = 11))]) ++ [V.bl (decide (i = 12)), V.bl (decide (i = 13)), V.bl (decide (i = 14))]) ++ [V.bl (decide (i = 15)), V.bl (decide (i = 16)), V.bl (decide (i = 17))]) ++ [V.bl (decide (i = 18)), V.bl (decide (i = 19)), V.bl (decide (i = 20))]))) q6 (.lst [V.bl (decide (i = 21)), V.bl (decide (i = 22)), V.bl (decide (i = 23))])) l6 (.lst (((((([V.bl (decide (i = 0)), V.bl (decide (i = 1)), V.bl (decide (i = 2)), V.bl (decide (i = 3))] ++ [V.bl (decide (i = 4)), V.bl (decide (i = 5)), V.bl (decide (i = 6)), V.bl (decide (i = 7))]) ++ [V.bl (decide (i = 8)), V.bl (decide (i = 9)), V.bl (decide (i = 10)), V.bl (decide (i = 11))]) ++ [V.bl (decide (i = 12)), V.bl (decide (i = 13)), V.bl (decide (i = 14))]) ++ [V.bl (decide (i = 15)), V.bl (decide (i = 16)), V.bl (decide (i = 17))]) ++ [V.bl (decide (i = 18)), V.bl (decide (i = 19)), V.bl (decide (i = 20))]) ++ [V.bl (decide (i = 21)), V.bl (decide (i = 22)), V.bl (decide (i = 23))]))) l6 = some (.lst (((((([V.bl (decide (i = 0)), V.bl (decide (i = 1)), V.bl (decide (i = 2)), V.bl (decide (i = 3))] ++ [V.bl (decide (i = 4)), V.bl (decide (i = 5)), V.bl (decide (i = 6)), V.bl (decide (i = 7))]) ++ [V.bl (decide (i = 8)), V.bl (decide (i = 9)), V.bl (decide (i = 10)), V.bl (decide (i = 11))]) ++ [V.bl (decide (i = 12)), V.bl (decide (i = 13)), V.bl (decide (i = 14))]) ++ [V.bl (decide (i = 15)), V.bl (decide (i = 16)), V.bl (decide (i = 17))]) ++ [V.bl (decide (i = 18)), V.bl (decide (i = 19)), V.bl (decide (i = 20))]) ++ [V.bl (decide (i = 21)), V.bl (decide (i = 22)), V.bl (decide (i = 23))])) := upd_same
    refine ⟨_, rfl, _, rfl, e, C i, _, _, _, _, rfl, T.ec i hi, (exAt_keep s6 hE), (fun _ h => h), T.kit i 24 hi (by decide), _, rfl, e, C i, _, _, _, _, rfl, T.ec i hi, (exAt_keep s6 hE), (fun _ h => h), T.kit i 25 hi (by decide), (by show 2 ≤ sizeLine; decide), fun q7 hq7 => ?_⟩
    refine ⟨l6, q7, _, _, rfl, rfl, same_new hq7 _ _ m6, upd_same, (by show 24 + 2 ≤ sizeLine; decide), fun l7 hl7 => ?_⟩
    have s7 : Same H (upd (upd (upd (upd (upd (upd (upd (upd (upd (upd (upd (upd (upd (upd (upd H l0 (.lst [V.bl (decide (i = 0)), V.bl (decide (i = 1)), V.bl (decide (i = 2)), V.bl (decide (i = 3))])) q1 (.lst [V.bl (decide (i = 4)), V.bl (decide (i = 5)), V.bl (decide (i = 6)), V.bl (decide (i = 7))])) l1 (.lst ([V.bl (decide (i = 0)), V.bl (decide (i = 1)), V.bl (decide (i = 2)), V.bl (decide (i = 3))] ++ [V.bl (decide (i = 4)), V.bl (decide (i = 5)), V.bl (decide (i = 6)), V.bl (decide (i = 7))]))) q2 (.lst [V.bl (decide (i = 8)), V.bl (decide (i = 9)), V.bl (decide (i = 10)), V.bl (decide (i = 11))])) l2 (.lst (([V.bl (decide (i = 0)), V.bl (decide (i = 1)), V.bl (decide (i = 2)), V.bl (decide (i = 3))] ++ [V.bl (decide (i = 4)), V.bl (decide (i = 5)), V.bl (decide (i = 6)), V.bl (decide (i = 7))]) ++ [V.bl (decide (i = 8)), V.bl (decide (i = 9)), V.bl (decide (i = 10)), V.bl (decide (i = 11))]))) q3 (.lst [V.bl (decide (i = 12)), V.bl (decide (i = 13)), V.bl (decide (i = 14))])) l3 (.lst ((([V.bl (decide (i = 0)), V.bl (decide (i = 1)), V.bl (decide (i = 2)), V.bl (decide (i = 3))] ++ [V.bl (decide (i = 4)), V.bl (decide (i = 5)), V.bl (decide (i = 6)), V.bl (decide (i = 7))]) ++ [V.bl (decide (i = 8)), V.bl (decide (i = 9)), V.bl (decide (i = 10)), V.bl (decide (i = 11))]) ++ [V.bl (decide (i = 12)), V.bl (decide (i = 13)), V.bl (decide (i = 14))]))) q4 (.lst [V.bl (decide (i = 15)), V.bl (decide (i = 16)), V.bl (decide (i = 17))])) l4 (.lst (((([V.bl (decide (i = 0)), V.bl (decide (i = 1)), V.bl (decide (i = 2)), V.bl (decide (i = 3))] ++ [V.bl (decide (i = 4)), V.bl (decide (i = 5)), V.bl (decide (i = 6)), V.bl (decide (i = 7))]) ++ [V.bl (decide (i = 8)), V.bl (decide (i = 9)), V.bl (decide (i = 10)), V.bl (decide (i = 11))]) ++ [V.bl (decide (i = 12)), V.bl (decide (i = 13)), V.bl (decide (i = 14))]) ++ [V.bl (decide (i = 15)), V.bl (decide (i = 16)), V.bl (decide (i = 17))]))) q5 (.lst [V.bl (decide (i = 18)), V.bl (decide (i = 19)), V.bl (decide (i = 20))])) l5 (.lst ((((([V.bl (decide (i = 0)), V.bl (decide (i = 1)), V.bl (decide (i = 2)), V.bl (decide (i = 3))] ++ [V.bl (decide (i = 4)), V.bl (decide (i = 5)), V.bl (decide (i = 6)), V.bl (decide (i = 7))]) ++ [V.bl (decide (i = 8)), V.bl (decide (i = 9)), V.bl (decide (i = 10)), V.bl (decide (i = 11))]) ++ [V.bl (decide (i = 12)), V.bl (decide (i = 13)), V.bl (decide (i = 14))]) ++ [V.bl (decide (i = 15)), V.bl (decide (i = 16)), V.bl (decide (i = 17))]) ++ [V.bl (decide (i = 18)), V.bl (decide (i = 19)), V.bl (decide (i = 20))]))) q6 (.lst [V.bl (decide (i = 21)), V.bl (decide (i = 22)), V.bl (decide (i = 23))])) l6 (.lst (((((([V.bl (decide (i = 0)), V.bl (decide (i = 1)), V.bl (decide (i = 2)), V.bl (decide (i = 3))] ++ [V.bl (decide (i = 4)), V.bl (decide (i = 5)), V.bl (decide (i = 6)), V.bl (decide (i = 7))]) ++ [V.bl (decide (i = 8)), V.bl (decide (i = 9)), V.bl (decide (i = 10)), V.bl (decide (i = 11))]) ++ [V.bl (decide (i = 12)), V.bl (decide (i = 13)), V.bl (decide (i = 14))]) ++ [V.bl (decide (i = 15)), V.bl (decide (i = 16)), V.bl (decide (i = 17))]) ++ [V.bl (decide (i = 18)), V.bl (decide (i = 19)), V.bl (decide (i = 20))]) ++ [V.bl (decide (i = 21)), V.bl (decide (i = 22)), V.bl (decide (i = 23))]))) q7 (.lst [V.bl (decide (i = 24)), V.bl (decide (i = 25))])) l7 (.lst ((((((([V.bl (decide (i = 0)), V.bl (decide (i = 1)), V.bl (decide (i = 2)), V.bl (decide (i = 3))] ++ [V.bl (decide (i = 4)), V.bl (decide (i = 5)), V.bl (decide (i = 6)), V.bl (decide (i = 7))]) ++ [V.bl (decide (i = 8)), V.bl (decide (i = 9)), V.bl (decide (i = 10)), V.bl (decide (i = 11))]) ++ [V.bl (decide (i = 12)), V.bl (decide (i = 13)), V.bl (decide (i = 14))]) ++ [V.bl (decide (i = 15)), V.bl (decide (i = 16)), V.bl (decide (i = 17))]) ++ [V.bl (decide (i = 18)), V.bl (decide (i = 19)), V.bl (decide (i = 20))]) ++ [V.bl (decide (i = 21)), V.bl (decide (i = 22)), V.bl (decide (i = 23))]) ++ [V.bl (decide (i = 24)), V.bl (decide (i = 25))]))) := same_trans (same_trans s6 (same_new hq7)) (same_new hl7)
    have m7 : (upd (upd (upd (upd (upd (upd (upd (upd (upd (upd (upd (upd (upd (upd (upd H l0 (.lst [V.bl (decide (i = 0)), V.bl (decide (i = 1)), V.bl (decide (i = 2)), V.bl (decide (i = 3))])) q1 (.lst [V.bl (decide (i = 4)), V.bl (decide (i = 5)), V.bl (decide (i = 6)), V.bl (decide (i = 7))])) l1 (.lst ([V.bl (decide (i = 0)), V.bl (decide (i = 1)), V.bl (decide (i = 2)), V.bl (decide (i = 3))] ++ [V.bl (decide (i = 4)), V.bl (decide (i = 5)), V.bl (decide (i = 6)), V.bl (decide (i = 7))]))) q2 (.lst [V.bl (decide (i = 8)), V.bl (decide (i = 9)), V.bl (decide (i = 10)), V.bl (decide (i = 11))])) l2 (.lst (([V.bl (decide (i = 0)), V.bl (decide (i = 1)), V.bl (decide (i = 2)), V.bl (decide (i = 3))] ++ [V.bl (decide (i = 4)), V.bl (decide (i = 5)), V.bl (decide (i = 6)), V.bl (decide (i = 7))]) ++ [V.bl (decide (i = 8)), V.bl (decide (i = 9)), V.bl (decide (i = 10)), V.bl (decide (i = 11))]))) q3 (.lst [V.bl (decide (i = 12)), V.bl (decide (i = 13)), V.bl (decide (i = 14))])) l3 (.lst ((([V.bl (decide (i = 0)), V.bl (decide (i = 1)), V.bl (decide (i = 2)), V.bl (decide (i = 3))] ++ [V.bl (decide (i = 4)), V.bl (decide (i = 5)), V.bl (decide (i = 6)), V.bl (decide (i = 7))]) ++ [V.bl (decide (i = 8)), V.bl (decide (i = 9)), V.bl (decide (i = 10)), V.bl (decide (i = 11))]) ++ [V.bl (decide (i = 12)), V.bl (decide (i = 13)), V.bl (decide (i = 14))]))) q4 (.lst [V.bl (decide (i = 15)), V.bl (decide (i = 16)), V.bl (decide (i = 17))])) l4 (.lst (((([V.bl (decide (i = 0)), V.bl (decide (i = 1)), V.bl (decide (i = 2)), V.bl (decide (i = 3))] ++ [V.bl (decide (i = 4)), V.bl (decide (i = 5)), V.bl (decide (i = 6)), V.bl (decide (i = 7))]) ++ [V.bl (decide (i = 8)), V.bl (decide (i = 9)), V.bl (decide (i = 10)), V.bl (decide (i = 11))]) ++ [V.bl (decide (i = 12)), V.bl (decide (i = 13)), V.bl (decide (i = 14))]) ++ [V.bl (decide (i = 15)), V.bl (decide (i = 16)), V.bl (decide (i = 17))]))) q5 (.lst [V.bl (decide (i = 18)), V.bl (decide (i = 19)), V.bl (decide (i = 20))])) l5 (.lst ((((([V.bl (decide (i = 0)), V.bl (decide (i = 1)), V.bl (decide (i = 2)), V.bl (decide (i = 3))] ++ [V.bl (decide (i = 4)), V.bl (decide (i = 5)), V.bl (decide (i = 6)), V.bl (decide (i = 7))]) ++ [V.bl (decide (i = 8)), V.bl (decide (i = 9)), V.bl (decide (i = 10)), V.bl (decide (i = 11))]) ++ [V.bl (decide (i = 12)), V.bl (decide (i = 13)), V.bl (decide (i = 14))]) ++ [V.bl (decide (i = 15)), V.bl (decide (i = 16)), V.bl (decide (i = 17))]) ++ [V.bl (decide (i = 18)), V.bl (decide (i = 19)), V.bl (decide (i = 20))]))) q6 (.lst [V.bl (decide (i = 21)), V.bl (decide (i = 22)), V.bl (decide (i = 23))])) l6 (.lst (((((([V.bl (decide (i = 0)), V.bl (decide (i = 1)), V.bl (decide (i = 2)), V.bl (decide (i = 3))] ++ [V.bl (decide (i = 4)), V.bl (decide (i = 5)), V.bl (decide (i = 6)), V.bl (decide (i = 7))]) ++ [V.bl (decide (i = 8)), V.bl (decide (i = 9)), V.bl (decide (i = 10)), V.bl (decide (i = 11))]) ++ [V.bl (decide (i = 12)), V.bl (decide (i = 13)), V.bl (decide (i = 14))]) ++ [V.bl (decide (i = 15)), V.bl (decide (i = 16)), V.bl (decide (i = 17))]) ++ [V.bl (decide (i = 18)), V.bl (decide (i = 19)), V.bl (decide (i = 20))]) ++ [V.bl (decide (i = 21)), V.bl (decide (i = 22)), V.bl (decide (i = 23))]))) q7 (.lst [V.bl (decide (i = 24)), V.bl (decide (i = 25))])) l7 (.lst ((((((([V.bl (decide (i = 0)), V.bl (decide (i = 1)), V.bl (decide (i = 2)), V.bl (decide (i = 3))] ++ [V.bl (decide (i = 4)), V.bl (decide (i = 5)), V.bl (decide (i = 6)), V.bl (decide (i = 7))]) ++ [V.bl (decide (i = 8)), V.bl (decide (i = 9)), V.bl (decide (i = 10)), V.bl (decide (i = 11))]) ++ [V.bl (decide (i = 12)), V.bl (decide (i = 13)), V.bl (decide (i = 14))]) ++ [V.bl (decide (i = 15)), V.bl (decide (i = 16)), V.bl (decide (i = 17))]) ++ [V.bl (decide (i = 18)), V.bl (decide (i = 19)), V.bl (decide (i = 20))]) ++ [V.bl (decide (i = 21)), V.bl (decide (i = 22)), V.bl (decide (i = 23))]) ++ [V.bl (decide (i = 24)), V.bl (decide (i = 25))]))) l7 = some (.lst ((((((([V.bl (decide (i = 0)), V.bl (decide (i = 1)), V.bl (decide (i = 2)), V.bl (decide (i = 3))] ++ [V.bl (decide (i = 4)), V.bl (decide (i = 5)), V.bl (decide (i = 6)), V.bl (decide (i = 7))]) ++ [V.bl (decide (i = 8)), V.bl (decide (i = 9)), V.bl (decide (i = 10)), V.bl (decide (i = 11))]) ++ [V.bl (decide (i = 12)), V.bl (decide (i = 13)), V.bl (decide (i = 14))]) ++ [V.bl (decide (i = 15)), V.bl (decide (i = 16)), V.bl (decide (i = 17))]) ++ [V.bl (decide (i = 18)), V.bl (decide (i = 19)), V.bl (decide (i = 20))]) ++ [V.bl (decide (i = 21)), V.bl (decide (i = 22)), V.bl (decide (i = 23))]) ++ [V.bl (decide (i = 24)), V.bl (decide (i = 25))])) := upd_same
    exact k l7 _ (s6.free (free_new hl7)) s7 m7
end
end K65
set_option Elab.async false
set_option linter.all false
set_option maxRecDepth 100000
set_option maxHeartbeats 4000000
namespace K65
open PySem PySem.Spec PyProof.Rows L2 ExObj GuardFn
theorem bools_lay : ∀ bs : List Bool, PyData.canLayAll0 (bs.map .bool) = true ∧ PyData.depthAll (bs.map .bool) = 0
  | [] => ⟨by simp [PyData.canLayAll0], by simp [PyData.depthAll]⟩
  | b :: bs => by
    obtain ⟨h1, h2⟩ := bools_lay bs
    exact ⟨by simp only [List.map_cons, PyData.canLayAll0, PyData.canLay0, h1, Bool.and_self], by simp only [List.map_cons, PyData.depthAll, PyData.depth, h2, Nat.max_self]⟩
theorem bools_shaped (bs : List Bool) : PyData.canLay0 (.list (bs.map .bool)) = true ∧ SeqAt.shaped (.list (bs.map .bool)) = true := by
  obtain ⟨h1, h2⟩ := bools_lay bs
  have c : PyData.canLay0 (.list (bs.map .bool)) = true := by simp only [PyData.canLay0, h1]
  refine ⟨c, ?_⟩
  unfold SeqAt.shaped
  rw [c, decide_eq_true (show PyData.depth (.list (bs.map .bool)) ≤ 64 by simp only [PyData.depth, h2]; omega)]; rfl
theorem dp_bools {K : PySem.W.Frag} {H : Hp} : ∀ bs : List Bool, DpAll K H (bs.map V.bl) (bs.map PyData.bool)
  | [] => .nil
  | b :: bs => .cons (.bl b) (dp_bools bs)
def marksOf (i n : Nat) : List Bool := (List.range n).map fun j => decide (i = j)
theorem marks_v (i : Nat) : ((List.range 26).map fun j => V.bl (decide (i = j))) = (marksOf i 26).map V.bl := by
  unfold marksOf
  rw [List.map_map]
  rfl
theorem mark_eq (i k : Nat) : decide (V.int (0 + (k : Int)) = V.int (i : Int)) = decide (i = k) := by
  by_cases h : i = k
  · subst h
    rw [decide_eq_true rfl, Int.zero_add]
    exact decide_eq_true rfl
  · rw [decide_eq_false h]
    refine decide_eq_false fun z => h ?_
    injection z with z
    omega
theorem good_same {H H' : Hp} {v : V} (s : Same H H') (h : GoodV H v) : GoodV H' v := by
  rcases h with h | h | ⟨t, ns, rfl, e, h1, h2⟩
  · exact .inl h
  · exact .inr (.inl h)
  · exact .inr (.inr ⟨t, ns, rfl, s _ _ e, h1, h2⟩)
section
variable {P : Program} {w : World} {K : PySem.W.Frag} {mg : Str → Option Value} {base : Heap} {C : Nat → Addr} {B : Addr}
theorem ok_due (T : TxtC K mg C B) {f : Addr} {fd : FuncData} (F : Fun K "_law_is_due" "_law_is_due" s_is_due f fd) (O_marks : Ok P w K mg base 1 "_law_marks" s_marks P_marks (spMarks C))
    (O_fields : Ok P w K mg base 1 "_law_fields" s_fields P_fields (spFields C)) : FnG P w K mg base 2 f fd P_is_due (spDue C) := by
  refine okG F sc_is_due (fun vs H Q E h => ?_) (fun cdv A outer s H vs Q E hgd hr h => ?_)
  · obtain ⟨i, e, L, ws, rfl, _⟩ := h
    rfl
  · have hr_marks : Room 1 _ := hr
    have hr_fields : Room 1 _ := hr
    refine ⟨_, (pss_cons (ps_if (PW.pt (pw_or (pt_not (pt_val (pe_callB call_isX (by rfl) T.isinstance (by decide +kernel) (pa_cons (pv 1) (pa_cons (pe_glob (v := .ref B) (by rfl) T.mB rfl) pa_nil))))) (pw_or1 (pt_not (pt_val (pe_callB call_isX (by rfl) T.isinstance (by decide +kernel) (pa_cons (pv 1) (pa_cons (pe_bltn (v := .ty "ValueError") (by rfl) T.mV (by decide +kernel) rfl) pa_nil)))))))) (pss_one (ps_ret pe_bl)) pss_nil)
(pss_cons (ps_if (pt_cmpR (op_neD hr.units) (pe_own O_marks hr_marks (pa_cons (pv 1) pa_nil)) (pe_lc (own := [("_law_k", 4)]) (g := (gName 4)) (tt := tYes) (by rfl) sc_is_due.nd (pi_range1 (by rfl) T.range (pa_cons pe_int pa_nil)) (blkOk_by (own := [("_law_k", 4)]) (N := N_is_due) (sc := defScope s_is_due) (by decide +kernel)) (fun _ _ _ _ _ => pg_name (i := 4) sc_is_due.nd rfl (Or.inl rfl)) (fun _ _ _ _ _ => pts_nil) (fun _ _ _ _ _ => (pe_cmpR op_eq (pv 4) (pv 0) (nomark _)))) (nomark _)) (pss_one (ps_ret pe_bl)) pss_nil)
(pss_cons (ps_set (i := 3) sc_is_due.nd rfl (Or.inl rfl) (pe_own O_fields hr_fields (pa_cons (pv 0) (pa_cons (pv 1) pa_nil))))
(pss_one (ps_ret (pe_and (pe_cmpR (op_eqD hr.units) (pv 3) (pv 2) (nomark _)) (pe_one (pe_cmpR op_eq (pe_callB (call_reprD hr.units hgd) (by rfl) T.repr (by decide +kernel) (pa_cons (pv 3) pa_nil)) (pe_callB (call_reprD hr.units hgd) (by rfl) T.repr (by decide +kernel) (pa_cons (pv 2) pa_nil)) (nomark _))))))))), ?_⟩
    obtain ⟨i, e, L, ws, rfl, hi, hE, hl, hL, hg, k⟩ := h
    have hE' : ExcAt H e (C i) ((flds i).zip ws).reverse := hE
    refine ⟨_, rfl, e, C i, _, _, _, _, rfl, T.ec i hi, hE', (fun _ h => h), T.kB i hi, true, rfl, ?_⟩
    refine ⟨_, rfl, e, C i, _, _, _, _, rfl, T.ec i hi, hE', (fun _ h => h), T.kV i hi, true, rfl, ?_⟩
    -- the marks
    refine ⟨_, rfl, i, e, ws, rfl, hi, hE, fun L1 H1 hL1 s1 m1 => ?_⟩
    refine ⟨26, rfl, by decide, by decide, fun D hD => ?_⟩
    refine lc_range (lo := 0) (n := 26) (fun j H' => Same H1 H' ∧ H' D = some (.lst ((marksOf i j).map V.bl))) ⟨same_new hD, upd_same⟩ ?_ ?_
    · rintro j H2 hj ⟨s2, m2⟩
      refine ⟨rfl, _, rfl, _, rfl, rfl, _, m2, ?_, ?_, ?_⟩
      · unfold marksOf
        rw [List.length_map, List.length_map, List.length_range, sizeLine_eq]
        omega
      · intro b o hb
        by_cases hbD : b = D
        · rw [hbD, hD] at hb
          cases hb
        · rw [upd_ne hbD]
          exact s2 b o hb
      · rw [upd_same]
        unfold marksOf
        rw [List.range_succ, List.map_append, List.map_append]
        show some (HO.lst (_ ++ [V.bl (decide (V.int (0 + (j : Int)) = V.int (i : Int)))])) = _
        rw [mark_eq]
        rfl
    · rintro H2 ⟨s2, m2⟩
      rw [marks_v] at m1
      obtain ⟨hc, hsh⟩ := bools_shaped (marksOf i 26)
      refine ⟨_, _, .lst (SqL.of (s2 _ _ m1)) (dp_bools _), .lst (SqL.of m2) (dp_bools _), hsh, hsh, _, rfl, ?_⟩
      rw [SeqAt.eqv_refl _ hc]
      -- the fields
      have s02 : Same H H2 := same_trans s1 s2
      refine ⟨_, rfl, _, rfl, i, e, ws, rfl, hi, exAt_keep s02 hE', hl, fun L2 H3 hL2 s3 m3 => ?_⟩
      have s03 := same_trans s02 s3
      have good3 : ∀ v ∈ ws, GoodV H3 v := fun v hv => good_same s03 (hg v hv)
      obtain ⟨ds, hd, hp, hn⟩ := goods_dp (K := K) good3
      have hn3 : ds.length ≤ 3 := by
        rw [hn, hl]
        exact (by decide : ∀ i : Nat, i < 26 → counts i ≤ 3) i hi
      have pl := plainL hp hn3
      have d1 : Dp K H3 (.ref L2) (.list ds) := .lst (SqL.of m3) hd
      have d2 : Dp K H3 (.ref L) (.list ds) := .lst (SqL.of (s03 _ _ hL)) hd
      refine ⟨_, rfl, _, rfl, _, _, d1, d2, pl.shp, pl.shp, _, rfl, ?_⟩
      rw [pl.self]
      refine ⟨_, rfl, L2, _, rfl, d1, pl.sw, pl.nd, pl.dep, pl.len, _, rfl, L, _, rfl, d2, pl.sw, pl.nd, pl.dep, pl.len, rfl, ?_⟩
      have e1 : decide (V.str (PyData.list ds).shown = V.str (PyData.list ds).shown) = true := decide_eq_true rfl
      rw [e1]
      exact k _ s03
end
end K65
set_option Elab.async false
set_option linter.all false
set_option maxRecDepth 100000
set_option maxHeartbeats 4000000
namespace K65
open PySem PySem.Spec PyProof.Rows L2 ExObj GuardFn
section
variable {P : Program} {w : World} {K : PySem.W.Frag} {mg : Str → Option Value} {base : Heap} {C : Nat → Addr} {B : Addr}
theorem ok_law (T : TxtC K mg C B) {f fD : Addr} {fd fdD : FuncData} (F : Fun K "law" "law" s_law f fd) (FD : Fun K "_law_is_due" "_law_is_due" s_is_due fD fdD) (mD : mg "_law_is_due" = some (.ref fD)) (bD : Binds K fdD P_is_due [])
    (GD : FnG P w K mg base 2 fD fdD P_is_due (spDue C)) (O_pool : Ok P w K mg base 2 "_law_pool" s_pool P_pool (spPool K)) (O_values : Ok P w K mg base 4 "_law_values" s_values P_values spValues)
    (O_made : Ok P w K mg base 4 "_law_made" s_made P_made (spMade C)) : FnG P w K mg base 5 f fd P_law (spLaw K) := by
  refine okG F sc_law (fun vs H Q E h => ?_) (fun cdv A outer s H vs Q E hgd hr h => ?_)
  · obtain ⟨a, ns, rfl, _⟩ := h
    rfl
  · have hr_is_due : Room 2 _ := hr.mono (by decide)
    have hr_pool : Room 2 _ := hr.mono (by decide)
    have hr_values : Room 4 _ := hr
    have hr_made : Room 4 _ := hr
    refine ⟨_, (pss_cons (ps_set (i := 1) sc_law.nd rfl (Or.inl rfl) (pe_own O_pool hr_pool (pa_cons (pv 0) (pa_cons pe_int pa_nil))))
(pss_cons (ps_for PassesOwn.never rfl (pi_range1 (by rfl) T.range (pa_cons pe_int pa_nil)) (pg_name (i := 2) sc_law.nd rfl (Or.inl rfl)) (pss_cons (ps_set (i := 3) sc_law.nd rfl (Or.inl rfl) (pe_own O_values hr_values (pa_cons (pv 1) (pa_cons (pv 2) pa_nil))))
(pss_cons (ps_set (i := 4) sc_law.nd rfl (Or.inl rfl) (pe_own O_made hr_made (pa_cons (pv 2) (pa_cons (pv 3) pa_nil))))
(pss_cons (ps_if (pt_not (pt_val (pe_callG GD hgd hr_is_due (by rfl) mD FD.kp bD (pa_cons (pv 2) (pa_cons (pv 4) (pa_cons (pv 3) pa_nil)))))) (pss_one (ps_ret pe_bl)) pss_nil)
(pss_cons (ps_set (i := 5) sc_law.nd rfl (Or.inl rfl) (pe_own O_values hr_values (pa_cons (pv 1) (pa_cons (pv 2) pa_nil))))
(pss_one (ps_if (PW.pt (pw_or (pt_not (pt_val (pe_callG GD hgd hr_is_due (by rfl) mD FD.kp bD (pa_cons (pv 2) (pa_cons (pe_own O_made hr_made (pa_cons (pv 2) (pa_cons (pv 5) pa_nil))) (pa_cons (pv 5) pa_nil)))))) (pw_or1 (pt_not (pt_val (pe_callG GD hgd hr_is_due (by rfl) mD FD.kp bD (pa_cons (pv 2) (pa_cons (pv 4) (pa_cons (pv 3) pa_nil))))))))) (pss_one (ps_ret pe_bl)) pss_nil)))))))
(pss_one (ps_ret pe_bl)))), ?_⟩
    obtain ⟨a, ns, rfl, hS, hl0, k⟩ := h
    refine ⟨_, rfl, a, ns, rfl, hS, hl0, fun p H1 s1 hp => ?_⟩
    refine ⟨26, rfl, by decide, by decide, ?_⟩
    refine for_range (lo := 0) (n := 26) (fun j σ H' => ∃ v2 v3 v4 v5 : Option V, σ = [some (.ref a), some (.ref p), v2, v3, v4, v5] ∧ Pool H' p) ⟨none, none, none, none, rfl, hp⟩ ?_ ?_
    · rintro j σ H2 hj ⟨v2, v3, v4, v5, rfl, p2⟩
      rw [Int.zero_add]
      have hj' : j < 26 := hj
      -- values, the error, is it due
      refine ⟨_, rfl, _, rfl, p, j, rfl, hj', p2, fun L ws H3 nL hL hl good b3 p3 => ?_⟩
      refine ⟨_, rfl, _, rfl, j, L, ws, rfl, hj', hL, hl, fun e H4 he s4 ex => ?_⟩
      refine ⟨_, rfl, _, rfl, _, rfl, j, e, L, ws, rfl, hj', ex, hl, s4 _ _ hL, fun v hv => good_same s4 (good v hv), fun H5 s5 => ⟨true, rfl, ?_⟩⟩
      have p5 : Pool H5 p := (p3.keep s4).keep s5
      -- other values, another error
      refine ⟨_, rfl, _, rfl, p, j, rfl, hj', p5, fun L2 ws2 H6 nL2 hL2 hl2 good2 b6 p6 => ?_⟩
      refine ⟨_, rfl, _, rfl, _, rfl, j, L2, ws2, rfl, hj', hL2, hl2, fun e2 H7 he2 s7 ex2 => ?_⟩
      refine ⟨_, rfl, j, e2, L2, ws2, rfl, hj', ex2, hl2, s7 _ _ hL2, fun v hv => good_same s7 (good2 v hv), fun H8 s8 => ⟨true, rfl, ?_⟩⟩
      -- the first one again
      have ex5 : ErrAt C H5 e j ws := exAt_keep s5 ex
      have ex6 : ErrAt C H6 e j ws := exAt_but p5 b6 ex5
      have hL6 : H6 L = some (.lst ws) := b6 L _ nL (s5 _ _ (s4 _ _ hL))
      have g6 : ∀ v ∈ ws, GoodV H6 v := fun v hv => (good_same s5 (good_same s4 (good v hv))).keep p5 b6
      have s68 := same_trans s7 s8
      refine ⟨_, rfl, _, rfl, _, rfl, j, e, L, ws, rfl, hj', exAt_keep s68 ex6, hl, s68 _ _ hL6, fun v hv => good_same s68 (g6 v hv), fun H9 s9 => ⟨true, rfl, ?_⟩⟩
      exact ⟨_, _, _, _, rfl, (p6.keep s68).keep s9⟩
    · rintro σ H2 ⟨v2, v3, v4, v5, rfl, p2⟩
      exact k _
end
/-- all the text has to say, and the law's promise -/
theorem all_law {P : Program} {w : World} {K : PySem.W.Frag} {mg : Str → Option Value} {base : Heap} {C : Nat → Addr} {B : Addr} (TA : TxtA K mg) (T : TxtC K mg C B) (Cl : ∀ i x, Names[i]? = some x → i < 19 → ClsOk P w K mg base x (C i) (flds i))
    (S1 : Stands K mg "_law_cell" s_cell P_cell) (S2 : Stands K mg "_law_pool" s_pool P_pool) (S3 : Stands K mg "_law_next" s_next P_next) (S4 : Stands K mg "_law_text" s_text P_text) (S5 : Stands K mg "_law_number" s_number P_number)
    (S6 : Stands K mg "_law_path" s_path P_path) (S7 : Stands K mg "_law_kind" s_kind P_kind) (S8 : Stands K mg "_law_values" s_values P_values) (S9 : Stands K mg "_law_named" s_named P_named) (S10 : Stands K mg "_law_plain" s_plain P_plain)
    (S11 : Stands K mg "_law_made" s_made P_made) (S12 : Stands K mg "_law_fields" s_fields P_fields) (S13 : Stands K mg "_law_marks" s_marks P_marks) (S14 : Stands K mg "_law_is_due" s_is_due P_is_due) {f : Addr} {fd : FuncData} (F : Fun K "law" "law" s_law f fd) :
    FnG P w K mg base 5 f fd P_law (spLaw K) := by
  have O3 := ok_next (P := P) (w := w) (base := base) TA S3
  have O4 := ok_text TA S4 O3
  have O5 := ok_number S5 O3
  have O6 := ok_path TA S6 O3
  have O8 := ok_values TA S8 O4 O5 O6 (ok_kind S7 O3 O4 O5)
  have O11 := ok_made T Cl S11 (ok_named Cl S9) (ok_plain T S10)
  obtain ⟨fD, fdD, FD, mD, bD⟩ := S14
  exact ok_law T F FD mD bD (ok_due T FD (ok_marks T S13) (ok_fields T S12)) (ok_pool TA S2 (ok_cell TA S1)) O8 O11
end K65
set_option Elab.async false
set_option linter.all false
set_option maxRecDepth 100000
set_option maxHeartbeats 4000000
namespace K65
open PySem PySem.Spec PyProof.Rows L2 ExObj GuardFn
def fieldNames : List Str := ["name", "kind", "index", "path", "reason", "way", "make_index", "open_index", "limit", "number", "count"]
/-- one class: what isinstance, the fields and the making ask -/
def chk1 (K : PySem.W.Frag) (D : Addr) : Bool :=
  decide (PySem.W.findIn K (.ref D) "__getattribute__" = some (some (.builtin "BaseException.__getattribute__"))) && (decide (PySem.W.findIn K (.ref D) "__getattr__" = some none) && (decide (PySem.W.subIn K (.ref D) (.type "BaseException") = some true) &&
  (PySem.W.hasDictIn K D && (decide (PySem.W.findIn K (.ref D) "__class__" = some (some (.builtin "object.__class__"))) && (decide (PySem.W.specialIn K (.builtin "object.__class__") "__get__" = some (some (.builtin "getset_descriptor.__get__"))) &&
  (decide (PySem.W.takesIn K (.builtin "object.__class__") = some true) && (decide (PySem.W.mroIn K D (.type "object") = some true) && (decide (PySem.W.findIn K (.ref D) "__setattr__" = some (some (.builtin "object.__setattr__"))) &&
  (decide (PySem.W.typeIn K (.ref D) = some (.type "type")) && (PySem.W.keepIn K (.ref D) && (fieldNames.all fun f => decide (PySem.W.findIn K (.ref D) f = some none))))))))))))
def chk2 (K : PySem.W.Frag) (Cs : List Addr) (B : Addr) (i : Nat) : Bool :=
  decide (PySem.W.kitOne K (.ref (Cs.getD i 0)) (.ref B) = some true) && (decide (PySem.W.kitOne K (.ref (Cs.getD i 0)) (.type "ValueError") = some true) && ((List.range 26).all fun j => decide (PySem.W.kitOne K (.ref (Cs.getD i 0)) (.ref (Cs.getD j 0)) = some (decide (i = j)))))
def chk (K : PySem.W.Frag) (Cs : List Addr) (B : Addr) : Bool :=
  (List.range 26).all fun i => chk1 K (Cs.getD i 0) && (chk2 K Cs B i && (decide (i < 19) || PySem.W.excIn K (Cs.getD i 0) [.type "ValueError", .type "Exception", .type "BaseException", .type "object"] "ValueError.__new__"))
structure Chk1 (K : PySem.W.Frag) (D : Addr) : Prop where
  ec : ExcC K D
  xf : XfC K D
  sa : PySem.W.findIn K (.ref D) "__setattr__" = some (some (.builtin "object.__setattr__"))
  ty : PySem.W.typeIn K (.ref D) = some (.type "type")
  kp : PySem.W.keepIn K (.ref D) = true
  no : ∀ f ∈ fieldNames, PySem.W.findIn K (.ref D) f = some none
theorem chk1_ok {K : PySem.W.Frag} {D : Addr} (h : chk1 K D = true) : Chk1 K D := by
  unfold chk1 at h
  simp only [Bool.and_eq_true, decide_eq_true_eq, List.all_eq_true] at h
  obtain ⟨h1, h2, h3, h4, h5, h6, h7, h8, h9, h10, h11, h12⟩ := h
  exact ⟨⟨h1, h2, h3, h4, h5, h6, h7, h8⟩, ⟨h1, h2, h3, h4⟩, h9, h10, h11, h12⟩
theorem oexC {K : PySem.W.Frag} {C : Addr} (c : ∃ nm q N bs bm sn sub ab col dd k0 k1 k2 k3 k5, K.lookup C = some (excClassObj nm q C N bs bm true sn sub ab col dd k0 k1 k2 k3 k5 "ValueError.__new__") ∧ PySem.HandSPX.refsVE bm = true) (h : Chk1 K C) : OexC K C :=
  ⟨c, h.sa, h.ec.hs, h.ty, h.kp⟩
theorem flds_all : ∀ i : Nat, i < 26 → ∀ f ∈ flds i, f ∈ fieldNames := by decide +kernel
set_option maxHeartbeats 8000000 in
theorem all_mk {l : PySem.W.OpenLaw} {w : World} {K : PySem.W.Frag} {h : Heap} {mg : Str → Option Value} {fa : Addr} (X : K.In h) (G : h.Ns mainGlobals mg) (hfa : mg "law" = some (.ref fa))
    {c0 c1 c2 c3 c4 c5 c6 c7 c8 c9 c10 c11 c12 c13 c14 c15 c16 c17 c18 c19 c20 c21 c22 c23 c24 c25 B : Addr}
    {nm0 q0 : Str} {N0 : Addr} {bs0 bm0 : List Value} {sn0 : List Str} {sub0 : List Value} {ab0 : Bool} {col0 : Option Bool} {dd0 : Option Addr} {k00 k10 k20 k30 k50 : Option Value}
    {fi0 : Addr} {oci0 dci0 pmi0 cdi0 cti0 kVi0 : Value} {odi0 ani0 : Option Addr} {sli0 : Array (Option Value)}
    {nm1 q1 : Str} {N1 : Addr} {bs1 bm1 : List Value} {sn1 : List Str} {sub1 : List Value} {ab1 : Bool} {col1 : Option Bool} {dd1 : Option Addr} {k01 k11 k21 k31 k51 : Option Value}
    {fi1 : Addr} {oci1 dci1 pmi1 cdi1 cti1 kVi1 : Value} {odi1 ani1 : Option Addr} {sli1 : Array (Option Value)}
    {nm2 q2 : Str} {N2 : Addr} {bs2 bm2 : List Value} {sn2 : List Str} {sub2 : List Value} {ab2 : Bool} {col2 : Option Bool} {dd2 : Option Addr} {k02 k12 k22 k32 k52 : Option Value}
    {fi2 : Addr} {oci2 dci2 pmi2 cdi2 cti2 kVi2 : Value} {odi2 ani2 : Option Addr} {sli2 : Array (Option Value)}
    {nm3 q3 : Str} {N3 : Addr} {bs3 bm3 : List Value} {sn3 : List Str} {sub3 : List Value} {ab3 : Bool} {col3 : Option Bool} {dd3 : Option Addr} {k03 k13 k23 k33 k53 : Option Value}
    {fi3 : Addr} {oci3 dci3 pmi3 cdi3 cti3 kVi3 : Value} {odi3 ani3 : Option Addr} {sli3 : Array (Option Value)}
    {nm4 q4 : Str} {N4 : Addr} {bs4 bm4 : List Value} {sn4 : List Str} {sub4 : List Value} {ab4 : Bool} {col4 : Option Bool} {dd4 : Option Addr} {k04 k14 k24 k34 k54 : Option Value}
    {fi4 : Addr} {oci4 dci4 pmi4 cdi4 cti4 kVi4 : Value} {odi4 ani4 : Option Addr} {sli4 : Array (Option Value)}
    {nm5 q5 : Str} {N5 : Addr} {bs5 bm5 : List Value} {sn5 : List Str} {sub5 : List Value} {ab5 : Bool} {col5 : Option Bool} {dd5 : Option Addr} {k05 k15 k25 k35 k55 : Option Value}
    {fi5 : Addr} {oci5 dci5 pmi5 cdi5 cti5 kVi5 : Value} {odi5 ani5 : Option Addr} {sli5 : Array (Option Value)}
    {nm6 q6 : Str} {N6 : Addr} {bs6 bm6 : List Value} {sn6 : List Str} {sub6 : List Value} {ab6 : Bool} {col6 : Option Bool} {dd6 : Option Addr} {k06 k16 k26 k36 k56 : Option Value}
    {fi6 : Addr} {oci6 dci6 pmi6 cdi6 cti6 kVi6 : Value} {odi6 ani6 : Option Addr} {sli6 : Array (Option Value)}
    {nm7 q7 : Str} {N7 : Addr} {bs7 bm7 : List Value} {sn7 : List Str} {sub7 : List Value} {ab7 : Bool} {col7 : Option Bool} {dd7 : Option Addr} {k07 k17 k27 k37 k57 : Option Value}
    {fi7 : Addr} {oci7 dci7 pmi7 cdi7 cti7 kVi7 : Value} {odi7 ani7 : Option Addr} {sli7 : Array (Option Value)}
    {nm8 q8 : Str} {N8 : Addr} {bs8 bm8 : List Value} {sn8 : List Str} {sub8 : List Value} {ab8 : Bool} {col8 : Option Bool} {dd8 : Option Addr} {k08 k18 k28 k38 k58 : Option Value}
    {fi8 : Addr} {oci8 dci8 pmi8 cdi8 cti8 kVi8 : Value} {odi8 ani8 : Option Addr} {sli8 : Array (Option Value)}
    {nm9 q9 : Str} {N9 : Addr} {bs9 bm9 : List Value} {sn9 : List Str} {sub9 : List Value} {ab9 : Bool} {col9 : Option Bool} {dd9 : Option Addr} {k09 k19 k29 k39 k59 : Option Value}
    {fi9 : Addr} {oci9 dci9 pmi9 cdi9 cti9 kVi9 : Value} {odi9 ani9 : Option Addr} {sli9 : Array (Option Value)}
    {nm10 q10 : Str} {N10 : Addr} {bs10 bm10 : List Value} {sn10 : List Str} {sub10 : List Value} {ab10 : Bool} {col10 : Option Bool} {dd10 : Option Addr} {k010 k110 k210 k310 k510 : Option Value}
    {fi10 : Addr} {oci10 dci10 pmi10 cdi10 cti10 kVi10 : Value} {odi10 ani10 : Option Addr} {sli10 : Array (Option Value)}
    {nm11 q11 : Str} {N11 : Addr} {bs11 bm11 : List Value} {sn11 : List Str} {sub11 : List Value} {ab11 : Bool} {col11 : Option Bool} {dd11 : Option Addr} {k011 k111 k211 k311 k511 : Option Value}
    {fi11 : Addr} {oci11 dci11 pmi11 cdi11 cti11 kVi11 : Value} {odi11 ani11 : Option Addr} {sli11 : Array (Option Value)}
    {nm12 q12 : Str} {N12 : Addr} {bs12 bm12 : List Value} {sn12 : List Str} {sub12 : List Value} {ab12 : Bool} {col12 : Option Bool} {dd12 : Option Addr} {k012 k112 k212 k312 k512 : Option Value}
    {fi12 : Addr} {oci12 dci12 pmi12 cdi12 cti12 kVi12 : Value} {odi12 ani12 : Option Addr} {sli12 : Array (Option Value)}
    {nm13 q13 : Str} {N13 : Addr} {bs13 bm13 : List Value} {sn13 : List Str} {sub13 : List Value} {ab13 : Bool} {col13 : Option Bool} {dd13 : Option Addr} {k013 k113 k213 k313 k513 : Option Value}
    {fi13 : Addr} {oci13 dci13 pmi13 cdi13 cti13 kVi13 : Value} {odi13 ani13 : Option Addr} {sli13 : Array (Option Value)}
    {nm14 q14 : Str} {N14 : Addr} {bs14 bm14 : List Value} {sn14 : List Str} {sub14 : List Value} {ab14 : Bool} {col14 : Option Bool} {dd14 : Option Addr} {k014 k114 k214 k314 k514 : Option Value}
    {fi14 : Addr} {oci14 dci14 pmi14 cdi14 cti14 kVi14 : Value} {odi14 ani14 : Option Addr} {sli14 : Array (Option Value)}
    {nm15 q15 : Str} {N15 : Addr} {bs15 bm15 : List Value} {sn15 : List Str} {sub15 : List Value} {ab15 : Bool} {col15 : Option Bool} {dd15 : Option Addr} {k015 k115 k215 k315 k515 : Option Value}
    {fi15 : Addr} {oci15 dci15 pmi15 cdi15 cti15 kVi15 : Value} {odi15 ani15 : Option Addr} {sli15 : Array (Option Value)}
    {nm16 q16 : Str} {N16 : Addr} {bs16 bm16 : List Value} {sn16 : List Str} {sub16 : List Value} {ab16 : Bool} {col16 : Option Bool} {dd16 : Option Addr} {k016 k116 k216 k316 k516 : Option Value}
    {fi16 : Addr} {oci16 dci16 pmi16 cdi16 cti16 kVi16 : Value} {odi16 ani16 : Option Addr} {sli16 : Array (Option Value)}
    {nm17 q17 : Str} {N17 : Addr} {bs17 bm17 : List Value} {sn17 : List Str} {sub17 : List Value} {ab17 : Bool} {col17 : Option Bool} {dd17 : Option Addr} {k017 k117 k217 k317 k517 : Option Value}
    {fi17 : Addr} {oci17 dci17 pmi17 cdi17 cti17 kVi17 : Value} {odi17 ani17 : Option Addr} {sli17 : Array (Option Value)}
    {nm18 q18 : Str} {N18 : Addr} {bs18 bm18 : List Value} {sn18 : List Str} {sub18 : List Value} {ab18 : Bool} {col18 : Option Bool} {dd18 : Option Addr} {k018 k118 k218 k318 k518 : Option Value}
    {fi18 : Addr} {oci18 dci18 pmi18 cdi18 cti18 kVi18 : Value} {odi18 ani18 : Option Addr} {sli18 : Array (Option Value)}
    {f_cell : Addr} {oc_cell dc_cell pm_cell cd_cell ct_cell kV_cell : Value} {od_cell an_cell : Option Addr} {sl_cell : Array (Option Value)}
    {f_pool : Addr} {oc_pool dc_pool pm_pool cd_pool ct_pool kV_pool : Value} {od_pool an_pool : Option Addr} {sl_pool : Array (Option Value)}
    {f_next : Addr} {oc_next dc_next pm_next cd_next ct_next kV_next : Value} {od_next an_next : Option Addr} {sl_next : Array (Option Value)}
    {f_text : Addr} {oc_text dc_text pm_text cd_text ct_text kV_text : Value} {od_text an_text : Option Addr} {sl_text : Array (Option Value)}
    {f_number : Addr} {oc_number dc_number pm_number cd_number ct_number kV_number : Value} {od_number an_number : Option Addr} {sl_number : Array (Option Value)}
    {f_path : Addr} {oc_path dc_path pm_path cd_path ct_path kV_path : Value} {od_path an_path : Option Addr} {sl_path : Array (Option Value)}
    {f_kind : Addr} {oc_kind dc_kind pm_kind cd_kind ct_kind kV_kind : Value} {od_kind an_kind : Option Addr} {sl_kind : Array (Option Value)}
    {f_values : Addr} {oc_values dc_values pm_values cd_values ct_values kV_values : Value} {od_values an_values : Option Addr} {sl_values : Array (Option Value)}
    {f_named : Addr} {oc_named dc_named pm_named cd_named ct_named kV_named : Value} {od_named an_named : Option Addr} {sl_named : Array (Option Value)}
    {f_plain : Addr} {oc_plain dc_plain pm_plain cd_plain ct_plain kV_plain : Value} {od_plain an_plain : Option Addr} {sl_plain : Array (Option Value)}
    {f_made : Addr} {oc_made dc_made pm_made cd_made ct_made kV_made : Value} {od_made an_made : Option Addr} {sl_made : Array (Option Value)}
    {f_fields : Addr} {oc_fields dc_fields pm_fields cd_fields ct_fields kV_fields : Value} {od_fields an_fields : Option Addr} {sl_fields : Array (Option Value)}
    {f_marks : Addr} {oc_marks dc_marks pm_marks cd_marks ct_marks kV_marks : Value} {od_marks an_marks : Option Addr} {sl_marks : Array (Option Value)}
    {f_is_due : Addr} {oc_is_due dc_is_due pm_is_due cd_is_due ct_is_due kV_is_due : Value} {od_is_due an_is_due : Option Addr} {sl_is_due : Array (Option Value)}
    {f_law : Addr} {oc_law dc_law pm_law cd_law ct_law kV_law : Value} {od_law an_law : Option Addr} {sl_law : Array (Option Value)}
    (a0 : PySem.W.nsIn K mainGlobals "BadName" = some (some (.ref c0)))
    (a1 : PySem.W.nsIn K mainGlobals "NameTaken" = some (some (.ref c1)))
    (a2 : PySem.W.nsIn K mainGlobals "UnknownName" = some (some (.ref c2)))
    (a3 : PySem.W.nsIn K mainGlobals "InUse" = some (some (.ref c3)))
    (a4 : PySem.W.nsIn K mainGlobals "Circular" = some (some (.ref c4)))
    (a5 : PySem.W.nsIn K mainGlobals "NoRoom" = some (some (.ref c5)))
    (a6 : PySem.W.nsIn K mainGlobals "LeftOver" = some (some (.ref c6)))
    (a7 : PySem.W.nsIn K mainGlobals "WrongHold" = some (some (.ref c7)))
    (a8 : PySem.W.nsIn K mainGlobals "BadKind" = some (some (.ref c8)))
    (a9 : PySem.W.nsIn K mainGlobals "TextError" = some (some (.ref c9)))
    (a10 : PySem.W.nsIn K mainGlobals "NoPart" = some (some (.ref c10)))
    (a11 : PySem.W.nsIn K mainGlobals "NotBare" = some (some (.ref c11)))
    (a12 : PySem.W.nsIn K mainGlobals "DerivationError" = some (some (.ref c12)))
    (a13 : PySem.W.nsIn K mainGlobals "NoStep" = some (some (.ref c13)))
    (a14 : PySem.W.nsIn K mainGlobals "NoMeeting" = some (some (.ref c14)))
    (a15 : PySem.W.nsIn K mainGlobals "BadWorld" = some (some (.ref c15)))
    (a16 : PySem.W.nsIn K mainGlobals "WorldTooLarge" = some (some (.ref c16)))
    (a17 : PySem.W.nsIn K mainGlobals "NoGoal" = some (some (.ref c17)))
    (a18 : PySem.W.nsIn K mainGlobals "GoalsLeft" = some (some (.ref c18)))
    (a19 : PySem.W.nsIn K mainGlobals "WrongGoal" = some (some (.ref c19)))
    (a20 : PySem.W.nsIn K mainGlobals "NotSimple" = some (some (.ref c20)))
    (a21 : PySem.W.nsIn K mainGlobals "NotAlike" = some (some (.ref c21)))
    (a22 : PySem.W.nsIn K mainGlobals "NotOnce" = some (some (.ref c22)))
    (a23 : PySem.W.nsIn K mainGlobals "NotPlain" = some (some (.ref c23)))
    (a24 : PySem.W.nsIn K mainGlobals "NothingToUndo" = some (some (.ref c24)))
    (a25 : PySem.W.nsIn K mainGlobals "NothingToRedo" = some (some (.ref c25)))
    (aB : PySem.W.nsIn K mainGlobals "HeldError" = some (some (.ref B)))
    (x0 : K.lookup c0 = some (excClassObj nm0 q0 c0 N0 bs0 bm0 true sn0 sub0 ab0 col0 dd0 k00 k10 k20 k30 k50 "ValueError.__new__"))
    (r0 : PySem.HandSPX.refsVE bm0 = true)
    (n0 : PySem.W.findIn K (.ref c0) "__init__" = some (some (.ref fi0)))
    (t0 : PySem.W.typeIn K (.ref fi0) = some (.type "function"))
    (l0 : K.lookup fi0 = some ⟨oci0, odi0, .func (PySem.W.fnOf "__init__" "BadName.__init__" (defArgs s_i0) (defBody s_i0) (defScope s_i0) .none kVi0 dci0 pmi0 ani0 cdi0 cti0), sli0⟩)
    (d0 : PySem.W.codeIn K cdi0 "BadName.__init__" = true)
    (p0 : PySem.W.keepIn K (.ref fi0) = true)
    (x1 : K.lookup c1 = some (excClassObj nm1 q1 c1 N1 bs1 bm1 true sn1 sub1 ab1 col1 dd1 k01 k11 k21 k31 k51 "ValueError.__new__"))
    (r1 : PySem.HandSPX.refsVE bm1 = true)
    (n1 : PySem.W.findIn K (.ref c1) "__init__" = some (some (.ref fi1)))
    (t1 : PySem.W.typeIn K (.ref fi1) = some (.type "function"))
    (l1 : K.lookup fi1 = some ⟨oci1, odi1, .func (PySem.W.fnOf "__init__" "NameTaken.__init__" (defArgs s_i1) (defBody s_i1) (defScope s_i1) .none kVi1 dci1 pmi1 ani1 cdi1 cti1), sli1⟩)
    (d1 : PySem.W.codeIn K cdi1 "NameTaken.__init__" = true)
    (p1 : PySem.W.keepIn K (.ref fi1) = true)
    (x2 : K.lookup c2 = some (excClassObj nm2 q2 c2 N2 bs2 bm2 true sn2 sub2 ab2 col2 dd2 k02 k12 k22 k32 k52 "ValueError.__new__"))
    (r2 : PySem.HandSPX.refsVE bm2 = true)
    (n2 : PySem.W.findIn K (.ref c2) "__init__" = some (some (.ref fi2)))
    (t2 : PySem.W.typeIn K (.ref fi2) = some (.type "function"))
    (l2 : K.lookup fi2 = some ⟨oci2, odi2, .func (PySem.W.fnOf "__init__" "UnknownName.__init__" (defArgs s_i2) (defBody s_i2) (defScope s_i2) .none kVi2 dci2 pmi2 ani2 cdi2 cti2), sli2⟩)
    (d2 : PySem.W.codeIn K cdi2 "UnknownName.__init__" = true)
    (p2 : PySem.W.keepIn K (.ref fi2) = true)
    (x3 : K.lookup c3 = some (excClassObj nm3 q3 c3 N3 bs3 bm3 true sn3 sub3 ab3 col3 dd3 k03 k13 k23 k33 k53 "ValueError.__new__"))
    (r3 : PySem.HandSPX.refsVE bm3 = true)
    (n3 : PySem.W.findIn K (.ref c3) "__init__" = some (some (.ref fi3)))
    (t3 : PySem.W.typeIn K (.ref fi3) = some (.type "function"))
    (l3 : K.lookup fi3 = some ⟨oci3, odi3, .func (PySem.W.fnOf "__init__" "InUse.__init__" (defArgs s_i3) (defBody s_i3) (defScope s_i3) .none kVi3 dci3 pmi3 ani3 cdi3 cti3), sli3⟩)
    (d3 : PySem.W.codeIn K cdi3 "InUse.__init__" = true)
    (p3 : PySem.W.keepIn K (.ref fi3) = true)
    (x4 : K.lookup c4 = some (excClassObj nm4 q4 c4 N4 bs4 bm4 true sn4 sub4 ab4 col4 dd4 k04 k14 k24 k34 k54 "ValueError.__new__"))
    (r4 : PySem.HandSPX.refsVE bm4 = true)
    (n4 : PySem.W.findIn K (.ref c4) "__init__" = some (some (.ref fi4)))
    (t4 : PySem.W.typeIn K (.ref fi4) = some (.type "function"))
    (l4 : K.lookup fi4 = some ⟨oci4, odi4, .func (PySem.W.fnOf "__init__" "Circular.__init__" (defArgs s_i4) (defBody s_i4) (defScope s_i4) .none kVi4 dci4 pmi4 ani4 cdi4 cti4), sli4⟩)
    (d4 : PySem.W.codeIn K cdi4 "Circular.__init__" = true)
    (p4 : PySem.W.keepIn K (.ref fi4) = true)
    (x5 : K.lookup c5 = some (excClassObj nm5 q5 c5 N5 bs5 bm5 true sn5 sub5 ab5 col5 dd5 k05 k15 k25 k35 k55 "ValueError.__new__"))
    (r5 : PySem.HandSPX.refsVE bm5 = true)
    (n5 : PySem.W.findIn K (.ref c5) "__init__" = some (some (.ref fi5)))
    (t5 : PySem.W.typeIn K (.ref fi5) = some (.type "function"))
    (l5 : K.lookup fi5 = some ⟨oci5, odi5, .func (PySem.W.fnOf "__init__" "NoRoom.__init__" (defArgs s_i5) (defBody s_i5) (defScope s_i5) .none kVi5 dci5 pmi5 ani5 cdi5 cti5), sli5⟩)
    (d5 : PySem.W.codeIn K cdi5 "NoRoom.__init__" = true)
    (p5 : PySem.W.keepIn K (.ref fi5) = true)
    (x6 : K.lookup c6 = some (excClassObj nm6 q6 c6 N6 bs6 bm6 true sn6 sub6 ab6 col6 dd6 k06 k16 k26 k36 k56 "ValueError.__new__"))
    (r6 : PySem.HandSPX.refsVE bm6 = true)
    (n6 : PySem.W.findIn K (.ref c6) "__init__" = some (some (.ref fi6)))
    (t6 : PySem.W.typeIn K (.ref fi6) = some (.type "function"))
    (l6 : K.lookup fi6 = some ⟨oci6, odi6, .func (PySem.W.fnOf "__init__" "LeftOver.__init__" (defArgs s_i6) (defBody s_i6) (defScope s_i6) .none kVi6 dci6 pmi6 ani6 cdi6 cti6), sli6⟩)
    (d6 : PySem.W.codeIn K cdi6 "LeftOver.__init__" = true)
    (p6 : PySem.W.keepIn K (.ref fi6) = true)
    (x7 : K.lookup c7 = some (excClassObj nm7 q7 c7 N7 bs7 bm7 true sn7 sub7 ab7 col7 dd7 k07 k17 k27 k37 k57 "ValueError.__new__"))
    (r7 : PySem.HandSPX.refsVE bm7 = true)
    (n7 : PySem.W.findIn K (.ref c7) "__init__" = some (some (.ref fi7)))
    (t7 : PySem.W.typeIn K (.ref fi7) = some (.type "function"))
    (l7 : K.lookup fi7 = some ⟨oci7, odi7, .func (PySem.W.fnOf "__init__" "WrongHold.__init__" (defArgs s_i7) (defBody s_i7) (defScope s_i7) .none kVi7 dci7 pmi7 ani7 cdi7 cti7), sli7⟩)
    (d7 : PySem.W.codeIn K cdi7 "WrongHold.__init__" = true)
    (p7 : PySem.W.keepIn K (.ref fi7) = true)
    (x8 : K.lookup c8 = some (excClassObj nm8 q8 c8 N8 bs8 bm8 true sn8 sub8 ab8 col8 dd8 k08 k18 k28 k38 k58 "ValueError.__new__"))
    (r8 : PySem.HandSPX.refsVE bm8 = true)
    (n8 : PySem.W.findIn K (.ref c8) "__init__" = some (some (.ref fi8)))
    (t8 : PySem.W.typeIn K (.ref fi8) = some (.type "function"))
    (l8 : K.lookup fi8 = some ⟨oci8, odi8, .func (PySem.W.fnOf "__init__" "BadKind.__init__" (defArgs s_i8) (defBody s_i8) (defScope s_i8) .none kVi8 dci8 pmi8 ani8 cdi8 cti8), sli8⟩)
    (d8 : PySem.W.codeIn K cdi8 "BadKind.__init__" = true)
    (p8 : PySem.W.keepIn K (.ref fi8) = true)
    (x9 : K.lookup c9 = some (excClassObj nm9 q9 c9 N9 bs9 bm9 true sn9 sub9 ab9 col9 dd9 k09 k19 k29 k39 k59 "ValueError.__new__"))
    (r9 : PySem.HandSPX.refsVE bm9 = true)
    (n9 : PySem.W.findIn K (.ref c9) "__init__" = some (some (.ref fi9)))
    (t9 : PySem.W.typeIn K (.ref fi9) = some (.type "function"))
    (l9 : K.lookup fi9 = some ⟨oci9, odi9, .func (PySem.W.fnOf "__init__" "TextError.__init__" (defArgs s_i9) (defBody s_i9) (defScope s_i9) .none kVi9 dci9 pmi9 ani9 cdi9 cti9), sli9⟩)
    (d9 : PySem.W.codeIn K cdi9 "TextError.__init__" = true)
    (p9 : PySem.W.keepIn K (.ref fi9) = true)
    (x10 : K.lookup c10 = some (excClassObj nm10 q10 c10 N10 bs10 bm10 true sn10 sub10 ab10 col10 dd10 k010 k110 k210 k310 k510 "ValueError.__new__"))
    (r10 : PySem.HandSPX.refsVE bm10 = true)
    (n10 : PySem.W.findIn K (.ref c10) "__init__" = some (some (.ref fi10)))
    (t10 : PySem.W.typeIn K (.ref fi10) = some (.type "function"))
    (l10 : K.lookup fi10 = some ⟨oci10, odi10, .func (PySem.W.fnOf "__init__" "NoPart.__init__" (defArgs s_i10) (defBody s_i10) (defScope s_i10) .none kVi10 dci10 pmi10 ani10 cdi10 cti10), sli10⟩)
    (d10 : PySem.W.codeIn K cdi10 "NoPart.__init__" = true)
    (p10 : PySem.W.keepIn K (.ref fi10) = true)
    (x11 : K.lookup c11 = some (excClassObj nm11 q11 c11 N11 bs11 bm11 true sn11 sub11 ab11 col11 dd11 k011 k111 k211 k311 k511 "ValueError.__new__"))
    (r11 : PySem.HandSPX.refsVE bm11 = true)
    (n11 : PySem.W.findIn K (.ref c11) "__init__" = some (some (.ref fi11)))
    (t11 : PySem.W.typeIn K (.ref fi11) = some (.type "function"))
    (l11 : K.lookup fi11 = some ⟨oci11, odi11, .func (PySem.W.fnOf "__init__" "NotBare.__init__" (defArgs s_i11) (defBody s_i11) (defScope s_i11) .none kVi11 dci11 pmi11 ani11 cdi11 cti11), sli11⟩)
    (d11 : PySem.W.codeIn K cdi11 "NotBare.__init__" = true)
    (p11 : PySem.W.keepIn K (.ref fi11) = true)
    (x12 : K.lookup c12 = some (excClassObj nm12 q12 c12 N12 bs12 bm12 true sn12 sub12 ab12 col12 dd12 k012 k112 k212 k312 k512 "ValueError.__new__"))
    (r12 : PySem.HandSPX.refsVE bm12 = true)
    (n12 : PySem.W.findIn K (.ref c12) "__init__" = some (some (.ref fi12)))
    (t12 : PySem.W.typeIn K (.ref fi12) = some (.type "function"))
    (l12 : K.lookup fi12 = some ⟨oci12, odi12, .func (PySem.W.fnOf "__init__" "DerivationError.__init__" (defArgs s_i12) (defBody s_i12) (defScope s_i12) .none kVi12 dci12 pmi12 ani12 cdi12 cti12), sli12⟩)
    (d12 : PySem.W.codeIn K cdi12 "DerivationError.__init__" = true)
    (p12 : PySem.W.keepIn K (.ref fi12) = true)
    (x13 : K.lookup c13 = some (excClassObj nm13 q13 c13 N13 bs13 bm13 true sn13 sub13 ab13 col13 dd13 k013 k113 k213 k313 k513 "ValueError.__new__"))
    (r13 : PySem.HandSPX.refsVE bm13 = true)
    (n13 : PySem.W.findIn K (.ref c13) "__init__" = some (some (.ref fi13)))
    (t13 : PySem.W.typeIn K (.ref fi13) = some (.type "function"))
    (l13 : K.lookup fi13 = some ⟨oci13, odi13, .func (PySem.W.fnOf "__init__" "NoStep.__init__" (defArgs s_i13) (defBody s_i13) (defScope s_i13) .none kVi13 dci13 pmi13 ani13 cdi13 cti13), sli13⟩)
    (d13 : PySem.W.codeIn K cdi13 "NoStep.__init__" = true)
    (p13 : PySem.W.keepIn K (.ref fi13) = true)
    (x14 : K.lookup c14 = some (excClassObj nm14 q14 c14 N14 bs14 bm14 true sn14 sub14 ab14 col14 dd14 k014 k114 k214 k314 k514 "ValueError.__new__"))
    (r14 : PySem.HandSPX.refsVE bm14 = true)
    (n14 : PySem.W.findIn K (.ref c14) "__init__" = some (some (.ref fi14)))
    (t14 : PySem.W.typeIn K (.ref fi14) = some (.type "function"))
    (l14 : K.lookup fi14 = some ⟨oci14, odi14, .func (PySem.W.fnOf "__init__" "NoMeeting.__init__" (defArgs s_i14) (defBody s_i14) (defScope s_i14) .none kVi14 dci14 pmi14 ani14 cdi14 cti14), sli14⟩)
    (d14 : PySem.W.codeIn K cdi14 "NoMeeting.__init__" = true)
    (p14 : PySem.W.keepIn K (.ref fi14) = true)
    (x15 : K.lookup c15 = some (excClassObj nm15 q15 c15 N15 bs15 bm15 true sn15 sub15 ab15 col15 dd15 k015 k115 k215 k315 k515 "ValueError.__new__"))
    (r15 : PySem.HandSPX.refsVE bm15 = true)
    (n15 : PySem.W.findIn K (.ref c15) "__init__" = some (some (.ref fi15)))
    (t15 : PySem.W.typeIn K (.ref fi15) = some (.type "function"))
    (l15 : K.lookup fi15 = some ⟨oci15, odi15, .func (PySem.W.fnOf "__init__" "BadWorld.__init__" (defArgs s_i15) (defBody s_i15) (defScope s_i15) .none kVi15 dci15 pmi15 ani15 cdi15 cti15), sli15⟩)
    (d15 : PySem.W.codeIn K cdi15 "BadWorld.__init__" = true)
    (p15 : PySem.W.keepIn K (.ref fi15) = true)
    (x16 : K.lookup c16 = some (excClassObj nm16 q16 c16 N16 bs16 bm16 true sn16 sub16 ab16 col16 dd16 k016 k116 k216 k316 k516 "ValueError.__new__"))
    (r16 : PySem.HandSPX.refsVE bm16 = true)
    (n16 : PySem.W.findIn K (.ref c16) "__init__" = some (some (.ref fi16)))
    (t16 : PySem.W.typeIn K (.ref fi16) = some (.type "function"))
    (l16 : K.lookup fi16 = some ⟨oci16, odi16, .func (PySem.W.fnOf "__init__" "WorldTooLarge.__init__" (defArgs s_i16) (defBody s_i16) (defScope s_i16) .none kVi16 dci16 pmi16 ani16 cdi16 cti16), sli16⟩)
    (d16 : PySem.W.codeIn K cdi16 "WorldTooLarge.__init__" = true)
    (p16 : PySem.W.keepIn K (.ref fi16) = true)
    (x17 : K.lookup c17 = some (excClassObj nm17 q17 c17 N17 bs17 bm17 true sn17 sub17 ab17 col17 dd17 k017 k117 k217 k317 k517 "ValueError.__new__"))
    (r17 : PySem.HandSPX.refsVE bm17 = true)
    (n17 : PySem.W.findIn K (.ref c17) "__init__" = some (some (.ref fi17)))
    (t17 : PySem.W.typeIn K (.ref fi17) = some (.type "function"))
    (l17 : K.lookup fi17 = some ⟨oci17, odi17, .func (PySem.W.fnOf "__init__" "NoGoal.__init__" (defArgs s_i17) (defBody s_i17) (defScope s_i17) .none kVi17 dci17 pmi17 ani17 cdi17 cti17), sli17⟩)
    (d17 : PySem.W.codeIn K cdi17 "NoGoal.__init__" = true)
    (p17 : PySem.W.keepIn K (.ref fi17) = true)
    (x18 : K.lookup c18 = some (excClassObj nm18 q18 c18 N18 bs18 bm18 true sn18 sub18 ab18 col18 dd18 k018 k118 k218 k318 k518 "ValueError.__new__"))
    (r18 : PySem.HandSPX.refsVE bm18 = true)
    (n18 : PySem.W.findIn K (.ref c18) "__init__" = some (some (.ref fi18)))
    (t18 : PySem.W.typeIn K (.ref fi18) = some (.type "function"))
    (l18 : K.lookup fi18 = some ⟨oci18, odi18, .func (PySem.W.fnOf "__init__" "GoalsLeft.__init__" (defArgs s_i18) (defBody s_i18) (defScope s_i18) .none kVi18 dci18 pmi18 ani18 cdi18 cti18), sli18⟩)
    (d18 : PySem.W.codeIn K cdi18 "GoalsLeft.__init__" = true)
    (p18 : PySem.W.keepIn K (.ref fi18) = true)
    (a_cell : PySem.W.nsIn K mainGlobals "_law_cell" = some (some (.ref f_cell)))
    (l_cell : K.lookup f_cell = some ⟨oc_cell, od_cell, .func (PySem.W.fnOf "_law_cell" "_law_cell" (defArgs s_cell) (defBody s_cell) (defScope s_cell) .none kV_cell dc_cell pm_cell an_cell cd_cell ct_cell), sl_cell⟩)
    (d_cell : PySem.W.codeIn K cd_cell "_law_cell" = true)
    (p_cell : PySem.W.keepIn K (.ref f_cell) = true)
    (a_pool : PySem.W.nsIn K mainGlobals "_law_pool" = some (some (.ref f_pool)))
    (l_pool : K.lookup f_pool = some ⟨oc_pool, od_pool, .func (PySem.W.fnOf "_law_pool" "_law_pool" (defArgs s_pool) (defBody s_pool) (defScope s_pool) .none kV_pool dc_pool pm_pool an_pool cd_pool ct_pool), sl_pool⟩)
    (d_pool : PySem.W.codeIn K cd_pool "_law_pool" = true)
    (p_pool : PySem.W.keepIn K (.ref f_pool) = true)
    (a_next : PySem.W.nsIn K mainGlobals "_law_next" = some (some (.ref f_next)))
    (l_next : K.lookup f_next = some ⟨oc_next, od_next, .func (PySem.W.fnOf "_law_next" "_law_next" (defArgs s_next) (defBody s_next) (defScope s_next) .none kV_next dc_next pm_next an_next cd_next ct_next), sl_next⟩)
    (d_next : PySem.W.codeIn K cd_next "_law_next" = true)
    (p_next : PySem.W.keepIn K (.ref f_next) = true)
    (a_text : PySem.W.nsIn K mainGlobals "_law_text" = some (some (.ref f_text)))
    (l_text : K.lookup f_text = some ⟨oc_text, od_text, .func (PySem.W.fnOf "_law_text" "_law_text" (defArgs s_text) (defBody s_text) (defScope s_text) .none kV_text dc_text pm_text an_text cd_text ct_text), sl_text⟩)
    (d_text : PySem.W.codeIn K cd_text "_law_text" = true)
    (p_text : PySem.W.keepIn K (.ref f_text) = true)
    (a_number : PySem.W.nsIn K mainGlobals "_law_number" = some (some (.ref f_number)))
    (l_number : K.lookup f_number = some ⟨oc_number, od_number, .func (PySem.W.fnOf "_law_number" "_law_number" (defArgs s_number) (defBody s_number) (defScope s_number) .none kV_number dc_number pm_number an_number cd_number ct_number), sl_number⟩)
    (d_number : PySem.W.codeIn K cd_number "_law_number" = true)
    (p_number : PySem.W.keepIn K (.ref f_number) = true)
    (a_path : PySem.W.nsIn K mainGlobals "_law_path" = some (some (.ref f_path)))
    (l_path : K.lookup f_path = some ⟨oc_path, od_path, .func (PySem.W.fnOf "_law_path" "_law_path" (defArgs s_path) (defBody s_path) (defScope s_path) .none kV_path dc_path pm_path an_path cd_path ct_path), sl_path⟩)
    (d_path : PySem.W.codeIn K cd_path "_law_path" = true)
    (p_path : PySem.W.keepIn K (.ref f_path) = true)
    (a_kind : PySem.W.nsIn K mainGlobals "_law_kind" = some (some (.ref f_kind)))
    (l_kind : K.lookup f_kind = some ⟨oc_kind, od_kind, .func (PySem.W.fnOf "_law_kind" "_law_kind" (defArgs s_kind) (defBody s_kind) (defScope s_kind) .none kV_kind dc_kind pm_kind an_kind cd_kind ct_kind), sl_kind⟩)
    (d_kind : PySem.W.codeIn K cd_kind "_law_kind" = true)
    (p_kind : PySem.W.keepIn K (.ref f_kind) = true)
    (a_values : PySem.W.nsIn K mainGlobals "_law_values" = some (some (.ref f_values)))
    (l_values : K.lookup f_values = some ⟨oc_values, od_values, .func (PySem.W.fnOf "_law_values" "_law_values" (defArgs s_values) (defBody s_values) (defScope s_values) .none kV_values dc_values pm_values an_values cd_values ct_values), sl_values⟩)
    (d_values : PySem.W.codeIn K cd_values "_law_values" = true)
    (p_values : PySem.W.keepIn K (.ref f_values) = true)
    (a_named : PySem.W.nsIn K mainGlobals "_law_named" = some (some (.ref f_named)))
    (l_named : K.lookup f_named = some ⟨oc_named, od_named, .func (PySem.W.fnOf "_law_named" "_law_named" (defArgs s_named) (defBody s_named) (defScope s_named) .none kV_named dc_named pm_named an_named cd_named ct_named), sl_named⟩)
    (d_named : PySem.W.codeIn K cd_named "_law_named" = true)
    (p_named : PySem.W.keepIn K (.ref f_named) = true)
    (a_plain : PySem.W.nsIn K mainGlobals "_law_plain" = some (some (.ref f_plain)))
    (l_plain : K.lookup f_plain = some ⟨oc_plain, od_plain, .func (PySem.W.fnOf "_law_plain" "_law_plain" (defArgs s_plain) (defBody s_plain) (defScope s_plain) .none kV_plain dc_plain pm_plain an_plain cd_plain ct_plain), sl_plain⟩)
    (d_plain : PySem.W.codeIn K cd_plain "_law_plain" = true)
    (p_plain : PySem.W.keepIn K (.ref f_plain) = true)
    (a_made : PySem.W.nsIn K mainGlobals "_law_made" = some (some (.ref f_made)))
    (l_made : K.lookup f_made = some ⟨oc_made, od_made, .func (PySem.W.fnOf "_law_made" "_law_made" (defArgs s_made) (defBody s_made) (defScope s_made) .none kV_made dc_made pm_made an_made cd_made ct_made), sl_made⟩)
    (d_made : PySem.W.codeIn K cd_made "_law_made" = true)
    (p_made : PySem.W.keepIn K (.ref f_made) = true)
    (a_fields : PySem.W.nsIn K mainGlobals "_law_fields" = some (some (.ref f_fields)))
    (l_fields : K.lookup f_fields = some ⟨oc_fields, od_fields, .func (PySem.W.fnOf "_law_fields" "_law_fields" (defArgs s_fields) (defBody s_fields) (defScope s_fields) .none kV_fields dc_fields pm_fields an_fields cd_fields ct_fields), sl_fields⟩)
    (d_fields : PySem.W.codeIn K cd_fields "_law_fields" = true)
    (p_fields : PySem.W.keepIn K (.ref f_fields) = true)
    (a_marks : PySem.W.nsIn K mainGlobals "_law_marks" = some (some (.ref f_marks)))
    (l_marks : K.lookup f_marks = some ⟨oc_marks, od_marks, .func (PySem.W.fnOf "_law_marks" "_law_marks" (defArgs s_marks) (defBody s_marks) (defScope s_marks) .none kV_marks dc_marks pm_marks an_marks cd_marks ct_marks), sl_marks⟩)
    (d_marks : PySem.W.codeIn K cd_marks "_law_marks" = true)
    (p_marks : PySem.W.keepIn K (.ref f_marks) = true)
    (a_is_due : PySem.W.nsIn K mainGlobals "_law_is_due" = some (some (.ref f_is_due)))
    (l_is_due : K.lookup f_is_due = some ⟨oc_is_due, od_is_due, .func (PySem.W.fnOf "_law_is_due" "_law_is_due" (defArgs s_is_due) (defBody s_is_due) (defScope s_is_due) .none kV_is_due dc_is_due pm_is_due an_is_due cd_is_due ct_is_due), sl_is_due⟩)
    (d_is_due : PySem.W.codeIn K cd_is_due "_law_is_due" = true)
    (p_is_due : PySem.W.keepIn K (.ref f_is_due) = true)
    (a_law : PySem.W.nsIn K mainGlobals "law" = some (some (.ref f_law)))
    (l_law : K.lookup f_law = some ⟨oc_law, od_law, .func (PySem.W.fnOf "law" "law" (defArgs s_law) (defBody s_law) (defScope s_law) .none kV_law dc_law pm_law an_law cd_law ct_law), sl_law⟩)
    (d_law : PySem.W.codeIn K cd_law "law" = true)
    (p_law : PySem.W.keepIn K (.ref f_law) = true)
    (z_abs : PySem.W.nsIn K mainGlobals "abs" = some none)
    (z_len : PySem.W.nsIn K mainGlobals "len" = some none)
    (z_int : PySem.W.nsIn K mainGlobals "int" = some none)
    (z_range : PySem.W.nsIn K mainGlobals "range" = some none)
    (z_tuple : PySem.W.nsIn K mainGlobals "tuple" = some none)
    (z_isinstance : PySem.W.nsIn K mainGlobals "isinstance" = some none)
    (z_repr : PySem.W.nsIn K mainGlobals "repr" = some none)
    (z_ValueError : PySem.W.nsIn K mainGlobals "ValueError" = some none)
    (bs : PySem.W.specialIn K (.ref B) "__getattribute__" = some (some (.builtin "type.__getattribute__")))
    (bt : PySem.W.typeIn K (.ref B) = some (.type "type"))
    (br : PySem.W.readsIn K B (.type "type") = true)
    (bf : PySem.W.findCls K (.ref B) (.type "type") "__init__" = some (.val (.builtin "ValueError.__init__")))
    (ck : chk K [c0, c1, c2, c3, c4, c5, c6, c7, c8, c9, c10, c11, c12, c13, c14, c15, c16, c17, c18, c19, c20, c21, c22, c23, c24, c25] B = true) :
    ∃ fd : FuncData, (∀ (s : Shared) (v : Value), BindsTo s fd ⟨[v], []⟩ [("_law_script", v)]) ∧ ∀ base : Heap, K.In base → base.Ns mainGlobals mg → FnG l.prog w K mg base 5 fa fd ["_law_script"] (spLaw K) := by
  have e := hfa.symm.trans (PySem.W.mg_of X G a_law)
  cases e
  have ck' : ∀ i, i < 26 → Chk1 K ([c0, c1, c2, c3, c4, c5, c6, c7, c8, c9, c10, c11, c12, c13, c14, c15, c16, c17, c18, c19, c20, c21, c22, c23, c24, c25].getD i 0) ∧ chk2 K [c0, c1, c2, c3, c4, c5, c6, c7, c8, c9, c10, c11, c12, c13, c14, c15, c16, c17, c18, c19, c20, c21, c22, c23, c24, c25] B i = true ∧ (decide (i < 19) || PySem.W.excIn K ([c0, c1, c2, c3, c4, c5, c6, c7, c8, c9, c10, c11, c12, c13, c14, c15, c16, c17, c18, c19, c20, c21, c22, c23, c24, c25].getD i 0) [.type "ValueError", .type "Exception", .type "BaseException", .type "object"] "ValueError.__new__") = true := fun i hi => by
    unfold chk at ck
    have z := List.all_eq_true.mp ck i (List.mem_range.mpr hi)
    rw [Bool.and_eq_true, Bool.and_eq_true] at z
    exact ⟨chk1_ok z.1, z.2.1, z.2.2⟩
  have kt : ∀ i, i < 26 → PySem.W.kitOne K (.ref ([c0, c1, c2, c3, c4, c5, c6, c7, c8, c9, c10, c11, c12, c13, c14, c15, c16, c17, c18, c19, c20, c21, c22, c23, c24, c25].getD i 0)) (.ref B) = some true ∧ PySem.W.kitOne K (.ref ([c0, c1, c2, c3, c4, c5, c6, c7, c8, c9, c10, c11, c12, c13, c14, c15, c16, c17, c18, c19, c20, c21, c22, c23, c24, c25].getD i 0)) (.type "ValueError") = some true ∧
      ∀ j, j < 26 → PySem.W.kitOne K (.ref ([c0, c1, c2, c3, c4, c5, c6, c7, c8, c9, c10, c11, c12, c13, c14, c15, c16, c17, c18, c19, c20, c21, c22, c23, c24, c25].getD i 0)) (.ref ([c0, c1, c2, c3, c4, c5, c6, c7, c8, c9, c10, c11, c12, c13, c14, c15, c16, c17, c18, c19, c20, c21, c22, c23, c24, c25].getD j 0)) = some (decide (i = j)) := fun i hi => by
    have z := (ck' i hi).2.1
    unfold chk2 at z
    rw [Bool.and_eq_true, Bool.and_eq_true] at z
    exact ⟨of_decide_eq_true z.1, of_decide_eq_true z.2.1, fun j hj => of_decide_eq_true (List.all_eq_true.mp z.2.2 j (List.mem_range.mpr hj))⟩
  have OX : ∀ i, i < 26 → Chk1 K ([c0, c1, c2, c3, c4, c5, c6, c7, c8, c9, c10, c11, c12, c13, c14, c15, c16, c17, c18, c19, c20, c21, c22, c23, c24, c25].getD i 0) := fun i hi => (ck' i hi).1
  have NO : ∀ i, i < 26 → ∀ f ∈ fieldNames, PySem.W.findIn K (.ref ([c0, c1, c2, c3, c4, c5, c6, c7, c8, c9, c10, c11, c12, c13, c14, c15, c16, c17, c18, c19, c20, c21, c22, c23, c24, c25].getD i 0)) f = some none := fun i hi => (OX i hi).no
  have BT : BaseTxt K mg B := ⟨PySem.W.mg_of X G aB, bs, bt, br, bf⟩
  have TA : TxtA K mg := ⟨PySem.W.mg_none_of X G z_abs, PySem.W.mg_none_of X G z_len, PySem.W.mg_none_of X G z_int, PySem.W.mg_none_of X G z_range, PySem.W.mg_none_of X G z_tuple⟩
  have MM : ∀ i x, Names[i]? = some x → mg x = some (.ref ([c0, c1, c2, c3, c4, c5, c6, c7, c8, c9, c10, c11, c12, c13, c14, c15, c16, c17, c18, c19, c20, c21, c22, c23, c24, c25].getD i 0)) := fun i x hx => by
    match i, x, hx with
    | 0, _, hx => (obtain rfl := (Option.some.inj hx).symm; exact PySem.W.mg_of X G a0)
    | 1, _, hx => (obtain rfl := (Option.some.inj hx).symm; exact PySem.W.mg_of X G a1)
    | 2, _, hx => (obtain rfl := (Option.some.inj hx).symm; exact PySem.W.mg_of X G a2)
    | 3, _, hx => (obtain rfl := (Option.some.inj hx).symm; exact PySem.W.mg_of X G a3)
    | 4, _, hx => (obtain rfl := (Option.some.inj hx).symm; exact PySem.W.mg_of X G a4)
    | 5, _, hx => (obtain rfl := (Option.some.inj hx).symm; exact PySem.W.mg_of X G a5)
    | 6, _, hx => (obtain rfl := (Option.some.inj hx).symm; exact PySem.W.mg_of X G a6)
    | 7, _, hx => (obtain rfl := (Option.some.inj hx).symm; exact PySem.W.mg_of X G a7)
    | 8, _, hx => (obtain rfl := (Option.some.inj hx).symm; exact PySem.W.mg_of X G a8)
    | 9, _, hx => (obtain rfl := (Option.some.inj hx).symm; exact PySem.W.mg_of X G a9)
    | 10, _, hx => (obtain rfl := (Option.some.inj hx).symm; exact PySem.W.mg_of X G a10)
    | 11, _, hx => (obtain rfl := (Option.some.inj hx).symm; exact PySem.W.mg_of X G a11)
    | 12, _, hx => (obtain rfl := (Option.some.inj hx).symm; exact PySem.W.mg_of X G a12)
    | 13, _, hx => (obtain rfl := (Option.some.inj hx).symm; exact PySem.W.mg_of X G a13)
    | 14, _, hx => (obtain rfl := (Option.some.inj hx).symm; exact PySem.W.mg_of X G a14)
    | 15, _, hx => (obtain rfl := (Option.some.inj hx).symm; exact PySem.W.mg_of X G a15)
    | 16, _, hx => (obtain rfl := (Option.some.inj hx).symm; exact PySem.W.mg_of X G a16)
    | 17, _, hx => (obtain rfl := (Option.some.inj hx).symm; exact PySem.W.mg_of X G a17)
    | 18, _, hx => (obtain rfl := (Option.some.inj hx).symm; exact PySem.W.mg_of X G a18)
    | 19, _, hx => (obtain rfl := (Option.some.inj hx).symm; exact PySem.W.mg_of X G a19)
    | 20, _, hx => (obtain rfl := (Option.some.inj hx).symm; exact PySem.W.mg_of X G a20)
    | 21, _, hx => (obtain rfl := (Option.some.inj hx).symm; exact PySem.W.mg_of X G a21)
    | 22, _, hx => (obtain rfl := (Option.some.inj hx).symm; exact PySem.W.mg_of X G a22)
    | 23, _, hx => (obtain rfl := (Option.some.inj hx).symm; exact PySem.W.mg_of X G a23)
    | 24, _, hx => (obtain rfl := (Option.some.inj hx).symm; exact PySem.W.mg_of X G a24)
    | 25, _, hx => (obtain rfl := (Option.some.inj hx).symm; exact PySem.W.mg_of X G a25)
    | _ + 26, _, hx => exact nomatch hx
  have T : TxtC K mg (fun i => [c0, c1, c2, c3, c4, c5, c6, c7, c8, c9, c10, c11, c12, c13, c14, c15, c16, c17, c18, c19, c20, c21, c22, c23, c24, c25].getD i 0) B :=
    { isinstance := PySem.W.mg_none_of X G z_isinstance, repr := PySem.W.mg_none_of X G z_repr, range := PySem.W.mg_none_of X G z_range, mB := BT.m, mV := PySem.W.mg_none_of X G z_ValueError, m := MM,
      xf := fun i hi => (OX i hi).xf, ec := fun i hi => (OX i hi).ec, nof := NO, kit := fun i j hi hj => (kt i hi).2.2 j hj, kB := fun i hi => (kt i hi).1, kV := fun i hi => (kt i hi).2.1,
      exi := fun i h19 hi => by
        have z := (ck' i hi).2.2
        rw [decide_eq_false (by omega : ¬ i < 19), Bool.false_or] at z
        exact z
      kC := fun i _ hi => (OX i hi).kp }
  have Cl : ∀ {base : Heap} (i : Nat) (x : Str), Names[i]? = some x → i < 19 → ClsOk l.prog w K mg base x ([c0, c1, c2, c3, c4, c5, c6, c7, c8, c9, c10, c11, c12, c13, c14, c15, c16, c17, c18, c19, c20, c21, c22, c23, c24, c25].getD i 0) (flds i) := fun {base} i x hx hi => by
    match i, x, hx, hi with
    | 0, x, hx, _ => 
      obtain rfl : x = "BadName" := (Option.some.inj hx).symm
      exact ⟨oexC (C := c0) ⟨_, _, _, _, _, _, _, _, _, _, _, _, _, _, _, x0, r0⟩ (OX 0 (by decide)), PySem.W.mg_of X G a0, fun f hf => NO 0 (by decide) f (flds_all 0 (by decide) f hf),
        ⟨fi0, _, P_i0, n0, t0, ok_i0 BT (fun_mk (st := s_i0) l0 d0 p0), (fun_mk (st := s_i0) l0 d0 p0).binds (ps := P_i0) fun _ _ _ _ _ _ us hl => match us, hl with | [_, _], _ => rfl⟩⟩
    | 1, x, hx, _ => 
      obtain rfl : x = "NameTaken" := (Option.some.inj hx).symm
      exact ⟨oexC (C := c1) ⟨_, _, _, _, _, _, _, _, _, _, _, _, _, _, _, x1, r1⟩ (OX 1 (by decide)), PySem.W.mg_of X G a1, fun f hf => NO 1 (by decide) f (flds_all 1 (by decide) f hf),
        ⟨fi1, _, P_i1, n1, t1, ok_i1 BT (fun_mk (st := s_i1) l1 d1 p1), (fun_mk (st := s_i1) l1 d1 p1).binds (ps := P_i1) fun _ _ _ _ _ _ us hl => match us, hl with | [_, _], _ => rfl⟩⟩
    | 2, x, hx, _ => 
      obtain rfl : x = "UnknownName" := (Option.some.inj hx).symm
      exact ⟨oexC (C := c2) ⟨_, _, _, _, _, _, _, _, _, _, _, _, _, _, _, x2, r2⟩ (OX 2 (by decide)), PySem.W.mg_of X G a2, fun f hf => NO 2 (by decide) f (flds_all 2 (by decide) f hf),
        ⟨fi2, _, P_i2, n2, t2, ok_i2 BT (fun_mk (st := s_i2) l2 d2 p2), (fun_mk (st := s_i2) l2 d2 p2).binds (ps := P_i2) fun _ _ _ _ _ _ us hl => match us, hl with | [_, _], _ => rfl⟩⟩
    | 3, x, hx, _ => 
      obtain rfl : x = "InUse" := (Option.some.inj hx).symm
      exact ⟨oexC (C := c3) ⟨_, _, _, _, _, _, _, _, _, _, _, _, _, _, _, x3, r3⟩ (OX 3 (by decide)), PySem.W.mg_of X G a3, fun f hf => NO 3 (by decide) f (flds_all 3 (by decide) f hf),
        ⟨fi3, _, P_i3, n3, t3, ok_i3 BT (fun_mk (st := s_i3) l3 d3 p3), (fun_mk (st := s_i3) l3 d3 p3).binds (ps := P_i3) fun _ _ _ _ _ _ us hl => match us, hl with | [_, _], _ => rfl⟩⟩
    | 4, x, hx, _ => 
      obtain rfl : x = "Circular" := (Option.some.inj hx).symm
      exact ⟨oexC (C := c4) ⟨_, _, _, _, _, _, _, _, _, _, _, _, _, _, _, x4, r4⟩ (OX 4 (by decide)), PySem.W.mg_of X G a4, fun f hf => NO 4 (by decide) f (flds_all 4 (by decide) f hf),
        ⟨fi4, _, P_i4, n4, t4, ok_i4 BT (fun_mk (st := s_i4) l4 d4 p4), (fun_mk (st := s_i4) l4 d4 p4).binds (ps := P_i4) fun _ _ _ _ _ _ us hl => match us, hl with | [_, _], _ => rfl⟩⟩
    | 5, x, hx, _ => 
      obtain rfl : x = "NoRoom" := (Option.some.inj hx).symm
      exact ⟨oexC (C := c5) ⟨_, _, _, _, _, _, _, _, _, _, _, _, _, _, _, x5, r5⟩ (OX 5 (by decide)), PySem.W.mg_of X G a5, fun f hf => NO 5 (by decide) f (flds_all 5 (by decide) f hf),
        ⟨fi5, _, P_i5, n5, t5, ok_i5 BT (fun_mk (st := s_i5) l5 d5 p5), (fun_mk (st := s_i5) l5 d5 p5).binds (ps := P_i5) fun _ _ _ _ _ _ us hl => match us, hl with | [_, _], _ => rfl⟩⟩
    | 6, x, hx, _ => 
      obtain rfl : x = "LeftOver" := (Option.some.inj hx).symm
      exact ⟨oexC (C := c6) ⟨_, _, _, _, _, _, _, _, _, _, _, _, _, _, _, x6, r6⟩ (OX 6 (by decide)), PySem.W.mg_of X G a6, fun f hf => NO 6 (by decide) f (flds_all 6 (by decide) f hf),
        ⟨fi6, _, P_i6, n6, t6, ok_i6 BT (fun_mk (st := s_i6) l6 d6 p6), (fun_mk (st := s_i6) l6 d6 p6).binds (ps := P_i6) fun _ _ _ _ _ _ us hl => match us, hl with | [_, _], _ => rfl⟩⟩
    | 7, x, hx, _ => 
      obtain rfl : x = "WrongHold" := (Option.some.inj hx).symm
      exact ⟨oexC (C := c7) ⟨_, _, _, _, _, _, _, _, _, _, _, _, _, _, _, x7, r7⟩ (OX 7 (by decide)), PySem.W.mg_of X G a7, fun f hf => NO 7 (by decide) f (flds_all 7 (by decide) f hf),
        ⟨fi7, _, P_i7, n7, t7, ok_i7 BT (fun_mk (st := s_i7) l7 d7 p7), (fun_mk (st := s_i7) l7 d7 p7).binds (ps := P_i7) fun _ _ _ _ _ _ us hl => match us, hl with | [_, _], _ => rfl⟩⟩
    | 8, x, hx, _ => 
      obtain rfl : x = "BadKind" := (Option.some.inj hx).symm
      exact ⟨oexC (C := c8) ⟨_, _, _, _, _, _, _, _, _, _, _, _, _, _, _, x8, r8⟩ (OX 8 (by decide)), PySem.W.mg_of X G a8, fun f hf => NO 8 (by decide) f (flds_all 8 (by decide) f hf),
        ⟨fi8, _, P_i8, n8, t8, ok_i8 BT (fun_mk (st := s_i8) l8 d8 p8), (fun_mk (st := s_i8) l8 d8 p8).binds (ps := P_i8) fun _ _ _ _ _ _ us hl => match us, hl with | [_, _], _ => rfl⟩⟩
    | 9, x, hx, _ => 
      obtain rfl : x = "TextError" := (Option.some.inj hx).symm
      exact ⟨oexC (C := c9) ⟨_, _, _, _, _, _, _, _, _, _, _, _, _, _, _, x9, r9⟩ (OX 9 (by decide)), PySem.W.mg_of X G a9, fun f hf => NO 9 (by decide) f (flds_all 9 (by decide) f hf),
        ⟨fi9, _, P_i9, n9, t9, ok_i9 BT (fun_mk (st := s_i9) l9 d9 p9), (fun_mk (st := s_i9) l9 d9 p9).binds (ps := P_i9) fun _ _ _ _ _ _ us hl => match us, hl with | [_, _], _ => rfl⟩⟩
    | 10, x, hx, _ => 
      obtain rfl : x = "NoPart" := (Option.some.inj hx).symm
      exact ⟨oexC (C := c10) ⟨_, _, _, _, _, _, _, _, _, _, _, _, _, _, _, x10, r10⟩ (OX 10 (by decide)), PySem.W.mg_of X G a10, fun f hf => NO 10 (by decide) f (flds_all 10 (by decide) f hf),
        ⟨fi10, _, P_i10, n10, t10, ok_i10 BT (fun_mk (st := s_i10) l10 d10 p10), (fun_mk (st := s_i10) l10 d10 p10).binds (ps := P_i10) fun _ _ _ _ _ _ us hl => match us, hl with | [_, _], _ => rfl⟩⟩
    | 11, x, hx, _ => 
      obtain rfl : x = "NotBare" := (Option.some.inj hx).symm
      exact ⟨oexC (C := c11) ⟨_, _, _, _, _, _, _, _, _, _, _, _, _, _, _, x11, r11⟩ (OX 11 (by decide)), PySem.W.mg_of X G a11, fun f hf => NO 11 (by decide) f (flds_all 11 (by decide) f hf),
        ⟨fi11, _, P_i11, n11, t11, ok_i11 BT (fun_mk (st := s_i11) l11 d11 p11), (fun_mk (st := s_i11) l11 d11 p11).binds (ps := P_i11) fun _ _ _ _ _ _ us hl => match us, hl with | [_, _], _ => rfl⟩⟩
    | 12, x, hx, _ => 
      obtain rfl : x = "DerivationError" := (Option.some.inj hx).symm
      exact ⟨oexC (C := c12) ⟨_, _, _, _, _, _, _, _, _, _, _, _, _, _, _, x12, r12⟩ (OX 12 (by decide)), PySem.W.mg_of X G a12, fun f hf => NO 12 (by decide) f (flds_all 12 (by decide) f hf),
        ⟨fi12, _, P_i12, n12, t12, ok_i12 BT (fun_mk (st := s_i12) l12 d12 p12), (fun_mk (st := s_i12) l12 d12 p12).binds (ps := P_i12) fun _ _ _ _ _ _ us hl => match us, hl with | [_, _, _], _ => rfl⟩⟩
    | 13, x, hx, _ => 
      obtain rfl : x = "NoStep" := (Option.some.inj hx).symm
      exact ⟨oexC (C := c13) ⟨_, _, _, _, _, _, _, _, _, _, _, _, _, _, _, x13, r13⟩ (OX 13 (by decide)), PySem.W.mg_of X G a13, fun f hf => NO 13 (by decide) f (flds_all 13 (by decide) f hf),
        ⟨fi13, _, P_i13, n13, t13, ok_i13 BT (fun_mk (st := s_i13) l13 d13 p13), (fun_mk (st := s_i13) l13 d13 p13).binds (ps := P_i13) fun _ _ _ _ _ _ us hl => match us, hl with | [_, _, _], _ => rfl⟩⟩
    | 14, x, hx, _ => 
      obtain rfl : x = "NoMeeting" := (Option.some.inj hx).symm
      exact ⟨oexC (C := c14) ⟨_, _, _, _, _, _, _, _, _, _, _, _, _, _, _, x14, r14⟩ (OX 14 (by decide)), PySem.W.mg_of X G a14, fun f hf => NO 14 (by decide) f (flds_all 14 (by decide) f hf),
        ⟨fi14, _, P_i14, n14, t14, ok_i14 BT (fun_mk (st := s_i14) l14 d14 p14), (fun_mk (st := s_i14) l14 d14 p14).binds (ps := P_i14) fun _ _ _ _ _ _ us hl => match us, hl with | [_, _, _, _], _ => rfl⟩⟩
    | 15, x, hx, _ => 
      obtain rfl : x = "BadWorld" := (Option.some.inj hx).symm
      exact ⟨oexC (C := c15) ⟨_, _, _, _, _, _, _, _, _, _, _, _, _, _, _, x15, r15⟩ (OX 15 (by decide)), PySem.W.mg_of X G a15, fun f hf => NO 15 (by decide) f (flds_all 15 (by decide) f hf),
        ⟨fi15, _, P_i15, n15, t15, ok_i15 BT (fun_mk (st := s_i15) l15 d15 p15), (fun_mk (st := s_i15) l15 d15 p15).binds (ps := P_i15) fun _ _ _ _ _ _ us hl => match us, hl with | [_, _], _ => rfl⟩⟩
    | 16, x, hx, _ => 
      obtain rfl : x = "WorldTooLarge" := (Option.some.inj hx).symm
      exact ⟨oexC (C := c16) ⟨_, _, _, _, _, _, _, _, _, _, _, _, _, _, _, x16, r16⟩ (OX 16 (by decide)), PySem.W.mg_of X G a16, fun f hf => NO 16 (by decide) f (flds_all 16 (by decide) f hf),
        ⟨fi16, _, P_i16, n16, t16, ok_i16 BT (fun_mk (st := s_i16) l16 d16 p16), (fun_mk (st := s_i16) l16 d16 p16).binds (ps := P_i16) fun _ _ _ _ _ _ us hl => match us, hl with | [_, _], _ => rfl⟩⟩
    | 17, x, hx, _ => 
      obtain rfl : x = "NoGoal" := (Option.some.inj hx).symm
      exact ⟨oexC (C := c17) ⟨_, _, _, _, _, _, _, _, _, _, _, _, _, _, _, x17, r17⟩ (OX 17 (by decide)), PySem.W.mg_of X G a17, fun f hf => NO 17 (by decide) f (flds_all 17 (by decide) f hf),
        ⟨fi17, _, P_i17, n17, t17, ok_i17 BT (fun_mk (st := s_i17) l17 d17 p17), (fun_mk (st := s_i17) l17 d17 p17).binds (ps := P_i17) fun _ _ _ _ _ _ us hl => match us, hl with | [_, _], _ => rfl⟩⟩
    | 18, x, hx, _ => 
      obtain rfl : x = "GoalsLeft" := (Option.some.inj hx).symm
      exact ⟨oexC (C := c18) ⟨_, _, _, _, _, _, _, _, _, _, _, _, _, _, _, x18, r18⟩ (OX 18 (by decide)), PySem.W.mg_of X G a18, fun f hf => NO 18 (by decide) f (flds_all 18 (by decide) f hf),
        ⟨fi18, _, P_i18, n18, t18, ok_i18 BT (fun_mk (st := s_i18) l18 d18 p18), (fun_mk (st := s_i18) l18 d18 p18).binds (ps := P_i18) fun _ _ _ _ _ _ us hl => match us, hl with | [_, _], _ => rfl⟩⟩
    | _ + 19, _, _, h => exact absurd h (by omega)
  have S_cell : Stands K mg "_law_cell" s_cell P_cell := ⟨f_cell, _, fun_mk (st := s_cell) l_cell d_cell p_cell, PySem.W.mg_of X G a_cell, (fun_mk (st := s_cell) l_cell d_cell p_cell).binds (ps := P_cell) fun _ _ _ _ _ _ us hl => match us, hl with | [_, _], _ => rfl⟩
  have S_pool : Stands K mg "_law_pool" s_pool P_pool := ⟨f_pool, _, fun_mk (st := s_pool) l_pool d_pool p_pool, PySem.W.mg_of X G a_pool, (fun_mk (st := s_pool) l_pool d_pool p_pool).binds (ps := P_pool) fun _ _ _ _ _ _ us hl => match us, hl with | [_, _], _ => rfl⟩
  have S_next : Stands K mg "_law_next" s_next P_next := ⟨f_next, _, fun_mk (st := s_next) l_next d_next p_next, PySem.W.mg_of X G a_next, (fun_mk (st := s_next) l_next d_next p_next).binds (ps := P_next) fun _ _ _ _ _ _ us hl => match us, hl with | [_, _], _ => rfl⟩
  have S_text : Stands K mg "_law_text" s_text P_text := ⟨f_text, _, fun_mk (st := s_text) l_text d_text p_text, PySem.W.mg_of X G a_text, (fun_mk (st := s_text) l_text d_text p_text).binds (ps := P_text) fun _ _ _ _ _ _ us hl => match us, hl with | [_], _ => rfl⟩
  have S_number : Stands K mg "_law_number" s_number P_number := ⟨f_number, _, fun_mk (st := s_number) l_number d_number p_number, PySem.W.mg_of X G a_number, (fun_mk (st := s_number) l_number d_number p_number).binds (ps := P_number) fun _ _ _ _ _ _ us hl => match us, hl with | [_], _ => rfl⟩
  have S_path : Stands K mg "_law_path" s_path P_path := ⟨f_path, _, fun_mk (st := s_path) l_path d_path p_path, PySem.W.mg_of X G a_path, (fun_mk (st := s_path) l_path d_path p_path).binds (ps := P_path) fun _ _ _ _ _ _ us hl => match us, hl with | [_], _ => rfl⟩
  have S_kind : Stands K mg "_law_kind" s_kind P_kind := ⟨f_kind, _, fun_mk (st := s_kind) l_kind d_kind p_kind, PySem.W.mg_of X G a_kind, (fun_mk (st := s_kind) l_kind d_kind p_kind).binds (ps := P_kind) fun _ _ _ _ _ _ us hl => match us, hl with | [_], _ => rfl⟩
  have S_values : Stands K mg "_law_values" s_values P_values := ⟨f_values, _, fun_mk (st := s_values) l_values d_values p_values, PySem.W.mg_of X G a_values, (fun_mk (st := s_values) l_values d_values p_values).binds (ps := P_values) fun _ _ _ _ _ _ us hl => match us, hl with | [_, _], _ => rfl⟩
  have S_named : Stands K mg "_law_named" s_named P_named := ⟨f_named, _, fun_mk (st := s_named) l_named d_named p_named, PySem.W.mg_of X G a_named, (fun_mk (st := s_named) l_named d_named p_named).binds (ps := P_named) fun _ _ _ _ _ _ us hl => match us, hl with | [_, _], _ => rfl⟩
  have S_plain : Stands K mg "_law_plain" s_plain P_plain := ⟨f_plain, _, fun_mk (st := s_plain) l_plain d_plain p_plain, PySem.W.mg_of X G a_plain, (fun_mk (st := s_plain) l_plain d_plain p_plain).binds (ps := P_plain) fun _ _ _ _ _ _ us hl => match us, hl with | [_], _ => rfl⟩
  have S_made : Stands K mg "_law_made" s_made P_made := ⟨f_made, _, fun_mk (st := s_made) l_made d_made p_made, PySem.W.mg_of X G a_made, (fun_mk (st := s_made) l_made d_made p_made).binds (ps := P_made) fun _ _ _ _ _ _ us hl => match us, hl with | [_, _], _ => rfl⟩
  have S_fields : Stands K mg "_law_fields" s_fields P_fields := ⟨f_fields, _, fun_mk (st := s_fields) l_fields d_fields p_fields, PySem.W.mg_of X G a_fields, (fun_mk (st := s_fields) l_fields d_fields p_fields).binds (ps := P_fields) fun _ _ _ _ _ _ us hl => match us, hl with | [_, _], _ => rfl⟩
  have S_marks : Stands K mg "_law_marks" s_marks P_marks := ⟨f_marks, _, fun_mk (st := s_marks) l_marks d_marks p_marks, PySem.W.mg_of X G a_marks, (fun_mk (st := s_marks) l_marks d_marks p_marks).binds (ps := P_marks) fun _ _ _ _ _ _ us hl => match us, hl with | [_], _ => rfl⟩
  have S_is_due : Stands K mg "_law_is_due" s_is_due P_is_due := ⟨f_is_due, _, fun_mk (st := s_is_due) l_is_due d_is_due p_is_due, PySem.W.mg_of X G a_is_due, (fun_mk (st := s_is_due) l_is_due d_is_due p_is_due).binds (ps := P_is_due) fun _ _ _ _ _ _ us hl => match us, hl with | [_, _, _], _ => rfl⟩
  exact ⟨PySem.W.fnOf "law" "law" (defArgs s_law) (defBody s_law) (defScope s_law) .none kV_law dc_law pm_law an_law cd_law ct_law, fun s v => .of_eq rfl, fun base _ _ =>
    all_law TA T (Cl (base := base)) S_cell S_pool S_next S_text S_number S_path S_kind S_values S_named S_plain S_made S_fields S_marks S_is_due (fun_mk (st := s_law) l_law d_law p_law)⟩
end K65
open PySem PySem.W PyProof.Rows
set_option Elab.async false
set_option maxRecDepth 100000 in
set_option maxHeartbeats 0 in
theorem PySem.Challenge.cw_heldproofs_k65_errors_made_holds : PySem.Challenge.rw_heldproofs_k65_errors_made.Holds := by
  w_on; o_law; k_head; (case hw => w_witness2)
  k_fill
  refine GuardFn.walk_ofG (l := PySem.Challenge.rw_heldproofs_k65_errors_made) (n := 63) (k := 5) (x := "_law_script") (sp := K65.spLaw) rfl (by decide) rfl ⟨rfl, by decide, by decide⟩ (fun w h Y => PySem.W.kIn_of Y) ?F (fun K H a ns hl _ hS => ⟨a, ns, rfl, hS, hl, fun _ => rfl⟩)
  case F =>
    intro w mg fa h KX G hmg
    refine' K65.all_mk KX G hmg ?a0 ?a1 ?a2 ?a3 ?a4 ?a5 ?a6 ?a7 ?a8 ?a9 ?a10 ?a11 ?a12 ?a13 ?a14 ?a15 ?a16 ?a17 ?a18 ?a19 ?a20 ?a21 ?a22 ?a23 ?a24 ?a25 ?aB ?x0 ?r0 ?n0 ?t0 ?l0 ?d0 ?p0 ?x1 ?r1 ?n1 ?t1 ?l1 ?d1 ?p1 ?x2 ?r2 ?n2 ?t2 ?l2 ?d2 ?p2 ?x3 ?r3 ?n3 ?t3 ?l3 ?d3 ?p3 ?x4 ?r4 ?n4 ?t4 ?l4 ?d4 ?p4 ?x5 ?r5 ?n5 ?t5 ?l5 ?d5 ?p5 ?x6 ?r6 ?n6 ?t6 ?l6 ?d6 ?p6 ?x7 ?r7 ?n7 ?t7 ?l7 ?d7 ?p7 ?x8 ?r8 ?n8 ?t8 ?l8 ?d8 ?p8 ?x9 ?r9 ?n9 ?t9 ?l9 ?d9 ?p9 ?x10 ?r10 ?n10 ?t10 ?l10 ?d10 ?p10 ?x11 ?r11 ?n11 ?t11 ?l11 ?d11 ?p11 ?x12 ?r12 ?n12 ?t12 ?l12 ?d12 ?p12 ?x13 ?r13 ?n13 ?t13 ?l13 ?d13 ?p13 ?x14 ?r14 ?n14 ?t14 ?l14 ?d14 ?p14 ?x15 ?r15 ?n15 ?t15 ?l15 ?d15 ?p15 ?x16 ?r16 ?n16 ?t16 ?l16 ?d16 ?p16 ?x17 ?r17 ?n17 ?t17 ?l17 ?d17 ?p17 ?x18 ?r18 ?n18 ?t18 ?l18 ?d18 ?p18 ?a_cell ?l_cell ?d_cell ?p_cell ?a_pool ?l_pool ?d_pool ?p_pool ?a_next ?l_next ?d_next ?p_next ?a_text ?l_text ?d_text ?p_text ?a_number ?l_number ?d_number ?p_number ?a_path ?l_path ?d_path ?p_path ?a_kind ?l_kind ?d_kind ?p_kind ?a_values ?l_values ?d_values ?p_values ?a_named ?l_named ?d_named ?p_named ?a_plain ?l_plain ?d_plain ?p_plain ?a_made ?l_made ?d_made ?p_made ?a_fields ?l_fields ?d_fields ?p_fields ?a_marks ?l_marks ?d_marks ?p_marks ?a_is_due ?l_is_due ?d_is_due ?p_is_due ?a_law ?l_law ?d_law ?p_law ?z_abs ?z_len ?z_int ?z_range ?z_tuple ?z_isinstance ?z_repr ?z_ValueError ?bs ?bt ?br ?bf ?ck
    (case a0 => k_is)
    (case a1 => k_is)
    (case a2 => k_is)
    (case a3 => k_is)
    (case a4 => k_is)
    (case a5 => k_is)
    (case a6 => k_is)
    (case a7 => k_is)
    (case a8 => k_is)
    (case a9 => k_is)
    (case a10 => k_is)
    (case a11 => k_is)
    (case a12 => k_is)
    (case a13 => k_is)
    (case a14 => k_is)
    (case a15 => k_is)
    (case a16 => k_is)
    (case a17 => k_is)
    (case a18 => k_is)
    (case a19 => k_is)
    (case a20 => k_is)
    (case a21 => k_is)
    (case a22 => k_is)
    (case a23 => k_is)
    (case a24 => k_is)
    (case a25 => k_is)
    (case aB => k_is)
    (case x0 => k_is)
    (case r0 => first | rfl | decide +kernel)
    (case n0 => k_is)
    (case t0 => k_is)
    (case l0 => k_is)
    (case d0 => k_is)
    (case p0 => k_is)
    (case x1 => k_is)
    (case r1 => first | rfl | decide +kernel)
    (case n1 => k_is)
    (case t1 => k_is)
    (case l1 => k_is)
    (case d1 => k_is)
    (case p1 => k_is)
    (case x2 => k_is)
    (case r2 => first | rfl | decide +kernel)
    (case n2 => k_is)
    (case t2 => k_is)
    (case l2 => k_is)
    (case d2 => k_is)
    (case p2 => k_is)
    (case x3 => k_is)
    (case r3 => first | rfl | decide +kernel)
    (case n3 => k_is)
    (case t3 => k_is)
    (case l3 => k_is)
    (case d3 => k_is)
    (case p3 => k_is)
    (case x4 => k_is)
    (case r4 => first | rfl | decide +kernel)
    (case n4 => k_is)
    (case t4 => k_is)
    (case l4 => k_is)
    (case d4 => k_is)
    (case p4 => k_is)
    (case x5 => k_is)
    (case r5 => first | rfl | decide +kernel)
    (case n5 => k_is)
    (case t5 => k_is)
    (case l5 => k_is)
    (case d5 => k_is)
    (case p5 => k_is)
    (case x6 => k_is)
    (case r6 => first | rfl | decide +kernel)
    (case n6 => k_is)
    (case t6 => k_is)
    (case l6 => k_is)
    (case d6 => k_is)
    (case p6 => k_is)
    (case x7 => k_is)
    (case r7 => first | rfl | decide +kernel)
    (case n7 => k_is)
    (case t7 => k_is)
    (case l7 => k_is)
    (case d7 => k_is)
    (case p7 => k_is)
    (case x8 => k_is)
    (case r8 => first | rfl | decide +kernel)
    (case n8 => k_is)
    (case t8 => k_is)
    (case l8 => k_is)
    (case d8 => k_is)
    (case p8 => k_is)
    (case x9 => k_is)
    (case r9 => first | rfl | decide +kernel)
    (case n9 => k_is)
    (case t9 => k_is)
    (case l9 => k_is)
    (case d9 => k_is)
    (case p9 => k_is)
    (case x10 => k_is)
    (case r10 => first | rfl | decide +kernel)
    (case n10 => k_is)
    (case t10 => k_is)
    (case l10 => k_is)
    (case d10 => k_is)
    (case p10 => k_is)
    (case x11 => k_is)
    (case r11 => first | rfl | decide +kernel)
    (case n11 => k_is)
    (case t11 => k_is)
    (case l11 => k_is)
    (case d11 => k_is)
    (case p11 => k_is)
    (case x12 => k_is)
    (case r12 => first | rfl | decide +kernel)
    (case n12 => k_is)
    (case t12 => k_is)
    (case l12 => k_is)
    (case d12 => k_is)
    (case p12 => k_is)
    (case x13 => k_is)
    (case r13 => first | rfl | decide +kernel)
    (case n13 => k_is)
    (case t13 => k_is)
    (case l13 => k_is)
    (case d13 => k_is)
    (case p13 => k_is)
    (case x14 => k_is)
    (case r14 => first | rfl | decide +kernel)
    (case n14 => k_is)
    (case t14 => k_is)
    (case l14 => k_is)
    (case d14 => k_is)
    (case p14 => k_is)
    (case x15 => k_is)
    (case r15 => first | rfl | decide +kernel)
    (case n15 => k_is)
    (case t15 => k_is)
    (case l15 => k_is)
    (case d15 => k_is)
    (case p15 => k_is)
    (case x16 => k_is)
    (case r16 => first | rfl | decide +kernel)
    (case n16 => k_is)
    (case t16 => k_is)
    (case l16 => k_is)
    (case d16 => k_is)
    (case p16 => k_is)
    (case x17 => k_is)
    (case r17 => first | rfl | decide +kernel)
    (case n17 => k_is)
    (case t17 => k_is)
    (case l17 => k_is)
    (case d17 => k_is)
    (case p17 => k_is)
    (case x18 => k_is)
    (case r18 => first | rfl | decide +kernel)
    (case n18 => k_is)
    (case t18 => k_is)
    (case l18 => k_is)
    (case d18 => k_is)
    (case p18 => k_is)
    (case a_cell => k_is)
    (case l_cell => k_is)
    (case d_cell => k_is)
    (case p_cell => k_is)
    (case a_pool => k_is)
    (case l_pool => k_is)
    (case d_pool => k_is)
    (case p_pool => k_is)
    (case a_next => k_is)
    (case l_next => k_is)
    (case d_next => k_is)
    (case p_next => k_is)
    (case a_text => k_is)
    (case l_text => k_is)
    (case d_text => k_is)
    (case p_text => k_is)
    (case a_number => k_is)
    (case l_number => k_is)
    (case d_number => k_is)
    (case p_number => k_is)
    (case a_path => k_is)
    (case l_path => k_is)
    (case d_path => k_is)
    (case p_path => k_is)
    (case a_kind => k_is)
    (case l_kind => k_is)
    (case d_kind => k_is)
    (case p_kind => k_is)
    (case a_values => k_is)
    (case l_values => k_is)
    (case d_values => k_is)
    (case p_values => k_is)
    (case a_named => k_is)
    (case l_named => k_is)
    (case d_named => k_is)
    (case p_named => k_is)
    (case a_plain => k_is)
    (case l_plain => k_is)
    (case d_plain => k_is)
    (case p_plain => k_is)
    (case a_made => k_is)
    (case l_made => k_is)
    (case d_made => k_is)
    (case p_made => k_is)
    (case a_fields => k_is)
    (case l_fields => k_is)
    (case d_fields => k_is)
    (case p_fields => k_is)
    (case a_marks => k_is)
    (case l_marks => k_is)
    (case d_marks => k_is)
    (case p_marks => k_is)
    (case a_is_due => k_is)
    (case l_is_due => k_is)
    (case d_is_due => k_is)
    (case p_is_due => k_is)
    (case a_law => k_is)
    (case l_law => k_is)
    (case d_law => k_is)
    (case p_law => k_is)
    (case z_abs => k_is)
    (case z_len => k_is)
    (case z_int => k_is)
    (case z_range => k_is)
    (case z_tuple => k_is)
    (case z_isinstance => k_is)
    (case z_repr => k_is)
    (case z_ValueError => k_is)
    (case bs => k_is)
    (case bt => k_is)
    (case br => k_is)
    (case bf => k_is)
    (case ck => kernel_rfl)
